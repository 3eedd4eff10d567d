import PyProof.Rows.All
import Wide.All
import OpenK.AllK
import Wide.FinOn
import HandS.Evl
import HandS.ExcIs
import HandS.ForExc
import HandS.ForMost
import HandS.Head0
import HandS.Head1
import HandS.Head2
import HandS.HeadEnd
import HandS.HeadHook2
import HandS.HeadHook3
import HandS.HeadHook4
import HandS.IsInst
import HandS.Iter
import HandS.SortInts
import HandS.Style
import HandS.Text
import PySem.Challenge.RW_pageseen_k16_trimmed_splices
set_option Elab.async false
set_option linter.all false
set_option autoImplicit false
set_option maxRecDepth 100000
set_option maxHeartbeats 2000000
/-! A layer of plain data over the hand layer: a value is told as a datum D, the heap is out of sight. -/
namespace PL
open PySem PySem.Spec PyProof.Rows L2
open Evl (Ex)
abbrev St := L2.St

/-- a datum: what a value is, all the way down. frl: a list that is only read -/
inductive D where
  | non | bl (b : Bool) | int (i : Int) | str (x : Str)
  | lst (xs : List D) | tup (xs : List D)
  | dic (kvs : List (Key × D))
  | frl (xs : List D)
  | vl (v : V)
  | pool
/-- a datum, or the list (the dict) that the name in slot i owns -/
inductive T where
  | d (d : D)
  | l (i : Nat)

/-- the stream of numbers: a list of ints whose first one is a place in it -/
def PoolOk (ns : List Int) : Prop := 2 ≤ ns.length ∧ ns.length ≤ 1000000 ∧ ∃ c, ns[0]? = some c ∧ 1 ≤ c ∧ c < (ns.length : Int)
def PoolAt (a : Addr) : Heap → Prop := fun h => ∃ (its : List Value) (n : Nat) (ns : List Int), h.get? a = some { cls := .type "list", data := .seq its.toArray n } ∧ Vals (ns.map V.int) its ∧ PoolOk ns

/-- a list that is only read: locked, or of the written part -/
def FrL (K : PySem.W.Frag) (H : Hp) (a : Addr) (xs : List V) : Prop := (∃ o, H a = some (.frz o (.lst xs))) ∨
  ∃ (o : Obj) (its : Array Value) (n : Nat), K.lookup a = some o ∧ o.cls = .type "list" ∧ o.dict = none ∧ o.data = .seq its n ∧ its.size ≤ sizeLine ∧ Vals xs its.toList
theorem FrL.sq {K : PySem.W.Frag} {H : Hp} {a : Addr} {xs : List V} (h : FrL K H a xs) : SqL K H a xs := by
  rcases h with ⟨o, h⟩ | h
  · exact .inl (.inr ⟨o, h⟩)
  · exact .inr h
theorem FrL.mono {K : PySem.W.Frag} {H H' : Hp} {a : Addr} {xs : List V} (e : Ex H H') (h : FrL K H a xs) : FrL K H' a xs := by
  rcases h with ⟨o, h⟩ | h
  · exact .inl ⟨o, e _ _ h⟩
  · exact .inr h
mutual
inductive Rep (K : PySem.W.Frag) (H : Hp) : V → D → Prop
  | non : Rep K H .non .non
  | bl (b : Bool) : Rep K H (.bl b) (.bl b)
  | int (i : Int) : Rep K H (.int i) (.int i)
  | str (x : Str) : Rep K H (.str x) (.str x)
  | lst {a : Addr} {xs : List V} {ds : List D} : H a = some (.lst xs) → Reps K H xs ds → Rep K H (.ref a) (.lst ds)
  | frl {a : Addr} {xs : List V} {ds : List D} : FrL K H a xs → Reps K H xs ds → Rep K H (.ref a) (.frl ds)
  | tup {a : Addr} {xs : List V} {ds : List D} : SqT K H a xs → Reps K H xs ds → Rep K H (.ref a) (.tup ds)
  | dic {a : Addr} {kvs : List (Key × V)} {ds : List (Key × D)} : H a = some (.dK kvs) → kvs.map (·.1) = ds.map (·.1) → Reps K H (kvs.map (·.2)) (ds.map (·.2)) → Rep K H (.ref a) (.dic ds)
  | vl (v : V) : Rep K H v (.vl v)
  | pool {a : Addr} : H a = some (.ext (PoolAt a)) → Rep K H (.ref a) .pool
inductive Reps (K : PySem.W.Frag) (H : Hp) : List V → List D → Prop
  | nil : Reps K H [] []
  | cons {v : V} {vs : List V} {d : D} {ds : List D} : Rep K H v d → Reps K H vs ds → Reps K H (v :: vs) (d :: ds)
end

section
variable {K : PySem.W.Frag} {H H' : Hp}
mutual
theorem Rep.mono (e : Ex H H') : ∀ {v : V} {d : D}, Rep K H v d → Rep K H' v d
  | _, _, .non => .non
  | _, _, .bl b => .bl b
  | _, _, .int i => .int i
  | _, _, .str x => .str x
  | _, _, .lst h r => .lst (e _ _ h) (Reps.mono e r)
  | _, _, .frl h r => .frl (h.mono e) (Reps.mono e r)
  | _, _, .tup h r => .tup (Evl.ex_t e h) (Reps.mono e r)
  | _, _, .dic h k r => .dic (e _ _ h) k (Reps.mono e r)
  | _, _, .vl v => .vl v
  | _, _, .pool h => .pool (e _ _ h)
theorem Reps.mono (e : Ex H H') : ∀ {vs : List V} {ds : List D}, Reps K H vs ds → Reps K H' vs ds
  | _, _, .nil => .nil
  | _, _, .cons r t => .cons (Rep.mono e r) (Reps.mono e t)
end
theorem Reps.len : ∀ {vs : List V} {ds : List D}, Reps K H vs ds → vs.length = ds.length
  | _, _, .nil => rfl
  | _, _, .cons _ t => by rw [List.length_cons, List.length_cons, Reps.len t]
theorem Reps.get : ∀ {vs : List V} {ds : List D} {i : Nat} {d : D}, Reps K H vs ds → ds[i]? = some d → ∃ v, vs[i]? = some v ∧ Rep K H v d
  | _, _, _, _, .nil, e => by simp at e
  | _, _, 0, _, .cons r _, e => by
    have e2 := Option.some.inj e
    subst e2
    exact ⟨_, rfl, r⟩
  | _, _, i + 1, d, .cons _ t, e => by
    obtain ⟨v, h1, h2⟩ := Reps.get (i := i) (d := d) t (by simpa using e)
    exact ⟨v, by simpa using h1, h2⟩
theorem Reps.getV : ∀ {vs : List V} {ds : List D} {i : Nat} {v : V}, Reps K H vs ds → vs[i]? = some v → ∃ d, ds[i]? = some d ∧ Rep K H v d
  | _, _, _, _, .nil, e => by simp at e
  | _, _, 0, _, .cons r _, e => by
    have e2 := Option.some.inj e
    subst e2
    exact ⟨_, rfl, r⟩
  | _, _, i + 1, d, .cons _ t, e => by
    obtain ⟨v, h1, h2⟩ := Reps.getV (i := i) (v := d) t (by simpa using e)
    exact ⟨v, by simpa using h1, h2⟩
theorem Reps.append : ∀ {vs ws : List V} {ds es : List D}, Reps K H vs ds → Reps K H ws es → Reps K H (vs ++ ws) (ds ++ es)
  | _, _, _, _, .nil, s => s
  | _, _, _, _, .cons r t, s => .cons r (Reps.append t s)
theorem Reps.take : ∀ {vs : List V} {ds : List D} (n : Nat), Reps K H vs ds → Reps K H (vs.take n) (ds.take n)
  | _, _, 0, _ => .nil
  | _, _, _ + 1, .nil => .nil
  | _, _, n + 1, .cons r t => .cons r (Reps.take n t)
theorem Reps.drop : ∀ {vs : List V} {ds : List D} (n : Nat), Reps K H vs ds → Reps K H (vs.drop n) (ds.drop n)
  | _, _, 0, r => r
  | _, _, _ + 1, .nil => .nil
  | _, _, n + 1, .cons _ t => Reps.drop n t
theorem Reps.set {v : V} {d : D} (r : Rep K H v d) : ∀ {vs : List V} {ds : List D} (i : Nat), Reps K H vs ds → Reps K H (vs.set i v) (ds.set i d)
  | _, _, _, .nil => .nil
  | _, _, 0, .cons _ t => .cons r t
  | _, _, i + 1, .cons q t => .cons q (Reps.set r i t)
theorem Reps.reverse : ∀ {vs : List V} {ds : List D}, Reps K H vs ds → Reps K H vs.reverse ds.reverse
  | _, _, .nil => .nil
  | _, _, .cons r t => by
    rw [List.reverse_cons, List.reverse_cons]
    exact Reps.append (Reps.reverse t) (.cons r .nil)
theorem Reps.ints : ∀ (ns : List Int), Reps K H (ns.map V.int) (ns.map D.int)
  | [] => .nil
  | n :: r => .cons (.int n) (Reps.ints r)
theorem Reps.bls : ∀ (ns : List Bool), Reps K H (ns.map V.bl) (ns.map D.bl)
  | [] => .nil
  | n :: r => .cons (.bl n) (Reps.bls r)
theorem Reps.strs : ∀ (ns : List Str), Reps K H (ns.map V.str) (ns.map D.str)
  | [] => .nil
  | n :: r => .cons (.str n) (Reps.strs r)
theorem Reps.inv_ints : ∀ {vs : List V} {ns : List Int}, Reps K H vs (ns.map D.int) → vs = ns.map V.int
  | _, [], .nil => rfl
  | _, n :: r, .cons h t => by
    cases h
    rw [Reps.inv_ints t] <;> rfl
theorem Reps.inv_bls : ∀ {vs : List V} {ns : List Bool}, Reps K H vs (ns.map D.bl) → vs = ns.map V.bl
  | _, [], .nil => rfl
  | _, n :: r, .cons h t => by
    cases h
    rw [Reps.inv_bls t] <;> rfl
theorem Reps.inv_strs : ∀ {vs : List V} {ns : List Str}, Reps K H vs (ns.map D.str) → vs = ns.map V.str
  | _, [], .nil => rfl
  | _, n :: r, .cons h t => by
    cases h
    rw [Reps.inv_strs t] <;> rfl
end

/-- what a name's slot holds: a datum, or a list (a dict) of its own -/
inductive S where
  | v (d : D)
  | o (xs : List D)
  | od (kvs : List (Key × D))
def S.own : S → Bool
  | .v _ => false
  | _ => true
abbrev PEnv := List (Option S)

def SlotOk (K : PySem.W.Frag) (F Hs : Hp) (σ : St) (H : Hp) (i : Nat) : S → Prop
  | .v d => ∃ v, σ[i]? = some (some v) ∧ Rep K Hs v d
  | .o ds => ∃ p vs, σ[i]? = some (some (.ref p)) ∧ Hs p = none ∧ F p = none ∧ H p = some (.lst vs) ∧ Reps K Hs vs ds
  | .od ds => ∃ p kvs, σ[i]? = some (some (.ref p)) ∧ Hs p = none ∧ F p = none ∧ H p = some (.dK kvs) ∧ kvs.map (·.1) = ds.map (·.1) ∧ Reps K Hs (kvs.map (·.2)) (ds.map (·.2))

/-- the state: F what others own, Hs what stands still, σ the slots, H the heap, ε what the slots hold -/
structure RelS (K : PySem.W.Frag) (F Hs : Hp) (σ : St) (H : Hp) (ε : PEnv) : Prop where
  ex : Ex Hs H
  fr : ∀ (p : Addr) (o : HO), F p = some o → H p = some o ∧ Hs p = none
  len : σ.length = ε.length
  sl : ∀ (i : Nat) (s : S), ε[i]? = some (some s) → SlotOk K F Hs σ H i s
  ds : ∀ (i j : Nat) (s t : S), i ≠ j → ε[i]? = some (some s) → ε[j]? = some (some t) → s.own = true → t.own = true → σ[i]? ≠ σ[j]?

/-- a value on the way: a datum, or a name's own -/
def RepT (K : PySem.W.Frag) (Hs : Hp) (σ : St) (v : V) : T → Prop
  | .d d => Rep K Hs v d
  | .l i => σ[i]? = some (some v)
theorem RepT.mono {K : PySem.W.Frag} {Hs Hs' : Hp} {σ : St} {v : V} : ∀ {t : T}, Ex Hs Hs' → RepT K Hs σ v t → RepT K Hs' σ v t
  | .d _, e, h => Rep.mono e h
  | .l _, _, h => h

/-- what is seen of a value: its own list, the items stand still -/
inductive RepV (K : PySem.W.Frag) (Hs H : Hp) : V → D → Prop
  | sc {v : V} {d : D} : Rep K Hs v d → RepV K Hs H v d
  | lst {a : Addr} {xs : List V} {ds : List D} : H a = some (.lst xs) → Reps K Hs xs ds → RepV K Hs H (.ref a) (.lst ds)
  | dic {a : Addr} {kvs : List (Key × V)} {ds : List (Key × D)} : H a = some (.dK kvs) → kvs.map (·.1) = ds.map (·.1) → Reps K Hs (kvs.map (·.2)) (ds.map (·.2)) → RepV K Hs H (.ref a) (.dic ds)

/-- what is there, for a look -/
def res (ε : PEnv) : T → (D → Prop) → Prop
  | .d d, Q => Q d
  | .l i, Q => match ε[i]? with
    | some (some (.v d)) => Q d
    | some (some (.o ds)) => Q (.lst ds)
    | some (some (.od ds)) => Q (.dic ds)
    | _ => False
/-- what is there, to be handed on: a name's own stands still from now on -/
def out (ε : PEnv) : T → (D → PEnv → Prop) → Prop
  | .d d, Q => Q d ε
  | .l i, Q => match ε[i]? with
    | some (some (.v d)) => Q d ε
    | some (some (.o ds)) => Q (.lst ds) (ε.set i (some (.v (.lst ds))))
    | some (some (.od ds)) => Q (.dic ds) (ε.set i (some (.v (.dic ds))))
    | _ => False

section
variable {K : PySem.W.Frag} {F Hs H : Hp} {σ : St} {ε : PEnv} {v : V} {d : D}
theorem RelS.res {t : T} {Q : D → Prop} (R : RelS K F Hs σ H ε) (h : RepT K Hs σ v t) (q : res ε t Q) : ∃ d, RepV K Hs H v d ∧ Q d := by
  cases t with
  | d d => exact ⟨d, .sc h, q⟩
  | l i =>
    have h : σ[i]? = some (some v) := h
    unfold PL.res at q
    dsimp only at q
    split at q
    · rename_i d e
      obtain ⟨w, h1, h2⟩ := R.sl i _ e
      rw [h] at h1
      cases h1
      exact ⟨_, .sc h2, q⟩
    · rename_i ds e
      obtain ⟨p, vs, h1, _, _, h2, h3⟩ := R.sl i _ e
      rw [h] at h1
      cases h1
      exact ⟨_, .lst h2 h3, q⟩
    · rename_i ds e
      obtain ⟨p, vs, h1, _, _, h2, h3, h4⟩ := R.sl i _ e
      rw [h] at h1
      cases h1
      exact ⟨_, .dic h2 h3 h4, q⟩
    · exact q.elim
theorem RepV.lst' {ds : List D} (h : RepV K Hs H v (.lst ds)) (ex : Ex Hs H) : ∃ a xs, v = .ref a ∧ H a = some (.lst xs) ∧ Reps K Hs xs ds := by
  cases h with
  | sc h =>
    cases h with
    | lst h r => exact ⟨_, _, rfl, ex _ _ h, r⟩
  | lst h r => exact ⟨_, _, rfl, h, r⟩
theorem RepV.frl' {ds : List D} (h : RepV K Hs H v (.frl ds)) (ex : Ex Hs H) : ∃ a xs, v = .ref a ∧ SqL K H a xs ∧ Reps K Hs xs ds := by
  cases h with
  | sc h =>
    cases h with
    | frl h r => exact ⟨_, _, rfl, Evl.ex_l ex h.sq, r⟩
theorem RepV.tup' {ds : List D} (h : RepV K Hs H v (.tup ds)) (ex : Ex Hs H) : ∃ a xs, v = .ref a ∧ SqT K H a xs ∧ Reps K Hs xs ds := by
  cases h with
  | sc h =>
    cases h with
    | tup h r => exact ⟨_, _, rfl, Evl.ex_t ex h, r⟩
theorem RepV.dic' {ds : List (Key × D)} (h : RepV K Hs H v (.dic ds)) (ex : Ex Hs H) : ∃ a kvs, v = .ref a ∧ H a = some (.dK kvs) ∧ kvs.map (·.1) = ds.map (·.1) ∧ Reps K Hs (kvs.map (·.2)) (ds.map (·.2)) := by
  cases h with
  | sc h =>
    cases h with
    | dic h k r => exact ⟨_, _, rfl, ex _ _ h, k, r⟩
  | dic h k r => exact ⟨_, _, rfl, h, k, r⟩
theorem RepV.int' {i : Int} (h : RepV K Hs H v (.int i)) : v = .int i := by
  cases h with
  | sc h => cases h; rfl
theorem RepV.str' {x : Str} (h : RepV K Hs H v (.str x)) : v = .str x := by
  cases h with
  | sc h => cases h; rfl
theorem RepV.bl' {b : Bool} (h : RepV K Hs H v (.bl b)) : v = .bl b := by
  cases h with
  | sc h => cases h; rfl
theorem RepV.non' (h : RepV K Hs H v .non) : v = .non := by
  cases h with
  | sc h => cases h; rfl
theorem RepV.vl' {u : V} (h : RepV K Hs H v (.vl u)) : v = u := by
  cases h with
  | sc h => cases h; rfl

theorem ex_upd {p : Addr} {o : HO} (h : Hs p = none) : Ex Hs (upd Hs p o) := Evl.Ex.new h

/-- a name's own list is handed on: from now on it stands still -/
theorem RelS.freeze (R : RelS K F Hs σ H ε) {i : Nat} {s : S} (e : ε[i]? = some (some s)) {o : HO} {d : D} {p : Addr} (hs : σ[i]? = some (some (.ref p))) (ho : s.own = true) (hp : Hs p = none) (hF : F p = none) (hH : H p = some o) (hr : Rep K (upd Hs p o) (.ref p) d) :
    RelS K F (upd Hs p o) σ H (ε.set i (some (.v d))) := by
  have ee : Ex Hs (upd Hs p o) := ex_upd hp
  have hi : i < ε.length := (List.getElem?_eq_some_iff.mp e).1
  refine ⟨fun a u q => ?_, fun a u q => ?_, by rw [List.length_set]; exact R.len, fun j t q => ?_, fun j k t u hn h1 h2 h3 h4 => ?_⟩
  · by_cases ha : a = p
    · subst ha
      rw [upd_same] at q
      cases q
      exact hH
    · rw [upd_ne ha] at q
      exact R.ex a u q
  · obtain ⟨h1, h2⟩ := R.fr a u q
    refine ⟨h1, ?_⟩
    rw [upd_ne]
    · exact h2
    · intro z
      subst z
      rw [q] at hF
      cases hF
  · by_cases hj : j = i
    · subst hj
      rw [List.getElem?_set_self hi] at q
      cases q
      exact ⟨_, hs, hr⟩
    · rw [List.getElem?_set_ne (Ne.symm hj)] at q
      have z := R.sl j t q
      cases t with
      | v d' =>
        obtain ⟨w, h1, h2⟩ := z
        exact ⟨w, h1, h2.mono ee⟩
      | o ds =>
        obtain ⟨b, vs, h1, h2, h3, h4, h5⟩ := z
        have nb : b ≠ p := by
          intro z
          subst z
          exact R.ds i j s (.o ds) (Ne.symm hj) e q ho rfl (hs.trans h1.symm)
        exact ⟨b, vs, h1, by rw [upd_ne nb]; exact h2, h3, h4, h5.mono ee⟩
      | od ds =>
        obtain ⟨b, vs, h1, h2, h3, h4, h5, h6⟩ := z
        have nb : b ≠ p := by
          intro z
          subst z
          exact R.ds i j s (.od ds) (Ne.symm hj) e q ho rfl (hs.trans h1.symm)
        exact ⟨b, vs, h1, by rw [upd_ne nb]; exact h2, h3, h4, h5, h6.mono ee⟩
  · have hj : j ≠ i := by
      rintro rfl
      rw [List.getElem?_set_self hi] at h1
      cases h1
      cases h3
    have hk : k ≠ i := by
      rintro rfl
      rw [List.getElem?_set_self hi] at h2
      cases h2
      cases h4
    rw [List.getElem?_set_ne (Ne.symm hj)] at h1
    rw [List.getElem?_set_ne (Ne.symm hk)] at h2
    exact R.ds j k t u hn h1 h2 h3 h4

theorem RelS.out {t : T} {Q : D → PEnv → Prop} (R : RelS K F Hs σ H ε) (h : RepT K Hs σ v t) (q : out ε t Q) : ∃ d ε' Hs', Ex Hs Hs' ∧ RelS K F Hs' σ H ε' ∧ Rep K Hs' v d ∧ Q d ε' := by
  cases t with
  | d d => exact ⟨d, ε, Hs, Evl.Ex.refl _, R, h, q⟩
  | l i =>
    have h : σ[i]? = some (some v) := h
    unfold PL.out at q
    dsimp only at q
    split at q
    · rename_i d e
      obtain ⟨w, h1, h2⟩ := R.sl i _ e
      rw [h] at h1
      cases h1
      exact ⟨_, ε, Hs, Evl.Ex.refl _, R, h2, q⟩
    · rename_i ds e
      obtain ⟨p, vs, h1, h2, h3, h4, h5⟩ := R.sl i _ e
      rw [h] at h1
      cases h1
      have rr : Rep K (upd Hs p (.lst vs)) (.ref p) (.lst ds) := .lst upd_same (h5.mono (ex_upd h2))
      exact ⟨_, _, _, ex_upd h2, R.freeze e h rfl h2 h3 h4 rr, rr, q⟩
    · rename_i ds e
      obtain ⟨p, vs, h1, h2, h3, h4, h5, h6⟩ := R.sl i _ e
      rw [h] at h1
      cases h1
      have rr : Rep K (upd Hs p (.dK vs)) (.ref p) (.dic ds) := .dic upd_same h5 (h6.mono (ex_upd h2))
      exact ⟨_, _, _, ex_upd h2, R.freeze e h rfl h2 h3 h4 rr, rr, q⟩
    · exact q.elim

/-- something new is laid and stands still -/
theorem RelS.new (R : RelS K F Hs σ H ε) {p : Addr} {o : HO} (hp : H p = none) : RelS K F (upd Hs p o) σ (upd H p o) ε ∧ Ex Hs (upd Hs p o) := by
  have hsp : Hs p = none := Evl.fresh_back R.ex hp
  have ee : Ex Hs (upd Hs p o) := ex_upd hsp
  have eh : Ex H (upd H p o) := Evl.Ex.new hp
  refine ⟨⟨fun a u q => ?_, fun a u q => ?_, R.len, fun j t q => ?_, R.ds⟩, ee⟩
  · by_cases ha : a = p
    · subst ha
      rw [upd_same] at q ⊢
      exact q
    · rw [upd_ne ha] at q
      exact eh a u (R.ex a u q)
  · obtain ⟨h1, h2⟩ := R.fr a u q
    refine ⟨eh a u h1, ?_⟩
    rw [upd_ne (ne_of_none h1 hp)]
    exact h2
  · have z := R.sl j t q
    cases t with
    | v d' =>
      obtain ⟨w, h1, h2⟩ := z
      exact ⟨w, h1, h2.mono ee⟩
    | o ds =>
      obtain ⟨b, vs, h1, h2, h3, h4, h5⟩ := z
      exact ⟨b, vs, h1, by rw [upd_ne (ne_of_none h4 hp)]; exact h2, h3, eh _ _ h4, h5.mono ee⟩
    | od ds =>
      obtain ⟨b, vs, h1, h2, h3, h4, h5, h6⟩ := z
      exact ⟨b, vs, h1, by rw [upd_ne (ne_of_none h4 hp)]; exact h2, h3, eh _ _ h4, h5, h6.mono ee⟩
/-- something new is laid that is not yet anybody's -/
theorem RelS.lay (R : RelS K F Hs σ H ε) {p : Addr} {o : HO} (hp : H p = none) : RelS K F Hs σ (upd H p o) ε := by
  have eh : Ex H (upd H p o) := Evl.Ex.new hp
  refine ⟨fun a u q => eh a u (R.ex a u q), fun a u q => ⟨eh a u (R.fr a u q).1, (R.fr a u q).2⟩, R.len, fun j t q => ?_, R.ds⟩
  have z := R.sl j t q
  cases t with
  | v d' => exact z
  | o ds =>
    obtain ⟨b, vs, h1, h2, h3, h4, h5⟩ := z
    exact ⟨b, vs, h1, h2, h3, eh _ _ h4, h5⟩
  | od ds =>
    obtain ⟨b, vs, h1, h2, h3, h4, h5, h6⟩ := z
    exact ⟨b, vs, h1, h2, h3, eh _ _ h4, h5, h6⟩
/-- what was laid and was nobody's stands still from now on -/
theorem RelS.adopt (R : RelS K F Hs σ H ε) {p : Addr} {o : HO} (hH : H p = some o) (hp : Hs p = none) (hF : F p = none) (hn : ∀ (i : Nat) (s : S), ε[i]? = some (some s) → s.own = true → σ[i]? ≠ some (some (.ref p))) : RelS K F (upd Hs p o) σ H ε := by
  have ee : Ex Hs (upd Hs p o) := ex_upd hp
  refine ⟨fun a u q => ?_, fun a u q => ?_, R.len, fun j t q => ?_, R.ds⟩
  · by_cases ha : a = p
    · subst ha
      rw [upd_same] at q
      cases q
      exact hH
    · rw [upd_ne ha] at q
      exact R.ex a u q
  · obtain ⟨h1, h2⟩ := R.fr a u q
    refine ⟨h1, ?_⟩
    rw [upd_ne]
    · exact h2
    · intro z
      subst z
      rw [q] at hF
      cases hF
  · have z := R.sl j t q
    cases t with
    | v d' =>
      obtain ⟨w, h1, h2⟩ := z
      exact ⟨w, h1, h2.mono ee⟩
    | o ds =>
      obtain ⟨b, vs, h1, h2, h3, h4, h5⟩ := z
      have nb : b ≠ p := by
        intro z
        subst z
        exact hn j _ q rfl h1
      exact ⟨b, vs, h1, by rw [upd_ne nb]; exact h2, h3, h4, h5.mono ee⟩
    | od ds =>
      obtain ⟨b, vs, h1, h2, h3, h4, h5, h6⟩ := z
      have nb : b ≠ p := by
        intro z
        subst z
        exact hn j _ q rfl h1
      exact ⟨b, vs, h1, by rw [upd_ne nb]; exact h2, h3, h4, h5, h6.mono ee⟩
/-- a name is stored -/
theorem RelS.store (R : RelS K F Hs σ H ε) (h : Rep K Hs v d) (i : Nat) : RelS K F Hs (σ.set i (some v)) H (ε.set i (some (.v d))) := by
  refine ⟨R.ex, R.fr, by rw [List.length_set, List.length_set]; exact R.len, fun j t q => ?_, fun j k t u hn h1 h2 h3 h4 => ?_⟩
  · by_cases hj : i = j
    · subst hj
      by_cases hi : i < ε.length
      · rw [List.getElem?_set_self hi] at q
        cases q
        exact ⟨v, by rw [List.getElem?_set_self (by rw [R.len]; exact hi)], h⟩
      · rw [List.getElem?_eq_none (by rw [List.length_set]; omega)] at q
        cases q
    · rw [List.getElem?_set_ne hj] at q
      have z := R.sl j t q
      cases t <;> (unfold SlotOk at z ⊢; dsimp only at z ⊢; rw [List.getElem?_set_ne hj]; exact z)
  · have hj : i ≠ j := by
      rintro rfl
      have hi : i < (ε.set i (some (S.v d))).length := (List.getElem?_eq_some_iff.mp h1).1
      rw [List.length_set] at hi
      rw [List.getElem?_set_self hi] at h1
      cases h1
      cases h3
    have hk : i ≠ k := by
      rintro rfl
      have hi : i < (ε.set i (some (S.v d))).length := (List.getElem?_eq_some_iff.mp h2).1
      rw [List.length_set] at hi
      rw [List.getElem?_set_self hi] at h2
      cases h2
      cases h4
    rw [List.getElem?_set_ne hj] at h1 ⊢
    rw [List.getElem?_set_ne hk] at h2 ⊢
    exact R.ds j k t u hn h1 h2 h3 h4
/-- a name takes a list (a dict) of its own -/
theorem RelS.storeO (R : RelS K F Hs σ H ε) {p : Addr} {s : S} (so : s.own = true) (i : Nat) (hn : ∀ (i : Nat) (s : S), ε[i]? = some (some s) → s.own = true → σ[i]? ≠ some (some (.ref p)))
    (h : i < ε.length → SlotOk K F Hs (σ.set i (some (.ref p))) H i s) : RelS K F Hs (σ.set i (some (.ref p))) H (ε.set i (some s)) := by
  refine ⟨R.ex, R.fr, by rw [List.length_set, List.length_set]; exact R.len, fun j t q => ?_, fun j k t u hjk h1 h2 h3 h4 => ?_⟩
  · by_cases hj : i = j
    · subst hj
      by_cases hi : i < ε.length
      · rw [List.getElem?_set_self hi] at q
        cases q
        exact h hi
      · rw [List.getElem?_eq_none (by rw [List.length_set]; omega)] at q
        cases q
    · rw [List.getElem?_set_ne hj] at q
      have z := R.sl j t q
      cases t <;> (unfold SlotOk at z ⊢; dsimp only at z ⊢; rw [List.getElem?_set_ne hj]; exact z)
  · by_cases hj : i = j
    · subst hj
      have hi : i < ε.length := by
        have := (List.getElem?_eq_some_iff.mp h1).1
        rw [List.length_set] at this
        exact this
      rw [List.getElem?_set_self (by rw [R.len]; exact hi)]
      rw [List.getElem?_set_ne hjk] at h2 ⊢
      exact fun e => hn k u h2 h4 e.symm
    · by_cases hk : i = k
      · subst hk
        have hi : i < ε.length := by
          have := (List.getElem?_eq_some_iff.mp h2).1
          rw [List.length_set] at this
          exact this
        rw [List.getElem?_set_self (by rw [R.len]; exact hi)]
        rw [List.getElem?_set_ne hj] at h1 ⊢
        exact hn j t h1 h3
      · rw [List.getElem?_set_ne hj] at h1 ⊢
        rw [List.getElem?_set_ne hk] at h2 ⊢
        exact R.ds j k t u hjk h1 h2 h3 h4
/-- a name's own list (dict) changes -/
theorem RelS.change (R : RelS K F Hs σ H ε) {p : Addr} {o' : HO} {i : Nat} {s s' : S} (e : ε[i]? = some (some s)) (so : s.own = true) (so' : s'.own = true) (hs : σ[i]? = some (some (.ref p))) (hp : Hs p = none) (hF : F p = none)
    (h : SlotOk K F Hs σ (upd H p o') i s') : RelS K F Hs σ (upd H p o') (ε.set i (some s')) := by
  have hi : i < ε.length := (List.getElem?_eq_some_iff.mp e).1
  refine ⟨fun a u q => ?_, fun a u q => ?_, by rw [List.length_set]; exact R.len, fun j t q => ?_, fun j k t u hjk h1 h2 h3 h4 => ?_⟩
  · rw [upd_ne (ne_of_none q hp)]
    exact R.ex a u q
  · rw [upd_ne]
    · exact R.fr a u q
    · intro z
      subst z
      rw [q] at hF
      cases hF
  · by_cases hj : i = j
    · subst hj
      rw [List.getElem?_set_self hi] at q
      cases q
      exact h
    · rw [List.getElem?_set_ne hj] at q
      have z := R.sl j t q
      cases t with
      | v d' => exact z
      | o ds =>
        obtain ⟨b, vs, h1, h2, h3, h4, h5⟩ := z
        have nb : b ≠ p := by
          intro z
          subst z
          exact R.ds i j s _ hj e q so rfl (hs.trans h1.symm)
        exact ⟨b, vs, h1, h2, h3, by rw [upd_ne nb]; exact h4, h5⟩
      | od ds =>
        obtain ⟨b, vs, h1, h2, h3, h4, h5, h6⟩ := z
        have nb : b ≠ p := by
          intro z
          subst z
          exact R.ds i j s _ hj e q so rfl (hs.trans h1.symm)
        exact ⟨b, vs, h1, h2, h3, by rw [upd_ne nb]; exact h4, h5, h6⟩
  · have own_of : ∀ (j : Nat) (t : S), (ε.set i (some s'))[j]? = some (some t) → t.own = true → ∃ t', ε[j]? = some (some t') ∧ t'.own = true := fun j t q ho => by
      by_cases hj : i = j
      · subst hj
        exact ⟨s, e, so⟩
      · rw [List.getElem?_set_ne hj] at q
        exact ⟨t, q, ho⟩
    obtain ⟨t', a1, a2⟩ := own_of j t h1 h3
    obtain ⟨u', b1, b2⟩ := own_of k u h2 h4
    exact R.ds j k t' u' hjk a1 b1 a2 b2
/-- a fresh address is nobody's -/
theorem RelS.nobody (R : RelS K F Hs σ H ε) {p : Addr} (hp : H p = none) : Hs p = none ∧ F p = none ∧ ∀ (i : Nat) (s : S), ε[i]? = some (some s) → s.own = true → σ[i]? ≠ some (some (.ref p)) := by
  refine ⟨Evl.fresh_back R.ex hp, ?_, fun i s e so q => ?_⟩
  · cases h : F p with
    | none => rfl
    | some o =>
      rw [(R.fr p o h).1] at hp
      cases hp
  · have z := R.sl i s e
    cases s with
    | v d => cases so
    | o ds =>
      obtain ⟨b, vs, h1, h2, h3, h4, h5⟩ := z
      rw [q] at h1
      cases h1
      rw [hp] at h4
      cases h4
    | od ds =>
      obtain ⟨b, vs, h1, h2, h3, h4, h5, h6⟩ := z
      rw [q] at h1
      cases h1
      rw [hp] at h4
      cases h4
end
end PL

set_option Elab.async false
set_option linter.all false
set_option autoImplicit false
set_option maxRecDepth 100000
set_option maxHeartbeats 2000000
/-! What an expression yields, over plain data. -/
namespace PL
open PySem PySem.Spec PyProof.Rows L2
open Evl (Ex)

/-- a guard: it goes by computation where it can -/
def gd (p : Prop) [Decidable p] (Q : Prop) : Prop := match decide p with
  | true => Q
  | false => False
theorem gd_elim {p Q : Prop} [Decidable p] (h : gd p Q) : p ∧ Q := by
  unfold gd at h
  split at h
  · rename_i e
    exact ⟨of_decide_eq_true e, h⟩
  · exact h.elim
theorem gd_of {p Q : Prop} [Decidable p] (h : p) (q : Q) : gd p Q := by
  unfold gd
  rw [decide_eq_true h]
  exact q
/-- an answer that is there -/
def opt {α : Type} (o : Option α) (Q : α → Prop) : Prop := match o with
  | some a => Q a
  | none => False
theorem opt_elim {α : Type} {o : Option α} {Q : α → Prop} (h : opt o Q) : ∃ a, o = some a ∧ Q a := by
  cases o with
  | some a => exact ⟨a, rfl, h⟩
  | none => exact h.elim
theorem opt_of {α : Type} {o : Option α} {a : α} {Q : α → Prop} (e : o = some a) (q : Q a) : opt o Q := by
  rw [e]
  exact q
abbrev PTE := PEnv → (T → PEnv → Prop) → Prop
abbrev PTN := PEnv → (List D → PEnv → Prop) → Prop
abbrev PTL := PEnv → (List T → PEnv → Prop) → Prop
abbrev PTT := PEnv → (Bool → PEnv → Prop) → Prop

/-- the program's classes of errors, by number -/
def exN : List Str := ["PageError", "BadText", "BadTree", "BadSplice", "BadDeed", "BadPlace", "BadSelector", "BadName", "BadValue", "BadPieces", "BadList", "BadMarks", "BadParts", "BadCell", "BadRow", "NoNode", "NoBox", "NoPage", "NotPlain", "TooLong", "TooManyNodes", "BadKey", "BadQuestion",
  "TooManyActions", "NothingToUndo", "NothingToRedo", "NothingBack", "NothingForward", "BadState"]
def exS (c : Nat) : Str := exN.getD c "PageError"
def exA (K : PySem.W.Frag) (c : Nat) : Addr := He.ga K (exS c)
abbrev Xi := Nat → PEnv → Prop
/-- what a raised class is to meet -/
def Lk (K : PySem.W.Frag) (F Hs : Hp) (W : WX) (Ξ : Xi) : Prop := ∀ c (σ' : St) (H' Hs' : Hp) (ε' : PEnv), Ξ c ε' → Ex Hs Hs' → RelS K F Hs' σ' H' ε' → W (.ref (exA K c)) none σ' H'
theorem Lk.mono {K : PySem.W.Frag} {F Hs Hs' : Hp} {W : WX} {Ξ : Xi} (e : Ex Hs Hs') (h : Lk K F Hs W Ξ) : Lk K F Hs' W Ξ := fun c σ' H' Hs2 ε' x e2 R => h c σ' H' Hs2 ε' x (e.trans e2) R
abbrev W0 : WX := fun _ _ _ _ => False
abbrev Ξ0 : Xi := fun _ _ => False
theorem Lk.none {K : PySem.W.Frag} {F Hs : Hp} {W : WX} : Lk K F Hs W Ξ0 := fun _ _ _ _ _ x => x.elim

def KE (K : PySem.W.Frag) (F Hs : Hp) (σ : St) (Q' : T → PEnv → Prop) (Q : VK) : Prop :=
  ∀ (v : V) (H' Hs' : Hp) (t : T) (ε' : PEnv), Ex Hs Hs' → RelS K F Hs' σ H' ε' → RepT K Hs' σ v t → Q' t ε' → Q v H'
structure YE (X : Cx) (W : WX) (Ξ : Xi) (e : Expr) (r : PTE) : Prop where
  ex : ∃ t, PE X e t ∧ ∀ (F Hs : Hp) (σ : St) (H : Hp) (ε : PEnv) (Q' : T → PEnv → Prop) (Q : VK), RelS X.K F Hs σ H ε → Lk X.K F Hs W Ξ → r ε Q' → KE X.K F Hs σ Q' Q → t σ H Q
/-- a new list, nobody's yet -/
def KN (K : PySem.W.Frag) (F Hs : Hp) (σ : St) (Q' : List D → PEnv → Prop) (Q : VK) : Prop :=
  ∀ (p : Addr) (H' Hs' : Hp) (vs : List V) (ds : List D) (ε' : PEnv), Ex Hs Hs' → RelS K F Hs' σ H' ε' → H' p = some (.lst vs) → Hs' p = none → F p = none →
    (∀ (i : Nat) (s : S), ε'[i]? = some (some s) → s.own = true → σ[i]? ≠ some (some (.ref p))) → Reps K Hs' vs ds → Q' ds ε' → Q (.ref p) H'
structure YN (X : Cx) (W : WX) (Ξ : Xi) (e : Expr) (r : PTN) : Prop where
  ex : ∃ t, PE X e t ∧ ∀ (F Hs : Hp) (σ : St) (H : Hp) (ε : PEnv) (Q' : List D → PEnv → Prop) (Q : VK), RelS X.K F Hs σ H ε → Lk X.K F Hs W Ξ → r ε Q' → KN X.K F Hs σ Q' Q → t σ H Q
inductive RepTs (K : PySem.W.Frag) (Hs : Hp) (σ : St) : List V → List T → Prop
  | nil : RepTs K Hs σ [] []
  | cons {v : V} {vs : List V} {t : T} {ts : List T} : RepT K Hs σ v t → RepTs K Hs σ vs ts → RepTs K Hs σ (v :: vs) (t :: ts)
theorem RepTs.mono {K : PySem.W.Frag} {Hs Hs' : Hp} {σ : St} (e : Ex Hs Hs') : ∀ {vs : List V} {ts : List T}, RepTs K Hs σ vs ts → RepTs K Hs' σ vs ts
  | _, _, .nil => .nil
  | _, _, .cons r t => .cons (r.mono e) (RepTs.mono e t)
def KL (K : PySem.W.Frag) (F Hs : Hp) (σ : St) (Q' : List T → PEnv → Prop) (Q : List V → Hp → Prop) : Prop :=
  ∀ (vs : List V) (H' Hs' : Hp) (ts : List T) (ε' : PEnv), Ex Hs Hs' → RelS K F Hs' σ H' ε' → RepTs K Hs' σ vs ts → Q' ts ε' → Q vs H'
structure YL (X : Cx) (W : WX) (Ξ : Xi) (es : List Expr) (r : PTL) : Prop where
  ex : ∃ t, PA X es t ∧ ∀ (F Hs : Hp) (σ : St) (H : Hp) (ε : PEnv) (Q' : List T → PEnv → Prop) (Q : List V → Hp → Prop), RelS X.K F Hs σ H ε → Lk X.K F Hs W Ξ → r ε Q' → KL X.K F Hs σ Q' Q → t σ H Q
def KT (K : PySem.W.Frag) (F Hs : Hp) (σ : St) (Q' : Bool → PEnv → Prop) (Q : Bool → Hp → Prop) : Prop :=
  ∀ (b : Bool) (H' Hs' : Hp) (ε' : PEnv), Ex Hs Hs' → RelS K F Hs' σ H' ε' → Q' b ε' → Q b H'
structure YT (X : Cx) (W : WX) (Ξ : Xi) (e : Expr) (r : PTT) : Prop where
  ex : ∃ t, PT X e t ∧ ∀ (F Hs : Hp) (σ : St) (H : Hp) (ε : PEnv) (Q' : Bool → PEnv → Prop) (Q : Bool → Hp → Prop), RelS X.K F Hs σ H ε → Lk X.K F Hs W Ξ → r ε Q' → KT X.K F Hs σ Q' Q → t σ H Q
/-- and, or: a test whatever its whole is -/
structure YW (X : Cx) (W : WX) (Ξ : Xi) (e : Expr) (r : PTT) : Prop where
  ex : ∃ t, PW X e t ∧ ∀ (F Hs : Hp) (σ : St) (H : Hp) (ε : PEnv) (Q' : Bool → PEnv → Prop) (Q : Bool → Hp → Prop), RelS X.K F Hs σ H ε → Lk X.K F Hs W Ξ → r ε Q' → KT X.K F Hs σ Q' Q → t σ H Q

def outs : PEnv → List T → (List D → PEnv → Prop) → Prop
  | ε, [], Q => Q [] ε
  | ε, t :: ts, Q => out ε t fun d ε' => outs ε' ts fun ds ε'' => Q (d :: ds) ε''
def ress (ε : PEnv) : List T → (List D → Prop) → Prop
  | [], Q => Q []
  | t :: ts, Q => res ε t fun d => ress ε ts fun ds => Q (d :: ds)
inductive RepVs (K : PySem.W.Frag) (Hs H : Hp) : List V → List D → Prop
  | nil : RepVs K Hs H [] []
  | cons {v : V} {vs : List V} {d : D} {ds : List D} : RepV K Hs H v d → RepVs K Hs H vs ds → RepVs K Hs H (v :: vs) (d :: ds)

section
variable {K : PySem.W.Frag} {F Hs H : Hp} {σ : St} {ε : PEnv} {v : V} {d : D}
theorem RelS.outs : ∀ {ts : List T} {vs : List V} {Hs : Hp} {ε : PEnv} {Q : List D → PEnv → Prop}, RelS K F Hs σ H ε → RepTs K Hs σ vs ts → outs ε ts Q → ∃ ds ε' Hs', Ex Hs Hs' ∧ RelS K F Hs' σ H ε' ∧ Reps K Hs' vs ds ∧ Q ds ε'
  | [], _, Hs, ε, Q, R, .nil, q => ⟨[], ε, Hs, Evl.Ex.refl _, R, .nil, q⟩
  | t :: ts, _, Hs, ε, Q, R, .cons r rs, q => by
    obtain ⟨d, ε1, Hs1, e1, R1, p1, q1⟩ := R.out r q
    obtain ⟨ds, ε2, Hs2, e2, R2, p2, q2⟩ := RelS.outs R1 (rs.mono e1) q1
    exact ⟨d :: ds, ε2, Hs2, e1.trans e2, R2, .cons (p1.mono e2) p2, q2⟩
theorem RelS.ress (R : RelS K F Hs σ H ε) : ∀ {ts : List T} {vs : List V} {Q : List D → Prop}, RepTs K Hs σ vs ts → ress ε ts Q → ∃ ds, RepVs K Hs H vs ds ∧ Q ds
  | [], _, Q, .nil, q => ⟨[], .nil, q⟩
  | t :: ts, _, Q, .cons r rs, q => by
    obtain ⟨d, p1, q1⟩ := R.res r q
    obtain ⟨ds, p2, q2⟩ := RelS.ress R rs q1
    exact ⟨d :: ds, .cons p1 p2, q2⟩
end

section
variable {X : Cx} {W : WX} {Ξ : Xi} {a b c : Expr} {es : List Expr} {pos : Pos}

/-! ### names, constants -/
def yVar (i : Nat) : PTE := fun ε Q => match ε[i]? with
  | some (some (.v d)) => Q (.d d) ε
  | some (some (.o _)) => Q (.l i) ε
  | some (some (.od _)) => Q (.l i) ε
  | _ => False
theorem ye_var (i : Nat) {x : Str} {pos : Pos} (hN : X.N[i]? = some x := by rfl) (hv : Vis X.env.scope x := by first | exact Or.inl rfl | exact Or.inr (Or.inl rfl) | exact Or.inr (Or.inr rfl)) (hd : (x == ("__debug__" : Str)) = false := by decide)
    (hcd : (x == ("__classdict__" : Str)) = false := by decide) : YE X W Ξ (.Name x pos) (yVar i) := by
  refine ⟨tVar i, pe_var hN hv hd hcd, fun F Hs σ H ε Q' Q R _ q k => ?_⟩
  unfold yVar at q
  split at q
  · rename_i d e
    obtain ⟨v, h1, h2⟩ := R.sl i _ e
    exact ⟨v, h1, k v H Hs (.d d) ε (Evl.Ex.refl _) R h2 q⟩
  · rename_i ds e
    obtain ⟨p, vs, h1, _⟩ := R.sl i _ e
    exact ⟨_, h1, k _ H Hs (.l i) ε (Evl.Ex.refl _) R h1 q⟩
  · rename_i ds e
    obtain ⟨p, vs, h1, _⟩ := R.sl i _ e
    exact ⟨_, h1, k _ H Hs (.l i) ε (Evl.Ex.refl _) R h1 q⟩
  · exact q.elim
def yC (d : D) : PTE := fun ε Q => Q (.d d) ε
theorem ye_c {v : V} {d : D} (h : PE X a (tC v)) (r : ∀ K H, Rep K H v d) : YE X W Ξ a (yC d) := ⟨_, h, fun F Hs σ H ε Q' Q R _ q k => k v H Hs (.d d) ε (Evl.Ex.refl _) R (r _ _) q⟩
theorem ye_int {i : Int} {j : Nat} : YE X W Ξ (.Constant (.int i) j pos) (yC (.int i)) := ye_c pe_int fun _ _ => .int i
theorem ye_bl {i : Bool} {j : Nat} : YE X W Ξ (.Constant (.bool i) j pos) (yC (.bl i)) := ye_c pe_bl fun _ _ => .bl i
theorem ye_non {j : Nat} : YE X W Ξ (.Constant .none j pos) (yC .non) := ye_c pe_non fun _ _ => .non
theorem ye_str {x : Str} {j : Nat} : YE X W Ξ (.Constant (.str x) j pos) (yC (.str x)) := ye_c pe_str fun _ _ => .str x
/-- a module's constant -/
theorem ye_glob {x : Str} {d : D} {v : V} {u : Value} (hg : Gl X x) (hm : X.mg x = some u) (r : RelV v u) (rd : ∀ K H, Rep K H v d) (hd : (x == ("__debug__" : Str)) = false := by decide) : YE X W Ξ (.Name x pos) (yC d) := ye_c (pe_glob hg hm r hd) rd

/-- a new list that is handed on -/
def yNew (r : PTN) : PTE := fun ε Q => r ε fun ds ε' => Q (.d (.lst ds)) ε'
theorem YN.ye {r : PTN} (h : YN X W Ξ a r) : YE X W Ξ a (yNew r) := by
  obtain ⟨t, h1, h2⟩ := h.ex
  refine ⟨t, h1, fun F Hs σ H ε Q' Q R L q k => h2 F Hs σ H ε _ Q R L q fun p H' Hs' vs ds ε' e R' g1 g2 g3 g4 rs q' => ?_⟩
  exact k (.ref p) H' _ _ ε' (e.trans (ex_upd g2)) (R'.adopt g1 g2 g3 g4) (show RepT X.K _ σ _ (.d (.lst ds)) from .lst upd_same (rs.mono (ex_upd g2))) q'

/-! ### operators -/
abbrev OP2 := D → D → (D → Prop) → Prop
def OpY (X : Cx) (f : Value → Value → Sem Value) (o : OP2) : Prop := ∃ r, OpR X f r ∧ ∀ (F Hs : Hp) (σ : St) (H : Hp) (ε : PEnv) (v w : V) (d1 d2 : D) (Q' : D → Prop) (Q : VK), RelS X.K F Hs σ H ε → RepV X.K Hs H v d1 → RepV X.K Hs H w d2 → o d1 d2 Q' →
  (∀ z H' Hs' d, Ex Hs Hs' → RelS X.K F Hs' σ H' ε → Rep X.K Hs' z d → Q' d → Q z H') → r v w H Q
def yBin (o : OP2) (ra rb : PTE) : PTE := fun ε Q => ra ε fun t1 ε1 => rb ε1 fun t2 ε2 => res ε2 t1 fun d1 => res ε2 t2 fun d2 => o d1 d2 fun d => Q (.d d) ε2
theorem bin_core {f : Value → Value → Sem Value} {o : OP2} {r : R2} {ra rb : PTE} {ta tb : TE} (h : ∀ (F Hs : Hp) (σ : St) (H : Hp) (ε : PEnv) (v w : V) (d1 d2 : D) (Q' : D → Prop) (Q : VK), RelS X.K F Hs σ H ε → RepV X.K Hs H v d1 → RepV X.K Hs H w d2 → o d1 d2 Q' →
  (∀ z H' Hs' d, Ex Hs Hs' → RelS X.K F Hs' σ H' ε → Rep X.K Hs' z d → Q' d → Q z H') → r v w H Q)
    (ka : ∀ (F Hs : Hp) (σ : St) (H : Hp) (ε : PEnv) (Q' : T → PEnv → Prop) (Q : VK), RelS X.K F Hs σ H ε → Lk X.K F Hs W Ξ → ra ε Q' → KE X.K F Hs σ Q' Q → ta σ H Q)
    (kb : ∀ (F Hs : Hp) (σ : St) (H : Hp) (ε : PEnv) (Q' : T → PEnv → Prop) (Q : VK), RelS X.K F Hs σ H ε → Lk X.K F Hs W Ξ → rb ε Q' → KE X.K F Hs σ Q' Q → tb σ H Q)
    (F Hs : Hp) (σ : St) (H : Hp) (ε : PEnv) (Q' : D → PEnv → Prop) (Q : VK) (R : RelS X.K F Hs σ H ε) (L : Lk X.K F Hs W Ξ)
    (q : ra ε fun t1 ε1 => rb ε1 fun t2 ε2 => res ε2 t1 fun d1 => res ε2 t2 fun d2 => o d1 d2 fun d => Q' d ε2)
    (k : ∀ z H' Hs' d ε', Ex Hs Hs' → RelS X.K F Hs' σ H' ε' → Rep X.K Hs' z d → Q' d ε' → Q z H') : tOp r ta tb σ H Q := by
  refine ka F Hs σ H ε _ _ R L q fun v H1 Hs1 t1 ε1 e1 R1 p1 q1 => ?_
  refine kb F Hs1 σ H1 ε1 _ _ R1 (L.mono e1) q1 fun w H2 Hs2 t2 ε2 e2 R2 p2 q2 => ?_
  obtain ⟨d1, v1, q3⟩ := R2.res (p1.mono e2) q2
  obtain ⟨d2, v2, q4⟩ := R2.res p2 q3
  exact h F Hs2 σ H2 ε2 v w d1 d2 _ Q R2 v1 v2 q4 fun z H' Hs' d e3 R3 p3 q5 => k z H' Hs' d ε2 ((e1.trans e2).trans e3) R3 p3 q5
theorem ye_bin {op : Operator} {o : OP2} {ra rb : PTE} (ho : OpY X (binaryOp op) o) (ha : YE X W Ξ a ra) (hb : YE X W Ξ b rb) : YE X W Ξ (.BinOp a op b pos) (yBin o ra rb) := by
  obtain ⟨r, hr, h⟩ := ho
  obtain ⟨ta, pa, ka⟩ := ha.ex
  obtain ⟨tb, pb, kb⟩ := hb.ex
  exact ⟨_, pe_op hr pa pb, fun F Hs σ H ε Q' Q R L q k => bin_core (f := binaryOp op) h ka kb F Hs σ H ε (fun d ε' => Q' (.d d) ε') Q R L q fun z H' Hs' d ε' e R' p q' => k z H' Hs' (.d d) ε' e R' p q'⟩
theorem ye_cmp {op : CmpOp} {o : OP2} {ra rb : PTE} (ho : OpY X (compareOp op) o) (ha : YE X W Ξ a ra) (hb : YE X W Ξ b rb) (hm : behindInMarks op b = false := by first | exact nomark _ | rfl) : YE X W Ξ (.Compare a [op] [b] pos) (yBin o ra rb) := by
  obtain ⟨r, hr, h⟩ := ho
  obtain ⟨ta, pa, ka⟩ := ha.ex
  obtain ⟨tb, pb, kb⟩ := hb.ex
  exact ⟨_, pe_cmpR hr pa pb hm, fun F Hs σ H ε Q' Q R L q k => bin_core (f := compareOp op) h ka kb F Hs σ H ε (fun d ε' => Q' (.d d) ε') Q R L q fun z H' Hs' d ε' e R' p q' => k z H' Hs' (.d d) ε' e R' p q'⟩
def asB (Q : Bool → Prop) : D → Prop
  | .bl b => Q b
  | _ => False
def yBinT (o : OP2) (ra rb : PTE) : PTT := fun ε Q => ra ε fun t1 ε1 => rb ε1 fun t2 ε2 => res ε2 t1 fun d1 => res ε2 t2 fun d2 => o d1 d2 (asB fun b => Q b ε2)
theorem asB_rep {K : PySem.W.Frag} {H : Hp} {z : V} {d : D} {Q : Bool → Prop} (p : Rep K H z d) (q : asB Q d) : ∃ b, z = .bl b ∧ Q b := by
  cases d with
  | bl b => cases p; exact ⟨b, rfl, q⟩
  | _ => exact False.elim q
theorem yt_cmp {op : CmpOp} {o : OP2} {ra rb : PTE} (ho : OpY X (compareOp op) o) (ha : YE X W Ξ a ra) (hb : YE X W Ξ b rb) (hm : behindInMarks op b = false := by first | exact nomark _ | rfl) : YT X W Ξ (.Compare a [op] [b] pos) (yBinT o ra rb) := by
  obtain ⟨r, hr, h⟩ := ho
  obtain ⟨ta, pa, ka⟩ := ha.ex
  obtain ⟨tb, pb, kb⟩ := hb.ex
  refine ⟨_, pt_cmpR hr pa pb hm, fun F Hs σ H ε Q' Q R L q k => ?_⟩
  refine bin_core (f := compareOp op) h ka kb F Hs σ H ε (fun d ε' => asB (fun b => Q' b ε') d) (fun x H' => ∃ k, x = .bl k ∧ Q k H') R L q fun z H' Hs' d ε' e R' p q' => ?_
  obtain ⟨b, e2, q2⟩ := asB_rep p q'
  exact ⟨b, e2, k b H' Hs' ε' e R' q2⟩
/-- a < b < c, b asked once -/
def yChain (o o' : OP2) (ra rb rc : PTE) : PTE := fun ε Q => ra ε fun t1 ε1 => rb ε1 fun t2 ε2 => res ε2 t1 fun d1 => res ε2 t2 fun d2 => o d1 d2 (asB fun k => match k with
  | true => rc ε2 fun t3 ε3 => res ε3 t2 fun d2 => res ε3 t3 fun d3 => o' d2 d3 fun d => Q (.d d) ε3
  | false => Q (.d (.bl false)) ε2)

/-! ### tests -/
def yB (r : PTE) : PTT := fun ε Q => r ε fun t ε' => res ε' t (asB fun b => Q b ε')
theorem yt_val {r : PTE} (h : YE X W Ξ a r) (he : ∀ whole, isTrue a X.env whole = (do let v ← whole; standAt a.pos; holding [v] (truthy v)) := by intro _; rfl) : YT X W Ξ a (yB r) := by
  obtain ⟨t, p, k⟩ := h.ex
  refine ⟨_, pt_val p he, fun F Hs σ H ε Q' Q R L q kk => k F Hs σ H ε _ _ R L q fun v H' Hs' t ε' e R' p' q' => ?_⟩
  obtain ⟨d, rv, q2⟩ := R'.res p' q'
  cases d with
  | bl b => exact ⟨b, rv.bl', kk b H' Hs' ε' e R' q2⟩
  | _ => exact False.elim q2
/-- a value's truth -/
def truD : D → (Bool → Prop) → Prop
  | .non, Q => Q false
  | .bl b, Q => Q b
  | .int i, Q => Q (i != 0)
  | .str x, Q => gd (x.length ≤ 16777216) (Q ((x.length : Int) != 0))
  | .lst xs, Q => Q (!xs.isEmpty)
  | .tup xs, Q => Q (!xs.isEmpty)
  | .dic xs, Q => Q (!xs.isEmpty)
  | _, _ => False
def yTru (r : PTE) : PTT := fun ε Q => r ε fun t ε' => res ε' t fun d => truD d fun b => Q b ε'
theorem Reps.isEmpty {K : PySem.W.Frag} {H : Hp} {vs : List V} {ds : List D} (r : Reps K H vs ds) : vs.isEmpty = ds.isEmpty := by
  cases r <;> rfl
theorem line_le {n : Nat} (h : n ≤ 16777216) : n ≤ sizeLine := by rw [sizeLine_eq]; exact h
theorem line_lt {n : Nat} (h : n < 16777216) : n < sizeLine := by rw [sizeLine_eq]; exact h
theorem truD_ok {K : PySem.W.Frag} {F Hs H : Hp} {σ : St} {ε : PEnv} {v : V} {d : D} {Q : Bool → Prop} (R : RelS K F Hs σ H ε) (h : RepV K Hs H v d) (q : truD d Q) : ∃ b, TruV K v H b ∧ Q b := by
  cases d with
  | non => rw [h.non']; exact ⟨false, rfl, q⟩
  | bl b => rw [h.bl']; exact ⟨b, rfl, q⟩
  | int i => rw [h.int']; exact ⟨_, rfl, q⟩
  | str x => rw [h.str']; exact ⟨_, ⟨line_le (gd_elim q).1, rfl⟩, (gd_elim q).2⟩
  | lst xs =>
    obtain ⟨p, vs, e, h1, h2⟩ := h.lst' R.ex
    rw [e]
    exact ⟨_, .inl ⟨vs, SqL.of h1, rfl⟩, by rw [h2.isEmpty]; exact q⟩
  | tup xs =>
    obtain ⟨p, vs, e, h1, h2⟩ := h.tup' R.ex
    rw [e]
    exact ⟨_, .inr (.inl ⟨vs, h1, rfl⟩), by rw [h2.isEmpty]; exact q⟩
  | dic xs =>
    obtain ⟨p, vs, e, h1, h2, h3⟩ := h.dic' R.ex
    rw [e]
    refine ⟨_, .inr (.inr ⟨vs, h1, rfl⟩), ?_⟩
    have : vs.isEmpty = xs.isEmpty := by
      have e2 := congrArg List.isEmpty h2
      rw [List.isEmpty_map, List.isEmpty_map] at e2
      exact e2
    rw [this]
    exact q
  | _ => exact False.elim q
theorem yt_tru {r : PTE} (h : YE X W Ξ a r) (he : ∀ whole, isTrue a X.env whole = (do let v ← whole; standAt a.pos; holding [v] (truthy v)) := by intro _; rfl) : YT X W Ξ a (yTru r) := by
  obtain ⟨t, p, k⟩ := h.ex
  refine ⟨_, pt_truth p he, fun F Hs σ H ε Q' Q R L q kk => k F Hs σ H ε _ _ R L q fun v H' Hs' t ε' e R' p' q' => ?_⟩
  obtain ⟨d, rv, q2⟩ := R'.res p' q'
  obtain ⟨b, h1, h2⟩ := truD_ok R' rv q2
  exact ⟨b, h1, kk b H' Hs' ε' e R' h2⟩
def yAnd (ra rb : PTT) : PTT := fun ε Q => ra ε fun k ε' => match k with
  | true => rb ε' Q
  | false => Q false ε'
def yOr (ra rb : PTT) : PTT := fun ε Q => ra ε fun k ε' => match k with
  | true => Q true ε'
  | false => rb ε' Q
def yNot (ra : PTT) : PTT := fun ε Q => ra ε fun k ε' => Q (!k) ε'
theorem YW.yt {r : PTT} (h : YW X W Ξ a r) : YT X W Ξ a r := by
  obtain ⟨t, p, k⟩ := h.ex
  exact ⟨t, p.pt, k⟩
theorem yw_and1 {r : PTT} (h : YT X W Ξ a r) : YW X W Ξ (.BoolOp .And [a] pos) r := by
  obtain ⟨t, p, k⟩ := h.ex
  exact ⟨t, pw_and1 p, k⟩
theorem yw_or1 {r : PTT} (h : YT X W Ξ a r) : YW X W Ξ (.BoolOp .Or [a] pos) r := by
  obtain ⟨t, p, k⟩ := h.ex
  exact ⟨t, pw_or1 p, k⟩
theorem yw_and {ra rb : PTT} (ha : YT X W Ξ a ra) (hb : YW X W Ξ (.BoolOp .And (b :: es) pos) rb) : YW X W Ξ (.BoolOp .And (a :: b :: es) pos) (yAnd ra rb) := by
  obtain ⟨ta, pa, ka⟩ := ha.ex
  obtain ⟨tb, pb, kb⟩ := hb.ex
  refine ⟨_, pw_and pa pb, fun F Hs σ H ε Q' Q R L q k => ka F Hs σ H ε _ _ R L q fun c H1 Hs1 ε1 e1 R1 q1 => ?_⟩
  cases c with
  | true =>
    show (if true = true then _ else _)
    rw [if_pos rfl]
    exact kb F Hs1 σ H1 ε1 _ _ R1 (L.mono e1) q1 fun c' H2 Hs2 ε2 e2 R2 q2 => k c' H2 Hs2 ε2 (e1.trans e2) R2 q2
  | false =>
    show (if false = true then _ else _)
    rw [if_neg Bool.false_ne_true]
    exact k false H1 Hs1 ε1 e1 R1 q1
theorem yw_or {ra rb : PTT} (ha : YT X W Ξ a ra) (hb : YW X W Ξ (.BoolOp .Or (b :: es) pos) rb) : YW X W Ξ (.BoolOp .Or (a :: b :: es) pos) (yOr ra rb) := by
  obtain ⟨ta, pa, ka⟩ := ha.ex
  obtain ⟨tb, pb, kb⟩ := hb.ex
  refine ⟨_, pw_or pa pb, fun F Hs σ H ε Q' Q R L q k => ka F Hs σ H ε _ _ R L q fun c H1 Hs1 ε1 e1 R1 q1 => ?_⟩
  cases c with
  | true =>
    show (if true = true then _ else _)
    rw [if_pos rfl]
    exact k true H1 Hs1 ε1 e1 R1 q1
  | false =>
    show (if false = true then _ else _)
    rw [if_neg Bool.false_ne_true]
    exact kb F Hs1 σ H1 ε1 _ _ R1 (L.mono e1) q1 fun c' H2 Hs2 ε2 e2 R2 q2 => k c' H2 Hs2 ε2 (e1.trans e2) R2 q2
theorem yt_not {r : PTT} (h : YT X W Ξ a r) : YT X W Ξ (.UnaryOp .Not a pos) (yNot r) := by
  obtain ⟨t, p, k⟩ := h.ex
  exact ⟨_, pt_not p, fun F Hs σ H ε Q' Q R L q kk => k F Hs σ H ε _ _ R L q fun c H' Hs' ε' e R' q' => kk (!c) H' Hs' ε' e R' q'⟩
/-! .. as values -/
def yAndV (ra rb : PTE) : PTE := fun ε Q => ra ε fun t ε' => res ε' t (asB fun k => match k with
  | true => rb ε' Q
  | false => Q (.d (.bl false)) ε')
def yOrV (ra rb : PTE) : PTE := fun ε Q => ra ε fun t ε' => res ε' t (asB fun k => match k with
  | true => Q (.d (.bl true)) ε'
  | false => rb ε' Q)
def yNotV (ra : PTE) : PTE := fun ε Q => ra ε fun t ε' => res ε' t fun d => truD d fun k => Q (.d (.bl (!k))) ε'
theorem ye_one {op : BoolOp} {r : PTE} (h : YE X W Ξ a r) : YE X W Ξ (.BoolOp op [a] pos) r := by
  obtain ⟨t, p, k⟩ := h.ex
  exact ⟨t, pe_one p, k⟩
theorem ye_and {ra rb : PTE} (ha : YE X W Ξ a ra) (hb : YE X W Ξ (.BoolOp .And (b :: es) pos) rb) : YE X W Ξ (.BoolOp .And (a :: b :: es) pos) (yAndV ra rb) := by
  obtain ⟨ta, pa, ka⟩ := ha.ex
  obtain ⟨tb, pb, kb⟩ := hb.ex
  refine ⟨_, pe_and pa pb, fun F Hs σ H ε Q' Q R L q k => ka F Hs σ H ε _ _ R L q fun v H1 Hs1 t1 ε1 e1 R1 p1 q1 => ?_⟩
  obtain ⟨d, rv, q2⟩ := R1.res p1 q1
  cases d with
  | bl c =>
    refine ⟨c, rv.bl', ?_⟩
    cases c with
    | true =>
      show tb σ H1 Q
      exact kb F Hs1 σ H1 ε1 _ _ R1 (L.mono e1) q2 fun v' H2 Hs2 t2 ε2 e2 R2 p2 q3 => k v' H2 Hs2 t2 ε2 (e1.trans e2) R2 p2 q3
    | false =>
      show Q (.bl false) H1
      exact k _ H1 Hs1 (.d (.bl false)) ε1 e1 R1 (.bl false) q2
  | _ => exact False.elim q2
theorem ye_or {ra rb : PTE} (ha : YE X W Ξ a ra) (hb : YE X W Ξ (.BoolOp .Or (b :: es) pos) rb) : YE X W Ξ (.BoolOp .Or (a :: b :: es) pos) (yOrV ra rb) := by
  obtain ⟨ta, pa, ka⟩ := ha.ex
  obtain ⟨tb, pb, kb⟩ := hb.ex
  refine ⟨_, pe_or pa pb, fun F Hs σ H ε Q' Q R L q k => ka F Hs σ H ε _ _ R L q fun v H1 Hs1 t1 ε1 e1 R1 p1 q1 => ?_⟩
  obtain ⟨d, rv, q2⟩ := R1.res p1 q1
  cases d with
  | bl c =>
    refine ⟨c, rv.bl', ?_⟩
    cases c with
    | true =>
      show Q (.bl true) H1
      exact k _ H1 Hs1 (.d (.bl true)) ε1 e1 R1 (.bl true) q2
    | false =>
      show tb σ H1 Q
      exact kb F Hs1 σ H1 ε1 _ _ R1 (L.mono e1) q2 fun v' H2 Hs2 t2 ε2 e2 R2 p2 q3 => k v' H2 Hs2 t2 ε2 (e1.trans e2) R2 p2 q3
  | _ => exact False.elim q2
def yIf (rt : PTT) (ra rb : PTE) : PTE := fun ε Q => rt ε fun k ε' => match k with
  | true => ra ε' Q
  | false => rb ε' Q
theorem ye_if {rt : PTT} {ra rb : PTE} (hc : YT X W Ξ c rt) (ha : YE X W Ξ a ra) (hb : YE X W Ξ b rb) : YE X W Ξ (.IfExp c a b pos) (yIf rt ra rb) := by
  obtain ⟨tc, pc, kc⟩ := hc.ex
  obtain ⟨ta, pa, ka⟩ := ha.ex
  obtain ⟨tb, pb, kb⟩ := hb.ex
  refine ⟨_, pe_ifExp pc pa pb, fun F Hs σ H ε Q' Q R L q k => kc F Hs σ H ε _ _ R L q fun c H1 Hs1 ε1 e1 R1 q1 => ?_⟩
  cases c with
  | true =>
    show (if true = true then _ else _)
    rw [if_pos rfl]
    exact ka F Hs1 σ H1 ε1 _ _ R1 (L.mono e1) q1 fun v' H2 Hs2 t2 ε2 e2 R2 p2 q3 => k v' H2 Hs2 t2 ε2 (e1.trans e2) R2 p2 q3
  | false =>
    show (if false = true then _ else _)
    rw [if_neg Bool.false_ne_true]
    exact kb F Hs1 σ H1 ε1 _ _ R1 (L.mono e1) q1 fun v' H2 Hs2 t2 ε2 e2 R2 p2 q3 => k v' H2 Hs2 t2 ε2 (e1.trans e2) R2 p2 q3

/-! ### arguments, displays, calls -/
def ylNil : PTL := fun ε Q => Q [] ε
def ylCons (r : PTE) (rs : PTL) : PTL := fun ε Q => r ε fun t ε1 => rs ε1 fun ts ε2 => Q (t :: ts) ε2
theorem yl_nil : YL X W Ξ [] ylNil := ⟨tNil, pa_nil, fun F Hs σ H ε Q' Q R _ q k => k [] H Hs [] ε (Evl.Ex.refl _) R .nil q⟩
theorem yl_cons {r : PTE} {rs : PTL} (h : YE X W Ξ a r) (hs : YL X W Ξ es rs) (hst : starEach (a :: es) X.env = (false, eval a X.env) :: starEach es X.env := by rfl) : YL X W Ξ (a :: es) (ylCons r rs) := by
  obtain ⟨t, p, k⟩ := h.ex
  obtain ⟨ts, ps, ks⟩ := hs.ex
  refine ⟨_, pa_cons p ps hst, fun F Hs σ H ε Q' Q R L q kk => k F Hs σ H ε _ _ R L q fun v H1 Hs1 t1 ε1 e1 R1 p1 q1 => ?_⟩
  exact ks F Hs1 σ H1 ε1 _ _ R1 (L.mono e1) q1 fun vs H2 Hs2 t2 ε2 e2 R2 p2 q2 => kk (v :: vs) H2 Hs2 (t1 :: t2) ε2 (e1.trans e2) R2 (.cons (p1.mono e2) p2) q2
/-- [a, b, ..] -/
def ynLst (rs : PTL) : PTN := fun ε Q => rs ε fun ts ε1 => outs ε1 ts fun ds ε2 => gd (ds.length ≤ 16777216) (Q ds ε2)
theorem yn_lst {rs : PTL} (h : YL X W Ξ es rs) : YN X W Ξ (.List es pos) (ynLst rs) := by
  obtain ⟨ts, ps, ks⟩ := h.ex
  refine ⟨_, pe_lst ps, fun F Hs σ H ε Q' Q R L q k => ks F Hs σ H ε _ _ R L q fun vs H1 Hs1 t1 ε1 e1 R1 p1 q1 => ?_⟩
  obtain ⟨ds, ε2, Hs2, e2, R2, rs, hq⟩ := R1.outs p1 q1
  obtain ⟨hl, q2⟩ := gd_elim hq
  refine ⟨by rw [rs.len]; exact line_le hl, fun p hp => ?_⟩
  obtain ⟨n1, n2, n3⟩ := R2.nobody hp
  exact k p _ Hs2 vs ds ε2 (e1.trans e2) (R2.lay hp) upd_same n1 n2 n3 rs q2
/-- (a, b, ..) -/
def yTup (rs : PTL) : PTE := fun ε Q => rs ε fun ts ε1 => outs ε1 ts fun ds ε2 => gd (ds.length ≤ 16777216) (Q (.d (.tup ds)) ε2)
theorem ye_tup {rs : PTL} {k : Nat} (h : YL X W Ξ es rs) : YE X W Ξ (.Tuple es k pos) (yTup rs) := by
  obtain ⟨ts, ps, ks⟩ := h.ex
  refine ⟨_, pe_tup ps, fun F Hs σ H ε Q' Q R L q k => ks F Hs σ H ε _ _ R L q fun vs H1 Hs1 t1 ε1 e1 R1 p1 q1 => ?_⟩
  obtain ⟨ds, ε2, Hs2, e2, R2, rs, hq⟩ := R1.outs p1 q1
  obtain ⟨hl, q2⟩ := gd_elim hq
  refine ⟨by rw [rs.len]; exact line_le hl, fun p hp => ?_⟩
  obtain ⟨R3, e3⟩ := R2.new (o := .tup vs) hp
  exact k (.ref p) _ _ (.d (.tup ds)) ε2 ((e1.trans e2).trans e3) R3 (show Rep X.K _ _ (.tup ds) from .tup (SqT.of upd_same) (rs.mono e3)) q2

/-- a built-in's call, by data -/
abbrev OPC := List D → (D → Prop) → Prop
def CallY (X : Cx) (f : Value) (o : OPC) : Prop := ∃ r, CallR X f r ∧ ∀ (F Hs : Hp) (σ : St) (H : Hp) (ε : PEnv) (vs : List V) (ds : List D) (Q' : D → Prop) (Q : VK), RelS X.K F Hs σ H ε → RepVs X.K Hs H vs ds → o ds Q' →
  (∀ z H' Hs' d, Ex Hs Hs' → RelS X.K F Hs' σ H' ε → Rep X.K Hs' z d → Q' d → Q z H') → r vs H Q
/-- .. that makes a list -/
def CallN (X : Cx) (f : Value) (o : List D → (List D → Prop) → Prop) : Prop := ∃ r, CallR X f r ∧ ∀ (F Hs : Hp) (σ : St) (H : Hp) (ε : PEnv) (vs : List V) (ds : List D) (Q' : List D → Prop) (Q : VK), RelS X.K F Hs σ H ε → RepVs X.K Hs H vs ds → o ds Q' →
  (∀ p ws es, H p = none → Reps X.K Hs ws es → Q' es → Q (.ref p) (upd H p (.lst ws))) → r vs H Q
def yCB (o : OPC) (rs : PTL) : PTE := fun ε Q => rs ε fun ts ε1 => ress ε1 ts fun ds => o ds fun d => Q (.d d) ε1
def ynCB (o : List D → (List D → Prop) → Prop) (rs : PTL) : PTN := fun ε Q => rs ε fun ts ε1 => ress ε1 ts fun ds => o ds fun d => Q d ε1
section
variable {x : Str} {p : Pos} {id ty : String} {rs : PTL}
theorem cb_core {f : Value} {o : OPC} {r : List V → Hp → VK → Prop} {ta : TA} (h : ∀ (F Hs : Hp) (σ : St) (H : Hp) (ε : PEnv) (vs : List V) (ds : List D) (Q' : D → Prop) (Q : VK), RelS X.K F Hs σ H ε → RepVs X.K Hs H vs ds → o ds Q' →
  (∀ z H' Hs' d, Ex Hs Hs' → RelS X.K F Hs' σ H' ε → Rep X.K Hs' z d → Q' d → Q z H') → r vs H Q)
    (ka : ∀ (F Hs : Hp) (σ : St) (H : Hp) (ε : PEnv) (Q' : List T → PEnv → Prop) (Q : List V → Hp → Prop), RelS X.K F Hs σ H ε → Lk X.K F Hs W Ξ → rs ε Q' → KL X.K F Hs σ Q' Q → ta σ H Q)
    (F Hs : Hp) (σ : St) (H : Hp) (ε : PEnv) (Q' : T → PEnv → Prop) (Q : VK) (R : RelS X.K F Hs σ H ε) (L : Lk X.K F Hs W Ξ) (q : yCB o rs ε Q') (k : KE X.K F Hs σ Q' Q) : tCB r ta σ H Q := by
  refine ka F Hs σ H ε _ _ R L q fun vs H1 Hs1 t1 ε1 e1 R1 p1 q1 => ?_
  obtain ⟨ds, rv, q2⟩ := R1.ress p1 q1
  exact h F Hs1 σ H1 ε1 vs ds _ Q R1 rv q2 fun z H' Hs' d e2 R2 p2 q3 => k z H' Hs' (.d d) ε1 (e1.trans e2) R2 p2 q3
theorem ye_callB {o : OPC} (hc : CallY X (.builtin id) o) (hg : Gl X x) (hm : X.mg x = none) (hv : bootBuiltins x = some (.builtin id)) (h : YL X W Ξ (a :: es) rs) (hn : x ≠ "__name__" := by decide) (hdb : (x == ("__debug__" : Str)) = false := by decide)
    (he : starEach (a :: es) X.env = (false, eval a X.env) :: starEach es X.env := by rfl) (hpl : (backTo pos (starEach es X.env)).any (·.1) = false := by rfl) : YE X W Ξ (.Call (.Name x p) (a :: es) [] pos) (yCB o rs) := by
  obtain ⟨r, hr, hh⟩ := hc
  obtain ⟨ts, ps, ks⟩ := h.ex
  exact ⟨_, pe_callB hr hg hm hv ps hn hdb he hpl, cb_core (f := .builtin id) hh ks⟩
theorem ye_callTy {o : OPC} (hc : CallY X (.type ty) o) (hg : Gl X x) (hm : X.mg x = none) (hv : bootBuiltins x = some (.type ty)) (h : YL X W Ξ (a :: es) rs) (hn : x ≠ "__name__" := by decide) (hdb : (x == ("__debug__" : Str)) = false := by decide)
    (he : starEach (a :: es) X.env = (false, eval a X.env) :: starEach es X.env := by rfl) (hpl : (backTo pos (starEach es X.env)).any (·.1) = false := by rfl) : YE X W Ξ (.Call (.Name x p) (a :: es) [] pos) (yCB o rs) := by
  obtain ⟨r, hr, hh⟩ := hc
  obtain ⟨ts, ps, ks⟩ := h.ex
  exact ⟨_, pe_callTy hr hg hm hv ps hn hdb he hpl, cb_core (f := .type ty) hh ks⟩
theorem cn_core {f : Value} {o : List D → (List D → Prop) → Prop} {r : List V → Hp → VK → Prop} {ta : TA} (h : ∀ (F Hs : Hp) (σ : St) (H : Hp) (ε : PEnv) (vs : List V) (ds : List D) (Q' : List D → Prop) (Q : VK), RelS X.K F Hs σ H ε → RepVs X.K Hs H vs ds → o ds Q' →
  (∀ p ws es, H p = none → Reps X.K Hs ws es → Q' es → Q (.ref p) (upd H p (.lst ws))) → r vs H Q)
    (ka : ∀ (F Hs : Hp) (σ : St) (H : Hp) (ε : PEnv) (Q' : List T → PEnv → Prop) (Q : List V → Hp → Prop), RelS X.K F Hs σ H ε → Lk X.K F Hs W Ξ → rs ε Q' → KL X.K F Hs σ Q' Q → ta σ H Q)
    (F Hs : Hp) (σ : St) (H : Hp) (ε : PEnv) (Q' : List D → PEnv → Prop) (Q : VK) (R : RelS X.K F Hs σ H ε) (L : Lk X.K F Hs W Ξ) (q : ynCB o rs ε Q') (k : KN X.K F Hs σ Q' Q) : tCB r ta σ H Q := by
  refine ka F Hs σ H ε _ _ R L q fun vs H1 Hs1 t1 ε1 e1 R1 p1 q1 => ?_
  obtain ⟨ds, rv, q2⟩ := R1.ress p1 q1
  refine h F Hs1 σ H1 ε1 vs ds _ Q R1 rv q2 fun p ws es hp p2 q3 => ?_
  obtain ⟨n1, n2, n3⟩ := R1.nobody hp
  exact k p _ Hs1 ws es ε1 e1 (R1.lay hp) upd_same n1 n2 n3 p2 q3
theorem yn_callB {o : List D → (List D → Prop) → Prop} (hc : CallN X (.builtin id) o) (hg : Gl X x) (hm : X.mg x = none) (hv : bootBuiltins x = some (.builtin id)) (h : YL X W Ξ (a :: es) rs) (hn : x ≠ "__name__" := by decide) (hdb : (x == ("__debug__" : Str)) = false := by decide)
    (he : starEach (a :: es) X.env = (false, eval a X.env) :: starEach es X.env := by rfl) (hpl : (backTo pos (starEach es X.env)).any (·.1) = false := by rfl) : YN X W Ξ (.Call (.Name x p) (a :: es) [] pos) (ynCB o rs) := by
  obtain ⟨r, hr, hh⟩ := hc
  obtain ⟨ts, ps, ks⟩ := h.ex
  exact ⟨_, pe_callB hr hg hm hv ps hn hdb he hpl, cn_core (f := .builtin id) hh ks⟩
theorem yn_callTy {o : List D → (List D → Prop) → Prop} (hc : CallN X (.type ty) o) (hg : Gl X x) (hm : X.mg x = none) (hv : bootBuiltins x = some (.type ty)) (h : YL X W Ξ (a :: es) rs) (hn : x ≠ "__name__" := by decide) (hdb : (x == ("__debug__" : Str)) = false := by decide)
    (he : starEach (a :: es) X.env = (false, eval a X.env) :: starEach es X.env := by rfl) (hpl : (backTo pos (starEach es X.env)).any (·.1) = false := by rfl) : YN X W Ξ (.Call (.Name x p) (a :: es) [] pos) (ynCB o rs) := by
  obtain ⟨r, hr, hh⟩ := hc
  obtain ⟨ts, ps, ks⟩ := h.ex
  exact ⟨_, pe_callTy hr hg hm hv ps hn hdb he hpl, cn_core (f := .type ty) hh ks⟩
end

/-! ### a def's promise by data -/
abbrev Spec := List D → (D → Prop) → (Nat → Prop) → Prop
/-- others' objects stand as they stood -/
def Keeps (Hs H Hs' H' : Hp) : Prop := Ex Hs Hs' ∧ Ex Hs' H' ∧ ∀ p o, H p = some o → Hs p = none → H' p = some o ∧ Hs' p = none
def pSp (K : PySem.W.Frag) (φ : Spec) : Sp := fun vs H Q E => ∃ (Hs : Hp) (ds : List D) (Q' : D → Prop) (E' : Nat → Prop), Ex Hs H ∧ Reps K Hs vs ds ∧ φ ds Q' E' ∧
  (∀ d, Q' d → ∀ v H' Hs', Keeps Hs H Hs' H' → Rep K Hs' v d → Q v H') ∧ (∀ c, E' c → ∀ H' Hs', Keeps Hs H Hs' H' → E (.ref (exA K c)) none H')
/-- the caller's state behind a call -/
theorem RelS.called {K : PySem.W.Frag} {F Hs H Hs' H' : Hp} {σ : St} {ε : PEnv} (R : RelS K F Hs σ H ε) (k : Keeps Hs H Hs' H') : RelS K F Hs' σ H' ε := by
  obtain ⟨k1, k2, k3⟩ := k
  refine ⟨k2, fun p o e => ?_, R.len, fun i s e => ?_, R.ds⟩
  · obtain ⟨h1, h2⟩ := R.fr p o e
    exact k3 p o h1 h2
  · have z := R.sl i s e
    cases s with
    | v d =>
      obtain ⟨v, h1, h2⟩ := z
      exact ⟨v, h1, h2.mono k1⟩
    | o ds =>
      obtain ⟨p, vs, h1, h2, h3, h4, h5⟩ := z
      obtain ⟨g1, g2⟩ := k3 p _ h4 h2
      exact ⟨p, vs, h1, g2, h3, g1, h5.mono k1⟩
    | od ds =>
      obtain ⟨p, vs, h1, h2, h3, h4, h5, h6⟩ := z
      obtain ⟨g1, g2⟩ := k3 p _ h4 h2
      exact ⟨p, vs, h1, g2, h3, g1, h5, h6.mono k1⟩
def yCall (φ : Spec) (Ξ : Xi) (rs : PTL) : PTE := fun ε Q => rs ε fun ts ε1 => outs ε1 ts fun ds ε2 => φ ds (fun d => Q (.d d) ε2) fun c => Ξ c ε2
theorem ye_call {φ : Spec} {rs : PTL} {k : Nat} {f : Addr} {fd : FuncData} {ps : List Str} {x : Str} {p : Pos} (Fn : FnOk X.prog X.w X.K X.mg X.base (L2.CX X.prog X.w) k f fd ps (pSp X.K φ)) (tk : Takes X W) (hr : Room k X.A) (hg : Gl X x)
    (hm : X.mg x = some (.ref f)) (hk : PySem.W.keepIn X.K (.ref f) = true) (hb : Binds X.K fd ps []) (h : YL X W Ξ (a :: es) rs) (hdb : (x == ("__debug__" : Str)) = false := by decide)
    (he : starEach (a :: es) X.env = (false, eval a X.env) :: starEach es X.env := by rfl) (hpl : (backTo pos (starEach es X.env)).any (·.1) = false := by rfl) :
    YE X W Ξ (.Call (.Name x p) (a :: es) [] pos) (yCall φ Ξ rs) := by
  obtain ⟨ts, pas, ks⟩ := h.ex
  refine ⟨_, pe_callS Fn hr hg hm hk hb (fun σ => passAt tk σ) pas hdb he hpl, fun F Hs σ H ε Q' Q R L q k => ks F Hs σ H ε _ _ R L q fun vs H1 Hs1 t1 ε1 e1 R1 p1 q1 => ?_⟩
  obtain ⟨ds, ε2, Hs2, e2, R2, rs, q2⟩ := R1.outs p1 q1
  refine ⟨Hs2, ds, _, _, R2.ex, rs, q2, fun d qd v H' Hs' kp rv => ?_, fun c ec H' Hs' kp => ?_⟩
  · exact k v H' Hs' (.d d) ε2 ((e1.trans e2).trans kp.1) (R2.called kp) rv qd
  · exact L c σ H' Hs' ε2 ec ((e1.trans e2).trans kp.1) (R2.called kp)
end
end PL

set_option Elab.async false
set_option linter.all false
set_option autoImplicit false
set_option maxRecDepth 100000
set_option maxHeartbeats 2000000
/-! Operators, built-ins, subscripts, comprehensions, over plain data. -/
namespace PL
open PySem PySem.Spec PyProof.Rows L2
open Evl (Ex)
section
variable {X : Cx}

def oAdd : OP2
  | .int i, .int j, Q => Q (.int (i + j))
  | .str x, .str y, Q => gd (x.length + y.length ≤ 16777216) (Q (.str (x ++ y)))
  | .lst xs, .lst ys, Q => gd (xs.length + ys.length ≤ 16777216) (Q (.lst (xs ++ ys)))
  | _, _, _ => False
def rAddA : R2 := fun x y H Q => (∃ i j, x = .int i ∧ y = .int j ∧ Q (.int (i + j)) H) ∨ (∃ i j, x = .str i ∧ y = .str j ∧ i.length + j.length ≤ sizeLine ∧ Q (.str (i ++ j)) H) ∨ rCat x y H Q
theorem op_addA : OpR X (binaryOp .Add) rAddA := op_add.or (op_add_str.or op_cat)
theorem oy_add : OpY X (binaryOp .Add) oAdd := by
  refine ⟨_, op_addA, fun F Hs σ H ε v w d1 d2 Q' Q R r1 r2 q k => ?_⟩
  unfold oAdd at q
  split at q
  · exact .inl ⟨_, _, r1.int', r2.int', k _ H Hs _ (Evl.Ex.refl _) R (.int _) q⟩
  · have q := gd_elim q
    exact .inr (.inl ⟨_, _, r1.str', r2.str', line_le q.1, k _ H Hs _ (Evl.Ex.refl _) R (.str _) q.2⟩)
  · have q := gd_elim q
    obtain ⟨a, vs, e1, h1, p1⟩ := r1.lst' R.ex
    obtain ⟨b, ws, e2, h2, p2⟩ := r2.lst' R.ex
    refine .inr (.inr ⟨a, b, vs, ws, e1, e2, h1, h2, by rw [p1.len, p2.len]; exact line_le q.1, fun p hp => ?_⟩)
    obtain ⟨R3, e3⟩ := R.new (o := .lst (vs ++ ws)) hp
    exact k (.ref p) _ _ _ e3 R3 (.lst upd_same ((p1.append p2).mono e3)) q.2
  · exact q.elim
def catQ (d1 d2 : D) (Q : List D → Prop) : Prop := match d1, d2 with
  | .lst xs, .lst ys => gd (xs.length + ys.length ≤ 16777216) (Q (xs ++ ys))
  | _, _ => False
theorem catQ_elim {d1 d2 : D} {Q : List D → Prop} (h : catQ d1 d2 Q) : ∃ xs ys, d1 = .lst xs ∧ d2 = .lst ys ∧ xs.length + ys.length ≤ 16777216 ∧ Q (xs ++ ys) := by
  unfold catQ at h
  split at h
  · exact ⟨_, _, rfl, rfl, gd_elim h⟩
  · exact h.elim
/-- a + b, a new list that a name takes -/
def ynAdd (ra rb : PTE) : PTN := fun ε Q => ra ε fun t1 ε1 => rb ε1 fun t2 ε2 => res ε2 t1 fun d1 => res ε2 t2 fun d2 => catQ d1 d2 fun ds => Q ds ε2
theorem yn_add {W : WX} {Ξ : Xi} {a b : Expr} {pos : Pos} {ra rb : PTE} (ha : YE X W Ξ a ra) (hb : YE X W Ξ b rb) : YN X W Ξ (.BinOp a .Add b pos) (ynAdd ra rb) := by
  obtain ⟨ta, pa, ka⟩ := ha.ex
  obtain ⟨tb, pb, kb⟩ := hb.ex
  refine ⟨_, pe_op op_cat pa pb, fun F Hs σ H ε Q' Q R L q k => ?_⟩
  refine ka F Hs σ H ε _ _ R L q fun v H1 Hs1 t1 ε1 e1 R1 p1 q1 => ?_
  refine kb F Hs1 σ H1 ε1 _ _ R1 (L.mono e1) q1 fun w H2 Hs2 t2 ε2 e2 R2 p2 q2 => ?_
  obtain ⟨d1, v1, q3⟩ := R2.res (p1.mono e2) q2
  obtain ⟨d2, v2, q4⟩ := R2.res p2 q3
  obtain ⟨xs, ys, rfl, rfl, hl, q4⟩ := catQ_elim q4
  obtain ⟨a, vs, g1, h1, p1⟩ := v1.lst' R2.ex
  obtain ⟨b, ws, g2, h2, p2⟩ := v2.lst' R2.ex
  refine ⟨a, b, vs, ws, g1, g2, h1, h2, by rw [p1.len, p2.len]; exact line_le hl, fun p hp => ?_⟩
  obtain ⟨n1, n2, n3⟩ := R2.nobody hp
  exact k p _ Hs2 _ _ ε2 (e1.trans e2) (R2.lay hp) upd_same n1 n2 n3 (p1.append p2) q4
def oSub : OP2
  | .int i, .int j, Q => Q (.int (i - j))
  | _, _, _ => False
theorem oy_sub : OpY X (binaryOp .Sub) oSub := by
  refine ⟨_, op_sub, fun F Hs σ H ε v w d1 d2 Q' Q R r1 r2 q k => ?_⟩
  unfold oSub at q
  split at q
  · exact ⟨_, _, r1.int', r2.int', k _ H Hs _ (Evl.Ex.refl _) R (.int _) q⟩
  · exact q.elim
def oMul : OP2
  | .int i, .int j, Q => gd ((-18446744073709551616 < i ∧ i < 18446744073709551616) ∨ (-18446744073709551616 < j ∧ j < 18446744073709551616)) (Q (.int (i * j)))
  | .lst xs, .int k, Q => gd (-9223372036854775808 ≤ k ∧ k < 9223372036854775808 ∧ xs.length * k.toNat ≤ 16777216) (Q (.lst (List.replicate k.toNat xs).flatten))
  | _, _, _ => False
theorem Reps.rep {K : PySem.W.Frag} {H : Hp} {vs : List V} {ds : List D} (h : Reps K H vs ds) : ∀ k : Nat, Reps K H (List.replicate k vs).flatten (List.replicate k ds).flatten
  | 0 => .nil
  | k + 1 => by
    rw [List.replicate_succ, List.flatten_cons, List.replicate_succ, List.flatten_cons]
    exact h.append (Reps.rep h k)
theorem oy_mul : OpY X (binaryOp .Mult) oMul := by
  refine ⟨_, op_mul.or op_rep, fun F Hs σ H ε v w d1 d2 Q' Q R r1 r2 q k => ?_⟩
  unfold oMul at q
  split at q
  · have q := gd_elim q
    refine .inl ⟨_, _, r1.int', r2.int', ?_, k _ H Hs _ (Evl.Ex.refl _) R (.int _) q.2⟩
    exact q.1
  · have q := gd_elim q
    obtain ⟨a, vs, e1, h1, p1⟩ := r1.lst' R.ex
    refine .inr ⟨a, _, vs, e1, r2.int', h1, q.1.1, q.1.2.1, by rw [p1.len]; exact line_le q.1.2.2, fun p hp => ?_⟩
    obtain ⟨R3, e3⟩ := R.new (o := .lst (List.replicate (Int.toNat _) vs).flatten) hp
    exact k (.ref p) _ _ _ e3 R3 (.lst upd_same ((p1.rep _).mono e3)) q.2
  · exact q.elim
def oMod : OP2
  | .int i, .int j, Q => gd (0 < j) (Q (.int (i % j)))
  | _, _, _ => False
theorem oy_mod : OpY X (binaryOp .Mod) oMod := by
  refine ⟨_, op_mod, fun F Hs σ H ε v w d1 d2 Q' Q R r1 r2 q k => ?_⟩
  unfold oMod at q
  split at q
  · have q := gd_elim q
    exact ⟨_, _, r1.int', r2.int', q.1, k _ H Hs _ (Evl.Ex.refl _) R (.int _) q.2⟩
  · exact q.elim
def oFdiv : OP2
  | .int i, .int j, Q => gd (0 < j ∧ j < 1073741824) (Q (.int (i / j)))
  | _, _, _ => False
theorem oy_fdiv : OpY X (binaryOp .FloorDiv) oFdiv := by
  refine ⟨_, op_fdiv, fun F Hs σ H ε v w d1 d2 Q' Q R r1 r2 q k => ?_⟩
  unfold oFdiv at q
  split at q
  · have q := gd_elim q
    exact ⟨_, _, r1.int', r2.int', q.1, k _ H Hs _ (Evl.Ex.refl _) R (.int _) q.2⟩
  · exact q.elim
def oPow : OP2
  | .int i, .int j, Q => gd (0 ≤ j ∧ j ≤ 1000000 ∧ i.natAbs < 18446744073709551616) (Q (.int (i ^ j.toNat)))
  | _, _, _ => False
theorem oy_pow : OpY X (binaryOp .Pow) oPow := by
  refine ⟨_, op_pow, fun F Hs σ H ε v w d1 d2 Q' Q R r1 r2 q k => ?_⟩
  unfold oPow at q
  split at q
  · have q := gd_elim q
    exact ⟨_, _, r1.int', r2.int', q.1, k _ H Hs _ (Evl.Ex.refl _) R (.int _) q.2⟩
  · exact q.elim
def asI (Q : Int → Prop) : D → Prop
  | .int i => Q i
  | _ => False
theorem asI_elim {d : D} {Q : Int → Prop} (h : asI Q d) : ∃ i, d = .int i ∧ Q i := by
  cases d with
  | int i => exact ⟨i, rfl, h⟩
  | _ => exact h.elim
def yNeg (r : PTE) : PTE := fun ε Q => r ε fun t ε' => res ε' t (asI fun i => Q (.d (.int (-i))) ε')
theorem ye_neg {W : WX} {Ξ : Xi} {a : Expr} {pos : Pos} {r : PTE} (h : YE X W Ξ a r) : YE X W Ξ (.UnaryOp .USub a pos) (yNeg r) := by
  obtain ⟨t, p, k⟩ := h.ex
  refine ⟨_, pe_un un_neg p, fun F Hs σ H ε Q' Q R L q kk => k F Hs σ H ε _ _ R L q fun v H' Hs' t ε' e R' p' q' => ?_⟩
  obtain ⟨d, rv, q2⟩ := R'.res p' q'
  obtain ⟨i, rfl, q2⟩ := asI_elim q2
  exact ⟨i, rv.int', kk (.int (-i)) H' Hs' (.d (.int (-i))) ε' e R' (.int _) q2⟩

/-! ### comparisons -/
def oCmpI (f : Int → Int → Bool) : OP2
  | .int i, .int j, Q => Q (.bl (f i j))
  | _, _, _ => False
abbrev oLt : OP2 := oCmpI fun i j => decide (i < j)
abbrev oLe : OP2 := oCmpI fun i j => decide (i ≤ j)
abbrev oGt : OP2 := oCmpI fun i j => decide (j < i)
abbrev oGe : OP2 := oCmpI fun i j => decide (j ≤ i)
theorem oy_cmp {op : CmpOp} {f : Int → Int → Bool} (h : OpR X (compareOp op) (rI0 fun i j => .bl (f i j))) : OpY X (compareOp op) (oCmpI f) := by
  refine ⟨_, h, fun F Hs σ H ε v w d1 d2 Q' Q R r1 r2 q k => ?_⟩
  unfold oCmpI at q
  split at q
  · exact ⟨_, _, r1.int', r2.int', k _ H Hs _ (Evl.Ex.refl _) R (.bl _) q⟩
  · exact q.elim
theorem oy_lt : OpY X (compareOp .Lt) oLt := oy_cmp op_lt
theorem oy_le : OpY X (compareOp .LtE) oLe := oy_cmp op_le
theorem oy_gt : OpY X (compareOp .Gt) oGt := oy_cmp op_gt
theorem oy_ge : OpY X (compareOp .GtE) oGe := oy_cmp op_ge
/-- is None -/
def isNon : D → Bool
  | .non => true
  | _ => false
def knownB : D → Bool
  | .vl _ => false
  | _ => true
def known (d : D) : Prop := knownB d = true
def oIsN (neg : Bool) : OP2
  | d, .non, Q => match knownB d with
    | true => Q (.bl (match neg with
      | true => !isNon d
      | false => isNon d))
    | false => False
  | _, _, _ => False
theorem isN_rep {K : PySem.W.Frag} {Hs H : Hp} {v : V} {d : D} (h : RepV K Hs H v d) (hk : known d) : decide (v = .non) = isNon d := by
  cases h with
  | sc h => cases h <;> first | rfl | cases hk
  | lst _ _ => rfl
  | dic _ _ _ => rfl
theorem oy_isN : OpY X (compareOp .Is) (oIsN false) := by
  refine ⟨_, op_isN, fun F Hs σ H ε v w d1 d2 Q' Q R r1 r2 q k => ?_⟩
  unfold oIsN at q
  split at q
  · refine ⟨r2.non', ?_⟩
    split at q
    · rename_i hk
      rw [isN_rep r1 hk]
      exact k _ H Hs _ (Evl.Ex.refl _) R (.bl _) q
    · exact q.elim
  · exact q.elim
theorem oy_notN : OpY X (compareOp .IsNot) (oIsN true) := by
  refine ⟨_, op_notN, fun F Hs σ H ε v w d1 d2 Q' Q R r1 r2 q k => ?_⟩
  unfold oIsN at q
  split at q
  · refine ⟨r2.non', ?_⟩
    split at q
    · rename_i hk
      rw [isN_rep r1 hk]
      exact k _ H Hs _ (Evl.Ex.refl _) R (.bl _) q
    · exact q.elim
  · exact q.elim

mutual
def D.py : D → PyData
  | .non => .none
  | .bl b => .bool b
  | .int i => .int i
  | .str x => .str x
  | .lst xs => .list (D.pys xs)
  | .frl xs => .list (D.pys xs)
  | .tup xs => .tuple (D.pys xs)
  | _ => .dict []
def D.pys : List D → List PyData
  | [] => []
  | d :: ds => D.py d :: D.pys ds
end
section
variable {K : PySem.W.Frag} {H : Hp}
mutual
theorem Rep.dp : ∀ {v : V} {d : D}, Rep K H v d → (D.py d).canLay0 = true → Dp K H v (D.py d)
  | _, _, .non, _ => .non
  | _, _, .bl b, _ => .bl b
  | _, _, .int i, _ => .int i
  | _, _, .str x, _ => .str x
  | _, _, .lst h r, c => .lst (SqL.of h) (Reps.dp r c)
  | _, _, .frl h r, c => .lst h.sq (Reps.dp r c)
  | _, _, .tup h r, c => .tup h (Reps.dp r c)
theorem Reps.dp : ∀ {vs : List V} {ds : List D}, Reps K H vs ds → PyData.canLayAll0 (D.pys ds) = true → DpAll K H vs (D.pys ds)
  | _, _, .nil, _ => .nil
  | _, _, .cons r t, c => .cons (Rep.dp r (Bool.and_eq_true_iff.mp c).1) (Reps.dp t (Bool.and_eq_true_iff.mp c).2)
end
end
theorem RepV.dp {K : PySem.W.Frag} {Hs H : Hp} {v : V} {d : D} (h : RepV K Hs H v d) (ex : Ex Hs H) (c : (D.py d).canLay0 = true) : Dp K H v (D.py d) := by
  cases h with
  | sc h => exact Rep.dp (h.mono ex) c
  | lst h r => exact .lst (SqL.of h) (Reps.dp (r.mono ex) c)
  | dic h _ _ => cases c
/-- == -/
def eqD (d1 d2 : D) (Q : Bool → Prop) : Prop := match d1, d2 with
  | .int i, .int j => Q (decide (i = j))
  | .str x, .str y => Q (decide (x = y))
  | .bl x, .bl y => Q (decide (x = y))
  | .non, .non => Q true
  | .non, .int _ => Q false
  | .int _, .non => Q false
  | .non, .bl _ => Q false
  | .bl _, .non => Q false
  | .non, .str _ => Q false
  | .str _, .non => Q false
  | .int _, .str _ => Q false
  | .str _, .int _ => Q false
  | .bl _, .str _ => Q false
  | .str _, .bl _ => Q false
  | d1, d2 => gd (SeqAt.shaped (D.py d1) = true ∧ SeqAt.shaped (D.py d2) = true) (Q (PyData.eqv (D.py d1) (D.py d2)))
def oEq (neg : Bool) : OP2 := fun d1 d2 Q => eqD d1 d2 fun b => Q (.bl (match neg with
  | true => !b
  | false => b))
def rEqA (K : PySem.W.Frag) : R2 := fun x y H Q => rEq x y H Q ∨ rEqD K x y H Q
def rNeA (K : PySem.W.Frag) : R2 := fun x y H Q => rNe x y H Q ∨ rNeD K x y H Q
theorem eqD_core {K : PySem.W.Frag} {F Hs H : Hp} {σ : St} {ε : PEnv} {v w : V} {d1 d2 : D} {Q : Bool → Prop} (R : RelS K F Hs σ H ε) (r1 : RepV K Hs H v d1) (r2 : RepV K Hs H w d2) (q : eqD d1 d2 Q) :
    (scal v w = true ∧ Q (decide (v = w))) ∨ ∃ d e, Dp K H v d ∧ Dp K H w e ∧ SeqAt.shaped d = true ∧ SeqAt.shaped e = true ∧ Q (PyData.eqv d e) := by
  unfold eqD at q
  split at q
  · refine .inl ?_; rw [r1.int', r2.int']; refine ⟨rfl, ?_⟩; simpa using q
  · refine .inl ?_; rw [r1.str', r2.str']; refine ⟨rfl, ?_⟩; simpa using q
  · refine .inl ?_; rw [r1.bl', r2.bl']; refine ⟨rfl, ?_⟩; simpa using q
  · refine .inl ?_; rw [r1.non', r2.non']; exact ⟨rfl, q⟩
  · refine .inl ?_; rw [r1.non', r2.int']; exact ⟨rfl, q⟩
  · refine .inl ?_; rw [r1.int', r2.non']; exact ⟨rfl, q⟩
  · refine .inl ?_; rw [r1.non', r2.bl']; exact ⟨rfl, q⟩
  · refine .inl ?_; rw [r1.bl', r2.non']; exact ⟨rfl, q⟩
  · refine .inl ?_; rw [r1.non', r2.str']; exact ⟨rfl, q⟩
  · refine .inl ?_; rw [r1.str', r2.non']; exact ⟨rfl, q⟩
  · refine .inl ?_; rw [r1.int', r2.str']; exact ⟨rfl, q⟩
  · refine .inl ?_; rw [r1.str', r2.int']; exact ⟨rfl, q⟩
  · refine .inl ?_; rw [r1.bl', r2.str']; exact ⟨rfl, q⟩
  · refine .inl ?_; rw [r1.str', r2.bl']; exact ⟨rfl, q⟩
  · have q := gd_elim q
    exact .inr ⟨_, _, r1.dp R.ex (SeqAt.canLay_of_shaped q.1.1), r2.dp R.ex (SeqAt.canLay_of_shaped q.1.2), q.1.1, q.1.2, q.2⟩
theorem oy_eq (hu : X.A.units + 64 < cLine) : OpY X (compareOp .Eq) (oEq false) := by
  refine ⟨rEqA X.K, op_eq.or (op_eqD hu), fun F Hs σ H ε v w d1 d2 Q' Q R r1 r2 q k => ?_⟩
  rcases eqD_core R r1 r2 q with ⟨h1, h2⟩ | ⟨d, e, h1, h2, h3, h4, h5⟩
  · exact .inl ⟨h1, k _ H Hs _ (Evl.Ex.refl _) R (.bl _) h2⟩
  · exact .inr ⟨d, e, h1, h2, h3, h4, k _ H Hs _ (Evl.Ex.refl _) R (.bl _) h5⟩
theorem oy_ne (hu : X.A.units + 64 < cLine) : OpY X (compareOp .NotEq) (oEq true) := by
  refine ⟨rNeA X.K, op_ne.or (op_neD hu), fun F Hs σ H ε v w d1 d2 Q' Q R r1 r2 q k => ?_⟩
  rcases eqD_core R r1 r2 q with ⟨h1, h2⟩ | ⟨d, e, h1, h2, h3, h4, h5⟩
  · exact .inl ⟨h1, k _ H Hs _ (Evl.Ex.refl _) R (.bl _) h2⟩
  · exact .inr ⟨d, e, h1, h2, h3, h4, k _ H Hs _ (Evl.Ex.refl _) R (.bl _) h5⟩

/-! ### subscripts -/
def oIx : OP2
  | .lst xs, .int i, Q => opt (atI xs i) Q
  | .frl xs, .int i, Q => opt (atI xs i) Q
  | .tup xs, .int i, Q => opt (atI xs i) Q
  | .str x, .int i, Q => gd (x.length ≤ 16777216) (opt (atI x.cps.toList i) fun c => Q (.str ⟨#[c]⟩))
  | _, _, _ => False
theorem Reps.atI {K : PySem.W.Frag} {H : Hp} {vs : List V} {ds : List D} {i : Int} {d : D} (r : Reps K H vs ds) (h : L2.atI ds i = some d) : ∃ v, L2.atI vs i = some v ∧ Rep K H v d := by
  unfold L2.atI at h ⊢
  rw [r.len]
  cases e : ixN ds.length i with
  | none => rw [e] at h; cases h
  | some j =>
    rw [e] at h
    exact r.get (i := j) h
def yIx (ra rb : PTE) : PTE := yBin oIx ra rb
theorem ye_ix {W : WX} {Ξ : Xi} {a b : Expr} {pos : Pos} {ra rb : PTE} (ha : YE X W Ξ a ra) (hb : YE X W Ξ b rb) (hs : PlainIx b := by exact fun _ _ => rfl) : YE X W Ξ (.Subscript a b pos) (yIx ra rb) := by
  obtain ⟨ta, pa, ka⟩ := ha.ex
  obtain ⟨tb, pb, kb⟩ := hb.ex
  refine ⟨_, pe_ix ix_seq pa pb hs, fun F Hs σ H ε Q' Q R L q k => ?_⟩
  refine ka F Hs σ H ε _ _ R L q fun v H1 Hs1 t1 ε1 e1 R1 p1 q1 => ?_
  refine kb F Hs1 σ H1 ε1 _ _ R1 (L.mono e1) q1 fun w H2 Hs2 t2 ε2 e2 R2 p2 q2 => ?_
  obtain ⟨d1, v1, q3⟩ := R2.res (p1.mono e2) q2
  obtain ⟨d2, v2, q4⟩ := R2.res p2 q3
  unfold oIx at q4
  split at q4
  · obtain ⟨d, hd, q5⟩ := opt_elim q4
    obtain ⟨a, vs, g1, h1, p1⟩ := v1.lst' R2.ex
    obtain ⟨z, hz, rz⟩ := p1.atI hd
    exact .inl ⟨a, vs, _, z, g1, v2.int', SqL.of h1, hz, k z H2 Hs2 (.d d) ε2 (e1.trans e2) R2 rz q5⟩
  · obtain ⟨d, hd, q5⟩ := opt_elim q4
    obtain ⟨a, vs, g1, h1, p1⟩ := v1.frl' R2.ex
    obtain ⟨z, hz, rz⟩ := p1.atI hd
    exact .inl ⟨a, vs, _, z, g1, v2.int', h1, hz, k z H2 Hs2 (.d d) ε2 (e1.trans e2) R2 rz q5⟩
  · obtain ⟨d, hd, q5⟩ := opt_elim q4
    obtain ⟨a, vs, g1, h1, p1⟩ := v1.tup' R2.ex
    obtain ⟨z, hz, rz⟩ := p1.atI hd
    exact .inr (.inl ⟨a, vs, _, z, g1, v2.int', h1, hz, k z H2 Hs2 (.d d) ε2 (e1.trans e2) R2 rz q5⟩)
  · obtain ⟨hl, q4⟩ := gd_elim q4
    obtain ⟨c, hc, q5⟩ := opt_elim q4
    exact .inr (.inr ⟨_, _, c, v1.str', v2.int', line_le hl, hc, k _ H2 Hs2 (.d _) ε2 (e1.trans e2) R2 (.str _) q5⟩)
  · exact q4.elim
/-- an optional part of a slice -/
abbrev PTO := PEnv → (Option Int → PEnv → Prop) → Prop
structure YO (X : Cx) (W : WX) (Ξ : Xi) (e : Option Expr) (r : PTO) : Prop where
  ex : ∃ t, PO X e t ∧ ∀ (F Hs : Hp) (σ : St) (H : Hp) (ε : PEnv) (Q' : Option Int → PEnv → Prop) (Q : Option Int → Hp → Prop), RelS X.K F Hs σ H ε → Lk X.K F Hs W Ξ → r ε Q' →
    (∀ o H' Hs' ε', Ex Hs Hs' → RelS X.K F Hs' σ H' ε' → Q' o ε' → Q o H') → t σ H Q
def yoNone : PTO := fun ε Q => Q none ε
def yoSome (r : PTE) : PTO := fun ε Q => r ε fun t ε' => res ε' t (asI fun i => Q (some i) ε')
theorem yo_none {W : WX} {Ξ : Xi} : YO X W Ξ none yoNone := ⟨tNoPart, po_none, fun F Hs σ H ε Q' Q R _ q k => k none H Hs ε (Evl.Ex.refl _) R q⟩
theorem yo_some {W : WX} {Ξ : Xi} {a : Expr} {r : PTE} (h : YE X W Ξ a r) : YO X W Ξ (some a) (yoSome r) := by
  obtain ⟨t, p, k⟩ := h.ex
  refine ⟨_, po_some p, fun F Hs σ H ε Q' Q R L q kk => k F Hs σ H ε _ _ R L q fun v H' Hs' t ε' e R' p' q' => ?_⟩
  obtain ⟨d, rv, q2⟩ := R'.res p' q'
  cases d with
  | int i => exact ⟨i, rv.int', kk (some i) H' Hs' ε' e R' q2⟩
  | _ => exact False.elim q2
def cutD {α : Type} (xs : List α) (lo hi : Option Int) : List α := (xs.drop (HT.sIx xs.length 0 lo)).take (HT.sIx xs.length xs.length hi - HT.sIx xs.length 0 lo)
theorem Reps.cut {K : PySem.W.Frag} {H : Hp} {vs : List V} {ds : List D} (r : Reps K H vs ds) (lo hi : Option Int) : Reps K H (cutV vs lo hi) (cutD ds lo hi) := by
  unfold cutV cutD
  rw [r.len]
  exact (r.drop _).take _
def asL (Q : List D → Prop) : D → Prop
  | .lst xs => Q xs
  | _ => False
theorem asL_elim {d : D} {Q : List D → Prop} (h : asL Q d) : ∃ i, d = .lst i ∧ Q i := by
  cases d with
  | lst i => exact ⟨i, rfl, h⟩
  | _ => exact h.elim
/-- xs[a:b], a list -/
def ynSl (ra : PTE) (rl rh : PTO) : PTN := fun ε Q => ra ε fun t ε1 => rl ε1 fun lo ε2 => rh ε2 fun hi ε3 => res ε3 t (asL fun xs => Q (cutD xs lo hi) ε3)
theorem yn_sl {W : WX} {Ξ : Xi} {a : Expr} {lo hi : Option Expr} {pos p2 : Pos} {ra : PTE} {rl rh : PTO} (ha : YE X W Ξ a ra) (hl : YO X W Ξ lo rl) (hh : YO X W Ξ hi rh) : YN X W Ξ (.Subscript a (.Slice lo hi none p2) pos) (ynSl ra rl rh) := by
  obtain ⟨ta, pa, ka⟩ := ha.ex
  obtain ⟨tl, pl, kl⟩ := hl.ex
  obtain ⟨th, ph, kh⟩ := hh.ex
  refine ⟨_, pe_slice sl_list pa pl ph, fun F Hs σ H ε Q' Q R L q k => ?_⟩
  refine ka F Hs σ H ε _ _ R L q fun v H1 Hs1 t1 ε1 e1 R1 p1 q1 => ?_
  refine kl F Hs1 σ H1 ε1 _ _ R1 (L.mono e1) q1 fun l H2 Hs2 ε2 e2 R2 q2 => ?_
  refine kh F Hs2 σ H2 ε2 _ _ R2 (L.mono (e1.trans e2)) q2 fun h H3 Hs3 ε3 e3 R3 q3 => ?_
  obtain ⟨d, v1, q4⟩ := R3.res (p1.mono (e2.trans e3)) q3
  obtain ⟨xs, rfl, q4⟩ := asL_elim q4
  obtain ⟨a, vs, g1, h1, p1⟩ := v1.lst' R3.ex
  refine ⟨a, vs, g1, SqL.of h1, fun p hp => ?_⟩
  obtain ⟨n1, n2, n3⟩ := R3.nobody hp
  exact k p _ Hs3 _ _ ε3 ((e1.trans e2).trans e3) (R3.lay hp) upd_same n1 n2 n3 (p1.cut l h) q4

/-! ### built-ins -/
def oLen : OPC
  | [.lst xs], Q => Q (.int (xs.length : Nat))
  | [.frl xs], Q => Q (.int (xs.length : Nat))
  | [.tup xs], Q => Q (.int (xs.length : Nat))
  | [.str x], Q => gd (x.length ≤ 16777216) (Q (.int (x.length : Nat)))
  | _, _ => False
theorem RepVs.one {K : PySem.W.Frag} {Hs H : Hp} {vs : List V} {d : D} (h : RepVs K Hs H vs [d]) : ∃ v, vs = [v] ∧ RepV K Hs H v d := by
  cases h with
  | cons h t => cases t; exact ⟨_, rfl, h⟩
theorem RepVs.two {K : PySem.W.Frag} {Hs H : Hp} {vs : List V} {d e : D} (h : RepVs K Hs H vs [d, e]) : ∃ v w, vs = [v, w] ∧ RepV K Hs H v d ∧ RepV K Hs H w e := by
  cases h with
  | cons h t =>
    obtain ⟨w, rfl, r⟩ := t.one
    exact ⟨_, _, rfl, h, r⟩
theorem cy_len : CallY X (.builtin "len") oLen := by
  refine ⟨_, call_len, fun F Hs σ H ε vs ds Q' Q R r q k => ?_⟩
  unfold oLen at q
  split at q
  · obtain ⟨v, rfl, rv⟩ := r.one
    obtain ⟨a, ws, g1, h1, p1⟩ := rv.lst' R.ex
    subst g1
    exact ⟨_, ws.length, rfl, .inl ⟨ws, SqL.of h1, rfl⟩, by rw [p1.len]; exact k _ H Hs _ (Evl.Ex.refl _) R (.int _) q⟩
  · obtain ⟨v, rfl, rv⟩ := r.one
    obtain ⟨a, ws, g1, h1, p1⟩ := rv.frl' R.ex
    subst g1
    exact ⟨_, ws.length, rfl, .inl ⟨ws, h1, rfl⟩, by rw [p1.len]; exact k _ H Hs _ (Evl.Ex.refl _) R (.int _) q⟩
  · obtain ⟨v, rfl, rv⟩ := r.one
    obtain ⟨a, ws, g1, h1, p1⟩ := rv.tup' R.ex
    subst g1
    exact ⟨_, ws.length, rfl, .inr ⟨ws, h1, rfl⟩, by rw [p1.len]; exact k _ H Hs _ (Evl.Ex.refl _) R (.int _) q⟩
  · obtain ⟨v, rfl, rv⟩ := r.one
    have q := gd_elim q
    exact ⟨_, _, rfl, by rw [rv.str']; exact ⟨line_le q.1, rfl⟩, k _ H Hs _ (Evl.Ex.refl _) R (.int _) q.2⟩
  · exact q.elim
def oInt : OPC
  | [.int i], Q => Q (.int i)
  | [.bl b], Q => Q (.int (if b = true then 1 else 0))
  | _, _ => False
theorem cy_int : CallY X (.type "int") oInt := by
  refine ⟨_, call_int1, fun F Hs σ H ε vs ds Q' Q R r q k => ?_⟩
  unfold oInt at q
  split at q
  · obtain ⟨v, rfl, rv⟩ := r.one
    exact .inl ⟨_, by rw [rv.int'], k _ H Hs _ (Evl.Ex.refl _) R (.int _) q⟩
  · obtain ⟨v, rfl, rv⟩ := r.one
    exact .inr ⟨_, by rw [rv.bl'], k _ H Hs _ (Evl.Ex.refl _) R (.int _) q⟩
  · exact q.elim
def oMax2 : OPC
  | [.int i, .int j], Q => Q (.int (if j > i then j else i))
  | _, _ => False
theorem cy_max2 (hc : X.calm = true) : CallY X (.builtin "max") oMax2 := by
  refine ⟨_, call_max2 hc, fun F Hs σ H ε vs ds Q' Q R r q k => ?_⟩
  unfold oMax2 at q
  split at q
  · obtain ⟨v, w, rfl, rv, rw'⟩ := r.two
    exact ⟨_, _, by rw [rv.int', rw'.int'], k _ H Hs _ (Evl.Ex.refl _) R (.int _) q⟩
  · exact q.elim
def oMin2 : OPC
  | [.int i, .int j], Q => Q (.int (if j < i then j else i))
  | _, _ => False
theorem cy_min2 (hc : X.calm = true) : CallY X (.builtin "min") oMin2 := by
  refine ⟨_, call_min2 hc, fun F Hs σ H ε vs ds Q' Q R r q k => ?_⟩
  unfold oMin2 at q
  split at q
  · obtain ⟨v, w, rfl, rv, rw'⟩ := r.two
    exact ⟨_, _, by rw [rv.int', rw'.int'], k _ H Hs _ (Evl.Ex.refl _) R (.int _) q⟩
  · exact q.elim
def toInts : List D → Option (List Int)
  | [] => some []
  | .int i :: ds => match toInts ds with
    | some is => some (i :: is)
    | none => none
  | _ :: _ => none
theorem toInts_map : ∀ ns : List Int, toInts (ns.map D.int) = some ns
  | [] => rfl
  | n :: ns => by
    show (match toInts (ns.map D.int) with
      | some is => some (n :: is)
      | none => none) = some (n :: ns)
    rw [toInts_map ns]
theorem toInts_elim : ∀ {ds : List D} {ns : List Int}, toInts ds = some ns → ds = ns.map D.int
  | [], ns, h => by cases h; rfl
  | d :: ds, ns, h => by
    unfold toInts at h
    split at h
    · rename_i e
      cases e
    · rename_i i es e
      injection e with e1 e2
      subst e1 e2
      split at h
      · rename_i is e
        cases h
        rw [toInts_elim e] <;> rfl
      · cases h
    · cases h
def toBls : List D → Option (List Bool)
  | [] => some []
  | .bl i :: ds => match toBls ds with
    | some is => some (i :: is)
    | none => none
  | _ :: _ => none
theorem toBls_map : ∀ ns : List Bool, toBls (ns.map D.bl) = some ns
  | [] => rfl
  | n :: ns => by
    show (match toBls (ns.map D.bl) with
      | some is => some (n :: is)
      | none => none) = some (n :: ns)
    rw [toBls_map ns]
theorem toBls_elim : ∀ {ds : List D} {ns : List Bool}, toBls ds = some ns → ds = ns.map D.bl
  | [], ns, h => by cases h; rfl
  | d :: ds, ns, h => by
    unfold toBls at h
    split at h
    · rename_i e
      cases e
    · rename_i i es e
      injection e with e1 e2
      subst e1 e2
      split at h
      · rename_i is e
        cases h
        rw [toBls_elim e] <;> rfl
      · cases h
    · cases h
/-- of a list of ints -/
def ints1 (f : List Int → Prop) : List D → Prop
  | [.lst ds] => opt (toInts ds) f
  | _ => False
theorem ints1_core {K : PySem.W.Frag} {F Hs H : Hp} {σ : St} {ε : PEnv} {vs : List V} {ds : List D} {f : List Int → Prop} (R : RelS K F Hs σ H ε) (r : RepVs K Hs H vs ds) (q : ints1 f ds) : ∃ a ns, vs = [.ref a] ∧ SqL K H a (ns.map V.int) ∧ f ns := by
  unfold ints1 at q
  split at q
  · obtain ⟨ns, e0, q2⟩ := opt_elim q
    have e0 := toInts_elim e0
    subst e0
    obtain ⟨v, rfl, rv⟩ := r.one
    obtain ⟨a, ws, g1, h1, p1⟩ := rv.lst' R.ex
    subst g1
    have e := p1.inv_ints
    subst e
    exact ⟨a, ns, rfl, SqL.of h1, q2⟩
  · exact q.elim
def oSum : OPC := fun ds Q => ints1 (fun ns => Q (.int ns.sum)) ds
theorem cy_sum (hc : X.calm = true) : CallY X (.builtin "sum") oSum := by
  refine ⟨_, cr_sum hc, fun F Hs σ H ε vs ds Q' Q R r q k => ?_⟩
  obtain ⟨a, ns, rfl, h1, q⟩ := ints1_core R r q
  exact ⟨a, ns, rfl, h1, k _ H Hs _ (Evl.Ex.refl _) R (.int _) q⟩
def oMaxL : OPC := fun ds Q => ints1 (fun ns => 0 < ns.length ∧ ∀ m, m ∈ ns → (∀ y, y ∈ ns → y ≤ m) → Q (.int m)) ds
theorem cy_maxL (hc : X.calm = true) : CallY X (.builtin "max") oMaxL := by
  refine ⟨_, cr_max hc, fun F Hs σ H ε vs ds Q' Q R r q k => ?_⟩
  obtain ⟨a, ns, rfl, h1, q0, q⟩ := ints1_core R r q
  exact ⟨a, ns, rfl, h1, q0, fun m h2 h3 => k _ H Hs _ (Evl.Ex.refl _) R (.int _) (q m h2 h3)⟩
def oMinL : OPC := fun ds Q => ints1 (fun ns => 0 < ns.length ∧ ∀ m, m ∈ ns → (∀ y, y ∈ ns → m ≤ y) → Q (.int m)) ds
theorem cy_minL (hc : X.calm = true) : CallY X (.builtin "min") oMinL := by
  refine ⟨_, cr_min hc, fun F Hs σ H ε vs ds Q' Q R r q k => ?_⟩
  obtain ⟨a, ns, rfl, h1, q0, q⟩ := ints1_core R r q
  exact ⟨a, ns, rfl, h1, q0, fun m h2 h3 => k _ H Hs _ (Evl.Ex.refl _) R (.int _) (q m h2 h3)⟩
def oSorted : List D → (List D → Prop) → Prop := fun ds Q => ints1 (fun ns => ∀ ns' : List Int, ns'.Perm ns → ns'.Pairwise (· ≤ ·) → Q (ns'.map D.int)) ds
theorem cn_sorted : CallN X (.builtin "sorted") oSorted := by
  refine ⟨_, cr_sortedI, fun F Hs σ H ε vs ds Q' Q R r q k => ?_⟩
  obtain ⟨a, ns, rfl, h1, q⟩ := ints1_core R r q
  exact ⟨a, ns, rfl, h1, fun ns' p h2 h3 hp => k p _ _ hp (Reps.ints ns') (q ns' h2 h3)⟩
def bls1 (f : List Bool → Prop) : List D → Prop
  | [.lst ds] => opt (toBls ds) f
  | _ => False
theorem bls1_core {K : PySem.W.Frag} {F Hs H : Hp} {σ : St} {ε : PEnv} {vs : List V} {ds : List D} {f : List Bool → Prop} (R : RelS K F Hs σ H ε) (r : RepVs K Hs H vs ds) (q : bls1 f ds) : ∃ a ns, vs = [.ref a] ∧ SqL K H a (ns.map V.bl) ∧ f ns := by
  unfold bls1 at q
  split at q
  · obtain ⟨ns, e0, q2⟩ := opt_elim q
    have e0 := toBls_elim e0
    subst e0
    obtain ⟨v, rfl, rv⟩ := r.one
    obtain ⟨a, ws, g1, h1, p1⟩ := rv.lst' R.ex
    subst g1
    have e := p1.inv_bls
    subst e
    exact ⟨a, ns, rfl, SqL.of h1, q2⟩
  · exact q.elim
def oAll : OPC := fun ds Q => bls1 (fun ns => Q (.bl (ns.all id))) ds
def oAny : OPC := fun ds Q => bls1 (fun ns => Q (.bl (ns.any id))) ds
theorem cy_all (hc : X.calm = true) : CallY X (.builtin "all") oAll := by
  refine ⟨_, cr_all hc, fun F Hs σ H ε vs ds Q' Q R r q k => ?_⟩
  obtain ⟨a, ns, rfl, h1, q⟩ := bls1_core R r q
  exact ⟨a, ns, rfl, h1, k _ H Hs _ (Evl.Ex.refl _) R (.bl _) q⟩
theorem cy_any (hc : X.calm = true) : CallY X (.builtin "any") oAny := by
  refine ⟨_, cr_any hc, fun F Hs σ H ε vs ds Q' Q R r q k => ?_⟩
  obtain ⟨a, ns, rfl, h1, q⟩ := bls1_core R r q
  exact ⟨a, ns, rfl, h1, k _ H Hs _ (Evl.Ex.refl _) R (.bl _) q⟩
def oListOf : List D → (List D → Prop) → Prop
  | [.lst ds], Q => Q ds
  | [.frl ds], Q => Q ds
  | [.tup ds], Q => Q ds
  | _, _ => False
theorem cn_list : CallN X (.type "list") oListOf := by
  refine ⟨_, call_list_of, fun F Hs σ H ε vs ds Q' Q R r q k => ?_⟩
  unfold oListOf at q
  split at q
  · obtain ⟨v, rfl, rv⟩ := r.one
    obtain ⟨a, ws, g1, h1, p1⟩ := rv.lst' R.ex
    subst g1
    exact ⟨a, ws, rfl, .inl (SqL.of h1), fun p hp => k p _ _ hp p1 q⟩
  · obtain ⟨v, rfl, rv⟩ := r.one
    obtain ⟨a, ws, g1, h1, p1⟩ := rv.frl' R.ex
    subst g1
    exact ⟨a, ws, rfl, .inl h1, fun p hp => k p _ _ hp p1 q⟩
  · obtain ⟨v, rfl, rv⟩ := r.one
    obtain ⟨a, ws, g1, h1, p1⟩ := rv.tup' R.ex
    subst g1
    exact ⟨a, ws, rfl, .inr h1, fun p hp => k p _ _ hp p1 q⟩
  · exact q.elim
def oTupleOf : OPC
  | [.lst ds], Q => Q (.tup ds)
  | [.tup ds], Q => Q (.tup ds)
  | _, _ => False
theorem cy_tuple : CallY X (.type "tuple") oTupleOf := by
  refine ⟨_, call_tuple_of, fun F Hs σ H ε vs ds Q' Q R r q k => ?_⟩
  unfold oTupleOf at q
  split at q
  · obtain ⟨v, rfl, rv⟩ := r.one
    obtain ⟨a, ws, g1, h1, p1⟩ := rv.lst' R.ex
    subst g1
    refine ⟨a, ws, rfl, .inl ⟨SqL.of h1, fun p hp => ?_⟩⟩
    obtain ⟨R3, e3⟩ := R.new (o := .tup ws) hp
    exact k _ _ _ _ e3 R3 (.tup (SqT.of upd_same) (p1.mono e3)) q
  · obtain ⟨v, rfl, rv⟩ := r.one
    cases rv with
    | sc rv =>
      cases rv with
      | tup h1 p1 => exact ⟨_, _, rfl, .inr ⟨Evl.ex_t R.ex h1, k _ H Hs _ (Evl.Ex.refl _) R (.tup h1 p1) q⟩⟩
  · exact q.elim
def oStr : OPC
  | [.int i], Q => gd (i.natAbs.log2 < 1920) (Q (.str (toString i)))
  | _, _ => False
theorem cy_str : CallY X (.type "str") oStr := by
  refine ⟨_, call_str_int, fun F Hs σ H ε vs ds Q' Q R r q k => ?_⟩
  unfold oStr at q
  split at q
  · obtain ⟨v, rfl, rv⟩ := r.one
    have q := gd_elim q
    exact ⟨_, by rw [rv.int'], q.1, k _ H Hs _ (Evl.Ex.refl _) R (.str _) q.2⟩
  · exact q.elim

theorem RepV.up {K : PySem.W.Frag} {Hs H H' : Hp} {v : V} {d : D} (h : RepV K Hs H v d) (e : Ex H H') : RepV K Hs H' v d := by
  cases h with
  | sc h => exact .sc h
  | lst h r => exact .lst (e _ _ h) r
  | dic h k r => exact .dic (e _ _ h) k r
/-! ### isinstance -/
inductive Ty where
  | int | bool | str | list | tuple | dict
def Ty.nm : Ty → String
  | .int => "int" | .bool => "bool" | .str => "str" | .list => "list" | .tuple => "tuple" | .dict => "dict"
def isTy : Ty → D → (Bool → Prop) → Prop
  | .int, .int _, Q => Q true
  | .int, .bl _, Q => Q true
  | .bool, .bl _, Q => Q true
  | .str, .str _, Q => Q true
  | .list, .lst _, Q => Q true
  | .list, .frl _, Q => Q true
  | .tuple, .tup _, Q => Q true
  | .dict, .dic _, Q => Q true
  | _, .vl _, _ => False
  | _, .pool, _ => False
  | _, _, Q => Q false
def tyD : D → Option String
  | .non => some "NoneType"
  | .bl _ => some "bool"
  | .int _ => some "int"
  | .str _ => some "str"
  | .lst _ => some "list"
  | .frl _ => some "list"
  | .tup _ => some "tuple"
  | .dic _ => some "dict"
  | _ => none
theorem tyX_tup {K : PySem.W.Frag} {H : Hp} {a : Addr} {xs : List V} (h : SqT K H a xs) : TyX K H (.ref a) (.type "tuple") := by
  rcases h with (h | ⟨o, h⟩) | ⟨o, its, n, h, hc, _⟩
  · exact .base (.tup h)
  · exact .fTuple h
  · exact .kTuple h hc
theorem tyX_lst {K : PySem.W.Frag} {H : Hp} {a : Addr} {xs : List V} (h : SqL K H a xs) : TyX K H (.ref a) (.type "list") := by
  rcases h with (h | ⟨o, h⟩) | ⟨o, its, n, h, hc, _⟩
  · exact .base (.lst h)
  · exact .base (.frz h)
  · exact .kList h hc
theorem tyD_rep {K : PySem.W.Frag} {Hs H : Hp} {v : V} {d : D} {n : String} (h : RepV K Hs H v d) (ex : Ex Hs H) (e : tyD d = some n) : TyX K H v (.type n) := by
  cases d with
  | non => cases e; rw [h.non']; exact .base .non
  | bl b => cases e; rw [h.bl']; exact .base (.bl _)
  | int b => cases e; rw [h.int']; exact .base (.int _)
  | str b => cases e; rw [h.str']; exact .base (.str _)
  | lst b =>
    cases e
    obtain ⟨a, ws, rfl, h1, p1⟩ := h.lst' ex
    exact .base (.lst h1)
  | frl b =>
    cases e
    obtain ⟨a, ws, rfl, h1, p1⟩ := h.frl' ex
    exact tyX_lst h1
  | tup b =>
    cases e
    obtain ⟨a, ws, rfl, h1, p1⟩ := h.tup' ex
    exact tyX_tup h1
  | dic b =>
    cases e
    obtain ⟨a, ws, rfl, h1, p1⟩ := h.dic' ex
    exact .base (.dK h1)
  | _ => cases e
theorem isTy_kit (t : Ty) (d : D) (Q : Bool → Prop) (q : isTy t d Q) : ∃ n b, tyD d = some n ∧ kitB n t.nm = some b ∧ Q b := by
  cases t <;> cases d <;> first | exact False.elim q | exact ⟨_, true, rfl, by decide +kernel, q⟩ | exact ⟨_, false, rfl, by decide +kernel, q⟩
def yIs (t : Ty) (r : PTE) : PTE := fun ε Q => r ε fun t1 ε1 => res ε1 t1 fun d => isTy t d fun b => Q (.d (.bl b)) ε1
section
variable {W : WX} {Ξ : Xi} {a : Expr} {pos : Pos}
theorem ye_isA (t : Ty) {r : PTE} {c : Expr} {p : Pos} (h : YE X W Ξ a r) (hc : PE X c (tC (.ty t.nm))) (hg : Gl X "isinstance") (hm : X.mg "isinstance" = none)
    (hst : starEach [a, c] X.env = (false, eval a X.env) :: starEach [c] X.env := by rfl) (hs2 : starEach [c] X.env = (false, eval c X.env) :: starEach [] X.env := by rfl) (hpl : (backTo pos (starEach [c] X.env)).any (·.1) = false := by rfl) :
    YE X W Ξ (.Call (.Name "isinstance" p) [a, c] [] pos) (yIs t r) := by
  obtain ⟨ta, pa, ka⟩ := h.ex
  refine ⟨_, pe_callB call_isi hg hm PyProof.Rows.boot_isinstance (pa_cons pa (pa_cons hc pa_nil hs2) hst) (by decide) (by decide) hst hpl, fun F Hs σ H ε Q' Q R L q k => ?_⟩
  refine ka F Hs σ H ε _ _ R L q fun v H1 Hs1 t1 ε1 e1 R1 p1 q1 => ?_
  obtain ⟨d, v1, q2⟩ := R1.res p1 q1
  obtain ⟨n, b, h1, h2, h3⟩ := isTy_kit t d _ q2
  exact ⟨v, .ty t.nm, .type n, .type t.nm, b, rfl, .ty _, tyD_rep v1 R1.ex h1, kit_ty h2, k (.bl b) H1 Hs1 (.d (.bl b)) ε1 e1 R1 (.bl b) h3⟩
def yIs2 (t u : Ty) (r : PTE) : PTE := fun ε Q => r ε fun t1 ε1 => res ε1 t1 fun d => isTy t d fun b => isTy u d fun c => Q (.d (.bl (b || c))) ε1
theorem ye_isA2 (t u : Ty) {r : PTE} {c c2 : Expr} {p p2 : Pos} {kk : Nat} (h : YE X W Ξ a r) (hc : PE X c (tC (.ty t.nm))) (hc2 : PE X c2 (tC (.ty u.nm))) (hg : Gl X "isinstance") (hm : X.mg "isinstance" = none)
    (hst : starEach [a, .Tuple [c, c2] kk p2] X.env = (false, eval a X.env) :: starEach [.Tuple [c, c2] kk p2] X.env := by rfl) (hs2 : starEach [.Tuple [c, c2] kk p2] X.env = (false, eval (.Tuple [c, c2] kk p2) X.env) :: starEach [] X.env := by rfl)
    (hs3 : starEach [c, c2] X.env = (false, eval c X.env) :: starEach [c2] X.env := by rfl) (hs4 : starEach [c2] X.env = (false, eval c2 X.env) :: starEach [] X.env := by rfl) (hpl : (backTo pos (starEach [.Tuple [c, c2] kk p2] X.env)).any (·.1) = false := by rfl) :
    YE X W Ξ (.Call (.Name "isinstance" p) [a, .Tuple [c, c2] kk p2] [] pos) (yIs2 t u r) := by
  obtain ⟨ta, pa, ka⟩ := h.ex
  refine ⟨_, pe_callB call_isiT hg hm PyProof.Rows.boot_isinstance (pa_cons pa (pa_cons (pe_tup (pa_cons hc (pa_cons hc2 pa_nil hs4) hs3)) pa_nil hs2) hst) (by decide) (by decide) hst hpl, fun F Hs σ H ε Q' Q R L q k => ?_⟩
  refine ka F Hs σ H ε _ _ R L q fun v H1 Hs1 t1 ε1 e1 R1 p1 q1 => ?_
  obtain ⟨d, v1, q2⟩ := R1.res p1 q1
  obtain ⟨n, b, h1, h2, q3⟩ := isTy_kit t d _ q2
  obtain ⟨n', b', h1', h2', h3⟩ := isTy_kit u d _ q3
  rw [h1] at h1'
  cases h1'
  refine ⟨by show 2 ≤ sizeLine; decide, fun tp htp => ?_⟩
  have R2 : RelS X.K F Hs1 σ (upd H1 tp (.tup [.ty t.nm, .ty u.nm])) ε1 := R1.lay htp
  have v2 : TyX X.K (upd H1 tp (.tup [.ty t.nm, .ty u.nm])) v (.type n) := tyD_rep (v1.up (Evl.Ex.new htp)) R2.ex h1
  exact ⟨v, tp, [.ty t.nm, .ty u.nm], .type n, [.type t.nm, .type u.nm], b || b', rfl, upd_same, .cons (.ty _) (.cons (.ty _) .nil), v2, kitAny_cons (kit_ty h2) (fun hb => kitAny_cons (kit_ty h2') (fun hb' => by rw [hb, hb']; exact kitAny_nil) (fun hb' => by rw [hb']; simp)) (fun hb => by rw [hb]; rfl), k (.bl (b || b')) _ Hs1 (.d (.bl (b || b'))) ε1 e1 R2 (.bl _) h3⟩
end
end
end PL

set_option Elab.async false
set_option linter.all false
set_option autoImplicit false
set_option maxRecDepth 100000
set_option maxHeartbeats 2000000
/-! Statements, loops, comprehensions, over plain data. -/
namespace PL
open PySem PySem.Spec PyProof.Rows L2
open Evl (Ex)

/-! ### readings that hang on the data alone -/
def cE (K : PySem.W.Frag) (W : WX) (Ξ : Xi) (r : PTE) : TE := fun σ H Q => ∃ (F Hs : Hp) (ε : PEnv) (Q' : T → PEnv → Prop), RelS K F Hs σ H ε ∧ Lk K F Hs W Ξ ∧ r ε Q' ∧ KE K F Hs σ Q' Q
def cT (K : PySem.W.Frag) (W : WX) (Ξ : Xi) (r : PTT) : TT := fun σ H Q => ∃ (F Hs : Hp) (ε : PEnv) (Q' : Bool → PEnv → Prop), RelS K F Hs σ H ε ∧ Lk K F Hs W Ξ ∧ r ε Q' ∧ KT K F Hs σ Q' Q
section
variable {X : Cx} {W : WX} {Ξ : Xi} {e : Expr}
theorem YE.canon {r : PTE} (h : YE X W Ξ e r) : PE X e (cE X.K W Ξ r) := by
  obtain ⟨t, p, k⟩ := h.ex
  exact ⟨fun pins s σ H Q I ⟨F, Hs, ε, Q', R, L, q, kk⟩ => p.run pins s σ H Q I (k F Hs σ H ε Q' Q R L q kk)⟩
theorem YT.canon {r : PTT} (h : YT X W Ξ e r) : PT X e (cT X.K W Ξ r) := by
  obtain ⟨t, p, k⟩ := h.ex
  exact ⟨fun pins s σ H Q I ⟨F, Hs, ε, Q', R, L, q, kk⟩ => p.run pins s σ H Q I (k F Hs σ H ε Q' Q R L q kk)⟩
end

/-! ### what another one owns, lent and taken back -/
section
variable {K : PySem.W.Frag} {F Hs H : Hp} {σ : St} {ε : PEnv}
def Nobody (σ : St) (ε : PEnv) (p : Addr) : Prop := ∀ (i : Nat) (s : S), ε[i]? = some (some s) → s.own = true → σ[i]? ≠ some (some (.ref p))
theorem RelS.lend (R : RelS K F Hs σ H ε) {p : Addr} {o : HO} (hH : H p = some o) (hp : Hs p = none) (hn : Nobody σ ε p) : RelS K (upd F p o) Hs σ H ε := by
  refine ⟨R.ex, fun a u q => ?_, R.len, fun j t q => ?_, R.ds⟩
  · by_cases ha : a = p
    · subst ha
      rw [upd_same] at q
      cases q
      exact ⟨hH, hp⟩
    · rw [upd_ne ha] at q
      exact R.fr a u q
  · have z := R.sl j t q
    cases t with
    | v d' => exact z
    | o ds =>
      obtain ⟨b, vs, h1, h2, h3, h4, h5⟩ := z
      have nb : b ≠ p := by
        intro z
        subst z
        exact hn j _ q rfl h1
      exact ⟨b, vs, h1, h2, by rw [upd_ne nb]; exact h3, h4, h5⟩
    | od ds =>
      obtain ⟨b, vs, h1, h2, h3, h4, h5, h6⟩ := z
      have nb : b ≠ p := by
        intro z
        subst z
        exact hn j _ q rfl h1
      exact ⟨b, vs, h1, h2, by rw [upd_ne nb]; exact h3, h4, h5, h6⟩
theorem RelS.back {p : Addr} {o : HO} (R : RelS K (upd F p o) Hs σ H ε) (hF : F p = none) : RelS K F Hs σ H ε ∧ H p = some o ∧ Hs p = none ∧ Nobody σ ε p := by
  have hp := R.fr p o upd_same
  have sub : ∀ b, upd F p o b = none → F b = none := fun b e => by
    by_cases hb : b = p
    · subst hb
      exact hF
    · rw [upd_ne hb] at e
      exact e
  refine ⟨⟨R.ex, fun a u q => ?_, R.len, fun j t q => ?_, R.ds⟩, hp.1, hp.2, fun j t q so z => ?_⟩
  · have ha : a ≠ p := by
      intro z
      subst z
      rw [hF] at q
      cases q
    exact R.fr a u (by rw [upd_ne ha]; exact q)
  · have z := R.sl j t q
    cases t with
    | v d' => exact z
    | o ds =>
      obtain ⟨b, vs, h1, h2, h3, h4, h5⟩ := z
      exact ⟨b, vs, h1, h2, sub _ h3, h4, h5⟩
    | od ds =>
      obtain ⟨b, vs, h1, h2, h3, h4, h5, h6⟩ := z
      exact ⟨b, vs, h1, h2, sub _ h3, h4, h5, h6⟩
  · have y := R.sl j t q
    cases t with
    | v d' => cases so
    | o ds =>
      obtain ⟨b, vs, h1, h2, h3, h4, h5⟩ := y
      rw [z] at h1
      cases h1
      rw [upd_same] at h3
      cases h3
    | od ds =>
      obtain ⟨b, vs, h1, h2, h3, h4, h5, h6⟩ := y
      rw [z] at h1
      cases h1
      rw [upd_same] at h3
      cases h3
/-- what is nobody's may change -/
theorem RelS.touch (R : RelS K F Hs σ H ε) {p : Addr} {o : HO} (hp : Hs p = none) (hF : F p = none) (hn : Nobody σ ε p) : RelS K F Hs σ (upd H p o) ε := by
  refine ⟨fun a u q => ?_, fun a u q => ?_, R.len, fun j t q => ?_, R.ds⟩
  · rw [upd_ne (ne_of_none q hp)]
    exact R.ex a u q
  · rw [upd_ne (ne_of_none q hF)]
    exact R.fr a u q
  · have z := R.sl j t q
    cases t with
    | v d' => exact z
    | o ds =>
      obtain ⟨b, vs, h1, h2, h3, h4, h5⟩ := z
      have nb : b ≠ p := by
        intro z
        subst z
        exact hn j _ q rfl h1
      exact ⟨b, vs, h1, h2, h3, by rw [upd_ne nb]; exact h4, h5⟩
    | od ds =>
      obtain ⟨b, vs, h1, h2, h3, h4, h5, h6⟩ := z
      have nb : b ≠ p := by
        intro z
        subst z
        exact hn j _ q rfl h1
      exact ⟨b, vs, h1, h2, h3, by rw [upd_ne nb]; exact h4, h5, h6⟩
end

/-! ### targets -/
abbrev PTG := D → PEnv → (PEnv → Prop) → Prop
def Only (sl : List Nat) (σ σ' : St) : Prop := ∀ vs : List Nat, (∀ i ∈ sl, i ∈ vs) → L2.wipe σ' vs = L2.wipe σ vs
theorem wipe_set {σ : St} {i : Nat} {x : Option V} : ∀ {vs : List Nat}, i ∈ vs → L2.wipe (σ.set i x) vs = L2.wipe σ vs
  | v :: vs, h => by
    unfold L2.wipe
    by_cases hv : i ∈ vs
    · rw [wipe_set hv]
    · have e : i = v := by
        rcases List.mem_cons.mp h with h | h
        · exact h
        · exact absurd h hv
      subst e
      have out : ∀ {ws : List Nat}, i ∉ ws → (L2.wipe (σ.set i x) ws) = (L2.wipe σ ws).set i x := by
        intro ws
        induction ws with
        | nil => intro _; rfl
        | cons w ws ih =>
          intro hw
          simp only [List.mem_cons, not_or] at hw
          unfold L2.wipe
          rw [ih hw.2, List.set_comm _ _ hw.1]
      rw [out hv, List.set_set]
theorem Only.refl {sl : List Nat} {σ : St} : Only sl σ σ := fun _ _ => rfl
theorem Only.set {i : Nat} {σ : St} {x : Option V} : Only [i] σ (σ.set i x) := fun vs h => wipe_set (h i (by simp))
def KG (K : PySem.W.Frag) (F Hs : Hp) (σ : St) (sl : List Nat) (Q' : PEnv → Prop) (Q : St → Hp → Prop) : Prop := ∀ (σ' : St) (H' Hs' : Hp) (ε' : PEnv), Ex Hs Hs' → Only sl σ σ' → RelS K F Hs' σ' H' ε' → Q' ε' → Q σ' H'
structure YG (X : Cx) (tg : Expr) (g : PTG) (sl : List Nat) : Prop where
  ex : ∃ t, PG X tg t ∧ ∀ (F Hs : Hp) (σ : St) (H : Hp) (ε : PEnv) (v : V) (d : D) (Q' : PEnv → Prop) (Q : St → Hp → Prop), RelS X.K F Hs σ H ε → Rep X.K Hs v d → g d ε Q' → KG X.K F Hs σ sl Q' Q → t v σ H Q
def cG (K : PySem.W.Frag) (g : PTG) (sl : List Nat) : TG := fun v σ H Q => ∃ (F Hs : Hp) (ε : PEnv) (d : D) (Q' : PEnv → Prop), RelS K F Hs σ H ε ∧ Rep K Hs v d ∧ g d ε Q' ∧ KG K F Hs σ sl Q' Q
theorem YG.canon {X : Cx} {tg : Expr} {g : PTG} {sl : List Nat} (h : YG X tg g sl) : PG X tg (cG X.K g sl) := by
  obtain ⟨t, p, k⟩ := h.ex
  exact ⟨fun pins s σ H v u Q I r ⟨F, Hs, ε, d, Q', R, rv, q, kk⟩ => p.run pins s σ H v u Q I r (k F Hs σ H ε v d Q' Q R rv q kk)⟩
def gN (i : Nat) : PTG := fun d ε Q => Q (ε.set i (some (.v d)))
section
variable {X : Cx} {pos : Pos}
theorem yg_name {x : Str} (i : Nat) (hN : X.N.Nodup) (hi : X.N[i]? = some x) (hx : Loc X.env.scope x) (hf : X.fn x = true ∨ X.env.scope.names.lookup x = some .local := by first | exact .inl rfl | exact .inr rfl | assumption) : YG X (.Name x pos) (gN i) [i] :=
  ⟨_, pg_name hN hi hx hf, fun F Hs σ H ε v d Q' Q R rv q k => k _ H Hs _ (Evl.Ex.refl _) Only.set (R.store rv i) q⟩
def gAll : List PTG → List D → PEnv → (PEnv → Prop) → Prop
  | [], [], ε, Q => Q ε
  | g :: gs, d :: ds, ε, Q => g d ε fun ε' => gAll gs ds ε' Q
  | _, _, _, _ => False
structure YGs (X : Cx) (tgs : List Expr) (gs : List PTG) (sl : List Nat) : Prop where
  ex : ∃ t, PGs X tgs t ∧ ∀ (F Hs : Hp) (σ : St) (H : Hp) (ε : PEnv) (vs : List V) (ds : List D) (Q' : PEnv → Prop) (Q : St → Hp → Prop), RelS X.K F Hs σ H ε → Reps X.K Hs vs ds → gAll gs ds ε Q' → KG X.K F Hs σ sl Q' Q → t vs σ H Q
theorem ygs_nil : YGs X [] [] [] := ⟨_, pgs_nil, fun F Hs σ H ε vs ds Q' Q R rv q k => by
  cases rv with
  | nil => exact ⟨rfl, k _ H Hs _ (Evl.Ex.refl _) Only.refl R q⟩
  | cons _ _ => exact q.elim⟩
theorem ygs_cons {e : Expr} {es : List Expr} {g : PTG} {gs : List PTG} {sl ss : List Nat} (h : YG X e g sl) (hs : YGs X es gs ss) (hst : (assignEach (e :: es) X.env).map (·.2) = assign e X.env :: (assignEach es X.env).map (·.2) := by rfl) : YGs X (e :: es) (g :: gs) (sl ++ ss) := by
  obtain ⟨t, p, k⟩ := h.ex
  obtain ⟨ts, ps, ks⟩ := hs.ex
  refine ⟨_, pgs_cons p ps hst, fun F Hs σ H ε vs ds Q' Q R rv q kk => ?_⟩
  cases rv with
  | nil => exact q.elim
  | cons r rs => exact ⟨_, _, rfl, k F Hs σ H ε _ _ _ _ R r q fun σ1 H1 Hs1 ε1 e1 o1 R1 q1 => ks F Hs1 σ1 H1 ε1 _ _ _ _ R1 (rs.mono e1) q1 fun σ2 H2 Hs2 ε2 e2 o2 R2 q2 => kk σ2 H2 Hs2 ε2 (e1.trans e2) (fun vs hv => (o2 vs fun i hi => hv i (List.mem_append_right _ hi)).trans (o1 vs fun i hi => hv i (List.mem_append_left _ hi))) R2 q2⟩
theorem gAll_len : ∀ {gs : List PTG} {ds : List D} {ε : PEnv} {Q : PEnv → Prop}, gAll gs ds ε Q → (∀ g ∈ gs, ∀ d ε Q, g d ε Q → ∃ ε', Q ε') → ds.length = gs.length
  | [], [], _, _, _, _ => rfl
  | g :: gs, d :: ds, ε, Q, h, m => by
    obtain ⟨ε', h2⟩ := m g (List.mem_cons_self ..) d ε _ h
    rw [List.length_cons, List.length_cons, gAll_len h2 fun g hg => m g (List.mem_cons_of_mem _ hg)]
/-- a, b, .. = a tuple -/
def gTupY (n : Nat) (gs : List PTG) : PTG := fun d ε Q => match d with
  | .tup ds => gd (ds.length = n) (gAll gs ds ε Q)
  | _ => False
theorem yg_tup {es : List Expr} {k : Nat} {gs : List PTG} {n : Nat} {sl : List Nat} (hc : X.calm = true) (h : YGs X es gs sl) (hn : (assignEach es X.env).length = n := by rfl) (hst : (assignEach es X.env).findIdx? (·.1) = none := by rfl) : YG X (.Tuple es k pos) (gTupY n gs) sl := by
  obtain ⟨ts, ps, ks⟩ := h.ex
  refine ⟨_, pg_tup hc ps hn hst, fun F Hs σ H ε v d Q' Q R rv q kk => ?_⟩
  unfold gTupY at q
  split at q
  · obtain ⟨hl, q⟩ := gd_elim q
    cases rv with
    | tup h1 r1 => exact ⟨_, _, rfl, Evl.ex_t R.ex h1, by rw [r1.len]; exact hl, ks F Hs σ H ε _ _ _ _ R r1 q kk⟩
  · exact q.elim
/-- a, b, .. = a list -/
def gLstY (n : Nat) (gs : List PTG) : PTG := fun d ε Q => match d with
  | .lst ds => gd (ds.length = n) (gAll gs ds ε Q)
  | _ => False
theorem yg_lst {es : List Expr} {k : Nat} {gs : List PTG} {n : Nat} {sl : List Nat} (hc : X.calm = true) (h : YGs X es gs sl) (hn : (assignEach es X.env).length = n := by rfl) (hst : (assignEach es X.env).findIdx? (·.1) = none := by rfl) : YG X (.Tuple es k pos) (gLstY n gs) sl := by
  obtain ⟨ts, ps, ks⟩ := h.ex
  refine ⟨_, pg_lst hc ps hn hst, fun F Hs σ H ε v d Q' Q R rv q kk => ?_⟩
  unfold gLstY at q
  split at q
  · obtain ⟨hl, q⟩ := gd_elim q
    cases rv with
    | lst h1 r1 => exact ⟨_, _, rfl, SqL.of (R.ex _ _ h1), by rw [r1.len]; exact hl, ks F Hs σ H ε _ _ _ _ R r1 q kk⟩
  · exact q.elim
end

/-! ### what is walked -/
structure Seqs (K : PySem.W.Frag) (Hs : Hp) (J : It) (ds : List D) : Prop where
  go : ∀ i H, Ex Hs H → i < ds.length → J.go i H
  stop : ∀ i H, Ex Hs H → ds.length ≤ i → J.stop i H
  yld : ∀ (i : Nat) (F Hc : Hp) (σ : St) (H : Hp) (ε : PEnv) (x : V) (H' : Hp), Ex Hs Hc → RelS K F Hc σ H ε → i < ds.length → J.yld i H x H' → ∃ Hc' d, Ex Hc Hc' ∧ RelS K F Hc' σ H' ε ∧ ds[i]? = some d ∧ Rep K Hc' x d
structure YI (X : Cx) (W : WX) (Ξ : Xi) (tg iter : Expr) (r : PTN) : Prop where
  ex : ∃ wi, PI X tg iter wi ∧ ∀ (F Hs : Hp) (σ : St) (H : Hp) (ε : PEnv) (Q' : List D → PEnv → Prop) (R' : It → Hp → Prop), RelS X.K F Hs σ H ε → Lk X.K F Hs W Ξ → r ε Q' →
    (∀ J H' Hs' ds ε', Ex Hs Hs' → RelS X.K F Hs' σ H' ε' → Seqs X.K Hs' J ds → Q' ds ε' → R' J H') → wi σ H R'
theorem seqs_list {K : PySem.W.Frag} {Hs : Hp} {a : Addr} {vs : List V} {ds : List D} (h : SqL K Hs a vs) (r : Reps K Hs vs ds) : Seqs K Hs (Itl K a) ds where
  go := fun i H e hi => by
    rw [← r.len] at hi
    exact ⟨vs, vs[i], Evl.ex_l e h, by simp [hi]⟩
  stop := fun i H e hi => ⟨vs, Evl.ex_l e h, by rw [r.len]; exact hi⟩
  yld := fun i F Hc σ H ε x H' e R hi y => by
    obtain ⟨rfl, y⟩ := y
    have e2 := y vs (Evl.ex_l (e.trans R.ex) h)
    obtain ⟨d, h1, h2⟩ := r.getV e2
    exact ⟨Hc, d, Evl.Ex.refl _, R, h1, h2.mono e⟩
theorem seqs_tup {K : PySem.W.Frag} {Hs : Hp} {a : Addr} {vs : List V} {ds : List D} (h : SqT K Hs a vs) (r : Reps K Hs vs ds) : Seqs K Hs (Itt K a) ds where
  go := fun i H e hi => by
    rw [← r.len] at hi
    exact ⟨vs, vs[i], Evl.ex_t e h, by simp [hi]⟩
  stop := fun i H e hi => ⟨vs, Evl.ex_t e h, by rw [r.len]; exact hi⟩
  yld := fun i F Hc σ H ε x H' e R hi y => by
    obtain ⟨rfl, y⟩ := y
    have e2 := y vs (Evl.ex_t (e.trans R.ex) h)
    obtain ⟨d, h1, h2⟩ := r.getV e2
    exact ⟨Hc, d, Evl.Ex.refl _, R, h1, h2.mono e⟩
def rangeD (lo : Int) (n : Nat) : List D := (List.range n).map fun (i : Nat) => D.int (lo + (i : Int))
theorem rangeD_len {lo : Int} {n : Nat} : (rangeD lo n).length = n := by unfold rangeD; rw [List.length_map, List.length_range]
theorem rangeD_get {lo : Int} {n i : Nat} {d : D} (h : (rangeD lo n)[i]? = some d) : i < n ∧ d = .int (lo + (i : Int)) := by
  unfold rangeD at h
  rw [List.getElem?_map] at h
  by_cases hi : i < n
  · rw [List.getElem?_range hi] at h
    exact ⟨hi, (Option.some.inj h).symm⟩
  · rw [List.getElem?_eq_none (by rw [List.length_range]; omega)] at h
    cases h
theorem seqs_range {K : PySem.W.Frag} {Hs : Hp} {lo : Int} {n : Nat} : Seqs K Hs (Itr lo n) (rangeD lo n) where
  go := fun i H e hi => by rw [rangeD_len] at hi; exact hi
  stop := fun i H e hi => by rw [rangeD_len] at hi; exact hi
  yld := fun i F Hc σ H ε x H' e R hi y => by
    rw [rangeD_len] at hi
    obtain ⟨rfl, rfl⟩ := y
    refine ⟨Hc, .int (lo + i), Evl.Ex.refl _, R, ?_, .int _⟩
    unfold rangeD
    rw [List.getElem?_map, List.getElem?_range hi] <;> rfl
section
variable {X : Cx} {W : WX} {Ξ : Xi} {tg a b : Expr} {pos p : Pos}
/-- for x in a list -/
def yiLst (r : PTE) : PTN := fun ε Q => r ε fun t ε' => out ε' t fun d ε2 => match d with
  | .lst ds => Q ds ε2
  | _ => False
theorem yi_lst {r : PTE} (h : YE X W Ξ a r) : YI X W Ξ tg a (yiLst r) := by
  obtain ⟨t, p, k⟩ := h.ex
  refine ⟨_, pi_list p, fun F Hs σ H ε Q' R' R L q kk => k F Hs σ H ε _ _ R L q fun v H1 Hs1 t ε1 e1 R1 p1 q1 => ?_⟩
  obtain ⟨d, ε2, Hs2, e2, R2, rv, q2⟩ := R1.out p1 q1
  split at q2
  · cases rv with
    | lst h1 r1 => exact ⟨_, rfl, ⟨_, SqL.of (R2.ex _ _ h1)⟩, kk _ H1 Hs2 _ ε2 (e1.trans e2) R2 (seqs_list (SqL.of h1) r1) q2⟩
  · exact q2.elim
/-- for x in a list that is only read -/
def yiFrl (r : PTE) : PTN := fun ε Q => r ε fun t ε' => out ε' t fun d ε2 => match d with
  | .frl ds => Q ds ε2
  | _ => False
theorem yi_frl {r : PTE} (h : YE X W Ξ a r) : YI X W Ξ tg a (yiFrl r) := by
  obtain ⟨t, p, k⟩ := h.ex
  refine ⟨_, pi_list p, fun F Hs σ H ε Q' R' R L q kk => k F Hs σ H ε _ _ R L q fun v H1 Hs1 t ε1 e1 R1 p1 q1 => ?_⟩
  obtain ⟨d, ε2, Hs2, e2, R2, rv, q2⟩ := R1.out p1 q1
  split at q2
  · cases rv with
    | frl h1 r1 => exact ⟨_, rfl, ⟨_, Evl.ex_l R2.ex h1.sq⟩, kk _ H1 Hs2 _ ε2 (e1.trans e2) R2 (seqs_list h1.sq r1) q2⟩
  · exact q2.elim
def yiTup (r : PTE) : PTN := fun ε Q => r ε fun t ε' => out ε' t fun d ε2 => match d with
  | .tup ds => Q ds ε2
  | _ => False
theorem yi_tup {r : PTE} (h : YE X W Ξ a r) : YI X W Ξ tg a (yiTup r) := by
  obtain ⟨t, p, k⟩ := h.ex
  refine ⟨_, pi_tup p, fun F Hs σ H ε Q' R' R L q kk => k F Hs σ H ε _ _ R L q fun v H1 Hs1 t ε1 e1 R1 p1 q1 => ?_⟩
  obtain ⟨d, ε2, Hs2, e2, R2, rv, q2⟩ := R1.out p1 q1
  split at q2
  · cases rv with
    | tup h1 r1 => exact ⟨_, rfl, ⟨_, Evl.ex_t R2.ex h1⟩, kk _ H1 Hs2 _ ε2 (e1.trans e2) R2 (seqs_tup h1 r1) q2⟩
  · exact q2.elim
def smallB : Int → Bool
  | .ofNat n => Nat.ble n 4611686018427387903
  | .negSucc n => Nat.ble n 4611686018427387903
theorem small_of {j : Int} (h : smallB j = true) : -4611686018427387904 ≤ j ∧ j < 4611686018427387904 := by
  cases j with
  | ofNat n =>
    have h := Nat.le_of_ble_eq_true h
    constructor
    · show _ ≤ ((n : Nat) : Int)
      omega
    · show ((n : Nat) : Int) < _
      omega
  | negSucc n =>
    have h := Nat.le_of_ble_eq_true h
    rw [Int.negSucc_eq]
    omega
theorem small_by {j : Int} (h0 : 0 ≤ j) (h : j < 4611686018427387904) : smallB j = true := by
  cases j with
  | ofNat n =>
    replace h : ((n : Nat) : Int) < _ := h
    exact Nat.ble_eq_true_of_le (by omega)
  | negSucc n =>
    rw [Int.negSucc_eq] at h0
    omega
def rg1 (Q : List D → Prop) : List D → Prop
  | [.int j] => gd (smallB j = true) (Q (rangeD 0 j.toNat))
  | _ => False
def rg2 (Q : List D → Prop) : List D → Prop
  | [.int i, .int j] => gd (smallB i = true ∧ smallB j = true) (Q (rangeD i (j - i).toNat))
  | _ => False
def yiRg1 (rs : PTL) : PTN := fun ε Q => rs ε fun ts ε1 => ress ε1 ts (rg1 fun ds => Q ds ε1)
def yiRg2 (rs : PTL) : PTN := fun ε Q => rs ε fun ts ε1 => ress ε1 ts (rg2 fun ds => Q ds ε1)
theorem yi_range1 {rs : PTL} (hg : Gl X "range") (hm : X.mg "range" = none) (h : YL X W Ξ [a] rs) (hs : starEach [a] X.env = [(false, eval a X.env)] := by rfl) : YI X W Ξ tg (.Call (.Name "range" p) [a] [] pos) (yiRg1 rs) := by
  obtain ⟨t, pa, k⟩ := h.ex
  refine ⟨_, pi_range1 hg hm pa hs, fun F Hs σ H ε Q' R' R L q kk => k F Hs σ H ε _ _ R L q fun vs H1 Hs1 ts ε1 e1 R1 p1 q1 => ?_⟩
  obtain ⟨ds, rv, q2⟩ := R1.ress p1 q1
  unfold rg1 at q2
  split at q2
  · obtain ⟨v, rfl, r⟩ := rv.one
    have q2 := gd_elim q2
    exact ⟨_, by rw [r.int'], (small_of q2.1).1, (small_of q2.1).2, kk _ H1 Hs1 _ ε1 e1 R1 seqs_range q2.2⟩
  · exact q2.elim
theorem yi_range2 {rs : PTL} (hg : Gl X "range") (hm : X.mg "range" = none) (h : YL X W Ξ [a, b] rs) (hs : starEach [a, b] X.env = [(false, eval a X.env), (false, eval b X.env)] := by rfl) (hs2 : starEach [b] X.env = [(false, eval b X.env)] := by rfl) : YI X W Ξ tg (.Call (.Name "range" p) [a, b] [] pos) (yiRg2 rs) := by
  obtain ⟨t, pa, k⟩ := h.ex
  refine ⟨_, pi_range2 hg hm pa hs hs2, fun F Hs σ H ε Q' R' R L q kk => k F Hs σ H ε _ _ R L q fun vs H1 Hs1 ts ε1 e1 R1 p1 q1 => ?_⟩
  obtain ⟨ds, rv, q2⟩ := R1.ress p1 q1
  unfold rg2 at q2
  split at q2
  · obtain ⟨v, w, rfl, r1, r2⟩ := rv.two
    have q2 := gd_elim q2
    exact ⟨_, _, by rw [r1.int', r2.int'], ⟨(small_of q2.1.1).1, (small_of q2.1.1).2, (small_of q2.1.2).1, (small_of q2.1.2).2⟩, kk _ H1 Hs1 _ ε1 e1 R1 seqs_range q2.2⟩
  · exact q2.elim

/-! ### comprehensions -/
def wipeE (ε : PEnv) : List Nat → PEnv
  | [] => ε
  | v :: vs => (wipeE ε vs).set v none
/-- nothing that is owned stands in these slots -/
def freeE (ε : PEnv) : List Nat → Prop
  | [] => True
  | v :: vs => (match ε[v]? with
    | some (some (.o _)) => False
    | some (some (.od _)) => False
    | _ => True) ∧ freeE ε vs
theorem wipeE_len (ε : PEnv) : ∀ vs : List Nat, (wipeE ε vs).length = ε.length
  | [] => rfl
  | v :: vs => by unfold wipeE; rw [List.length_set, wipeE_len ε vs]
theorem wipeE_some {ε : PEnv} {i : Nat} {s : S} : ∀ {vs : List Nat}, (wipeE ε vs)[i]? = some (some s) → ε[i]? = some (some s) ∧ i ∉ vs
  | [], h => ⟨h, by simp⟩
  | v :: vs, h => by
    unfold wipeE at h
    by_cases hi : v = i
    · subst hi
      by_cases hv : v < (wipeE ε vs).length
      · rw [List.getElem?_set_self hv] at h; cases h
      · rw [List.getElem?_eq_none (by simpa using hv)] at h; cases h
    · rw [List.getElem?_set_ne hi] at h
      obtain ⟨h1, h2⟩ := wipeE_some h
      exact ⟨h1, by simp only [List.mem_cons, not_or]; exact ⟨fun e => hi e.symm, h2⟩⟩
theorem wipeE_get {ε : PEnv} {i : Nat} : ∀ {vs : List Nat}, i ∉ vs → (wipeE ε vs)[i]? = ε[i]?
  | [], _ => rfl
  | v :: vs, h => by
    simp only [List.mem_cons, not_or] at h
    unfold wipeE
    rw [List.getElem?_set_ne (Ne.symm h.1), wipeE_get h.2]
theorem wipe_get {σ : St} {i : Nat} : ∀ {vs : List Nat}, i ∉ vs → (wipe σ vs)[i]? = σ[i]?
  | [], _ => rfl
  | v :: vs, h => by
    simp only [List.mem_cons, not_or] at h
    unfold wipe
    rw [List.getElem?_set_ne (Ne.symm h.1), wipe_get h.2]
theorem freeE_own {ε : PEnv} {i : Nat} {s : S} (e : ε[i]? = some (some s)) (so : s.own = true) : ∀ {vs : List Nat}, freeE ε vs → i ∉ vs
  | [], _ => by simp
  | v :: vs, h => by
    simp only [List.mem_cons, not_or]
    refine ⟨fun z => ?_, freeE_own e so h.2⟩
    subst z
    have h1 := h.1
    rw [e] at h1
    cases s <;> first | exact h1 | cases so
section
variable {K : PySem.W.Frag} {F Hs Hs' H H' : Hp} {σ : St} {ε : PEnv}
theorem SlotOk.at {i : Nat} {s : S} {σ' : St} (h : SlotOk K F Hs σ H i s) (e : σ'[i]? = σ[i]?) : SlotOk K F Hs σ' H i s := by
  cases s <;> (unfold SlotOk at h ⊢; dsimp only at h ⊢; rw [e]; exact h)
theorem RelS.wipe (R : RelS K F Hs σ H ε) (vs : List Nat) : RelS K F Hs (L2.wipe σ vs) H (wipeE ε vs) := by
  refine ⟨R.ex, R.fr, by rw [wipe_length, wipeE_len]; exact R.len, fun j t q => ?_, fun j k t u hn h1 h2 h3 h4 => ?_⟩
  · obtain ⟨h1, h2⟩ := wipeE_some q
    exact (R.sl j t h1).at (wipe_get h2)
  · obtain ⟨g1, n1⟩ := wipeE_some h1
    obtain ⟨g2, n2⟩ := wipeE_some h2
    rw [wipe_get n1, wipe_get n2]
    exact R.ds j k t u hn g1 g2 h3 h4
theorem RelS.unwipe {vs : List Nat} (R : RelS K F Hs σ H ε) (R' : RelS K F Hs' (L2.wipe σ vs) H' (wipeE ε vs)) (e : Ex Hs Hs') (hf : freeE ε vs) : RelS K F Hs' σ H' ε := by
  refine ⟨R'.ex, R'.fr, R.len, fun j t q => ?_, R.ds⟩
  by_cases hj : j ∈ vs
  · have z := R.sl j t q
    cases t with
    | v d =>
      obtain ⟨v, h1, h2⟩ := z
      exact ⟨v, h1, h2.mono e⟩
    | o ds => exact absurd hj (freeE_own q rfl hf)
    | od ds => exact absurd hj (freeE_own q rfl hf)
  · exact (R'.sl j t (by rw [wipeE_get hj]; exact q)).at (wipe_get hj).symm
end
/-- [e for target in iter if test] -/
def ynLc (ri : PTN) (g : PTG) (rt : PTT) (re : PTE) (vs : List Nat) : PTN := fun ε Q => ri ε fun ds ε1 => freeE ε1 vs ∧ ds.length ≤ 16777216 ∧ ∃ Wp : Nat → List D → Prop, Wp 0 [] ∧
  (∀ i d acc, i < ds.length → ds[i]? = some d → acc.length ≤ i → Wp i acc → g d (wipeE ε1 vs) fun ε2 => rt ε2 fun k ε3 => match k with
    | true => re ε3 fun t ε4 => out ε4 t fun y ε5 => wipeE ε5 vs = wipeE ε1 vs ∧ Wp (i + 1) (acc ++ [y])
    | false => wipeE ε3 vs = wipeE ε1 vs ∧ Wp (i + 1) acc) ∧ ∀ acc, acc.length ≤ ds.length → Wp ds.length acc → Q acc ε1
def yYes : PTT := fun ε Q => Q true ε
/-- a clause's tests -/
structure YTs (X : Cx) (W : WX) (Ξ : Xi) (es : List Expr) (r : PTT) : Prop where
  ex : ∃ t, PTs X es t ∧ ∀ (F Hs : Hp) (σ : St) (H : Hp) (ε : PEnv) (Q' : Bool → PEnv → Prop) (Q : Bool → Hp → Prop), RelS X.K F Hs σ H ε → Lk X.K F Hs W Ξ → r ε Q' → KT X.K F Hs σ Q' Q → t σ H Q
theorem yts_nil : YTs X W Ξ [] yYes := ⟨_, pts_nil, fun F Hs σ H ε Q' Q R _ q k => k true H Hs ε (Evl.Ex.refl _) R q⟩
theorem yts_one {r : PTT} (h : YT X W Ξ a r) : YTs X W Ξ [a] r := by
  obtain ⟨t, p, k⟩ := h.ex
  exact ⟨t, pts_one p, k⟩
theorem YTs.canon {es : List Expr} {r : PTT} (h : YTs X W Ξ es r) : PTs X es (cT X.K W Ξ r) := by
  obtain ⟨t, p, k⟩ := h.ex
  exact ⟨fun pins s σ H Q I ⟨F, Hs, ε, Q', R, L, q, kk⟩ => p.run pins s σ H Q I (k F Hs σ H ε Q' Q R L q kk)⟩


theorem lc_reads {X : Cx} {W : WX} {Ξ : Xi} {own : List (Str × Nat)} {ri : PTN} {g : PTG} {rt : PTT} {re : PTE} {sl : List Nat} {wi : TI}
    (ki : ∀ (F Hs : Hp) (σ : St) (H : Hp) (ε : PEnv) (Q' : List D → PEnv → Prop) (R' : It → Hp → Prop), RelS X.K F Hs σ H ε → Lk X.K F Hs W Ξ → ri ε Q' →
      (∀ J H' Hs' ds ε', Ex Hs Hs' → RelS X.K F Hs' σ H' ε' → Seqs X.K Hs' J ds → Q' ds ε' → R' J H') → wi σ H R')
    (hsl : (sl.all fun i => (own.map (·.2)).contains i) = true) (F Hs : Hp) (σ : St) (H : Hp) (ε : PEnv) (Q' : List D → PEnv → Prop) (Q : VK) (R : RelS X.K F Hs σ H ε) (L : Lk X.K F Hs W Ξ) (q : ynLc ri g rt re (own.map (·.2)) ε Q') (k : KN X.K F Hs σ Q' Q) :
    tLc wi (cG X.K g sl) (cT X.K W0 Ξ0 rt) (cE X.K W0 Ξ0 re) (own.map (·.2)) σ H Q := by
  have hsl' : ∀ i ∈ sl, i ∈ own.map (·.2) := fun i hi => by simpa using List.all_eq_true.mp hsl i hi
  generalize own.map (·.2) = ws at hsl' q ⊢
  refine ki F Hs σ H ε _ _ R L q fun J H1 Hs1 ds ε1 e1 R1 sq ⟨hf, hl, Wp, w0, wt, wd⟩ => fun Dl hD => ?_
  obtain ⟨n1, n2, n3⟩ := R1.nobody hD
  have R2 : RelS X.K F Hs1 σ (upd H1 Dl (.lst [])) ε1 := R1.lay hD
  have lt' : Lk X.K F Hs1 W Ξ := L.mono e1
  -- the turns
  refine ⟨fun i m H => m = ds.length - i ∧ i ≤ ds.length ∧ ∃ (Hc : Hp) (av : List V) (acc : List D), Ex Hs1 Hc ∧ RelS X.K (upd F Dl (.lst av)) Hc (L2.wipe σ ws) H (wipeE ε1 ws) ∧ Reps X.K Hc av acc ∧ acc.length ≤ i ∧ Wp i acc, ⟨ds.length, by simp, Nat.zero_le _, Hs1, [], [], Evl.Ex.refl _, ?_, .nil, Nat.le_refl _, w0⟩, ?_⟩
  · refine (R2.wipe ws).lend upd_same n1 fun i s e so z => ?_
    obtain ⟨g1, g2⟩ := wipeE_some e
    rw [wipe_get g2] at z
    exact n3 i s g1 so z
  · rintro i m H2 ⟨rfl, hil, Hc, av, acc, ec, Rc, ra, hla, wp⟩
    by_cases hlt : i < ds.length
    · refine .inr ⟨sq.go i H2 (ec.trans Rc.ex) hlt, fun H' => i + 1 ≤ ds.length ∧ ∃ (Hc : Hp) (av : List V) (acc : List D), Ex Hs1 Hc ∧ RelS X.K (upd F Dl (.lst av)) Hc (L2.wipe σ ws) H' (wipeE ε1 ws) ∧ Reps X.K Hc av acc ∧ acc.length ≤ i + 1 ∧ Wp (i + 1) acc,
        fun H' n' => ⟨ds.length - (i + 1), by omega, rfl, n'.1, n'.2⟩, fun x H3 y => ?_⟩
      obtain ⟨Hc3, d, e3, R3, hd, rx⟩ := sq.yld i _ Hc _ H2 _ x H3 ec Rc hlt y
      refine ⟨_, Hc3, _, d, _, R3, rx, wt i d acc hlt hd hla wp, fun σ4 H4 Hc4 ε4 e4 o4 R4 q4 => ?_⟩
      have w4 : L2.wipe σ4 ws = L2.wipe σ ws := by
        rw [o4 ws hsl']
        have idem : ∀ (vs us : List Nat), (∀ v ∈ vs, v ∈ us) → L2.wipe (L2.wipe σ us) vs = L2.wipe σ us := by
          intro vs
          induction vs with
          | nil => intro _ _; rfl
          | cons v vs ih =>
            intro us hv
            show (L2.wipe (L2.wipe σ us) vs).set v none = L2.wipe σ us
            rw [ih us fun w hw => hv w (List.mem_cons_of_mem _ hw)]
            have in_ : ∀ {us : List Nat}, v ∈ us → (L2.wipe σ us).set v none = L2.wipe σ us := by
              intro us
              induction us with
              | nil => intro h; cases h
              | cons u us ih =>
                intro h
                show ((L2.wipe σ us).set u none).set v none = (L2.wipe σ us).set u none
                by_cases e : u = v
                · subst e
                  rw [List.set_set]
                · rw [List.set_comm _ _ e, ih (by
                    rcases List.mem_cons.mp h with h | h
                    · exact absurd h.symm e
                    · exact h)]
            exact in_ (hv v (List.mem_cons_self ..))
        exact idem ws ws fun _ h => h
      refine ⟨w4, ⟨_, Hc4, ε4, _, R4, Lk.none, q4, fun b H5 Hc5 ε5 e5 R5 q5 => ?_⟩⟩
      cases b with
      | true =>
        show (if true = true then _ else _)
        rw [if_pos rfl]
        refine ⟨_, Hc5, ε5, _, R5, Lk.none, q5, fun z H6 Hc6 t6 ε6 e6 R6 p6 q6 => ?_⟩
        obtain ⟨yd, ε7, Hc7, e7, R7, ry, we, wp7⟩ := R6.out p6 q6
        have ex : Ex Hc Hc7 := (((e3.trans e4).trans e5).trans e6).trans e7
        have R8 := R7.wipe ws
        rw [w4, we] at R8
        obtain ⟨R9, b1, b2, b3⟩ := R8.back n2
        refine ⟨av, b1, by rw [ra.len]; exact line_lt (by omega), hlt, Hc7, av ++ [z], acc ++ [yd], ec.trans ex, ?_, (ra.mono ex).append (.cons ry .nil), by rw [List.length_append]; simp; omega, wp7⟩
        exact (R9.touch b2 n2 b3).lend upd_same b2 b3
      | false =>
        show (if false = true then _ else _)
        rw [if_neg Bool.false_ne_true]
        obtain ⟨we, wp7⟩ := q5
        have ex : Ex Hc Hc5 := (e3.trans e4).trans e5
        have R8 := R5.wipe ws
        rw [w4, we] at R8
        exact ⟨hlt, Hc5, av, acc, ec.trans ex, R8, ra.mono ex, by omega, wp7⟩
    · have ei : i = ds.length := by omega
      subst ei
      refine .inl ⟨sq.stop _ H2 (ec.trans Rc.ex) (Nat.le_refl _), ?_⟩
      obtain ⟨R9, b1, b2, b3⟩ := Rc.back n2
      have R10 := R2.unwipe R9 ec hf
      refine k Dl H2 Hc av acc ε1 (e1.trans ec) R10 b1 b2 n2 (fun i s e so z => ?_) ra (wd acc hla wp)
      have hi := freeE_own e so hf
      exact b3 i s (by rw [wipeE_get hi]; exact e) so (by rw [wipe_get hi]; exact z)
theorem yn_lc {tg iter elt : Expr} {ifs : List Expr} {scope : Scope} {own : List (Str × Nat)} {ri : PTN} {g : PTG} {rt : PTT} {re : PTE} {sl : List Nat} (hc : X.calm = true) (hN : X.N.Nodup) (hi : YI X W Ξ tg iter ri) (ok : BlkOk X.N X.env.scope scope own)
    (hg : ∀ (s : Shared) (H : Hp) (C : Addr) (cl : List (Str × Addr)) (fp : List Addr), YG (X.blk s H scope (compEnvC scope cl C X.env) fp) tg g sl)
    (ht : ∀ (s : Shared) (H : Hp) (C : Addr) (cl : List (Str × Addr)) (fp : List Addr), YTs (X.blk s H scope (compEnvC scope cl C X.env) fp) W0 Ξ0 ifs rt)
    (he : ∀ (s : Shared) (H : Hp) (C : Addr) (cl : List (Str × Addr)) (fp : List Addr), YE (X.blk s H scope (compEnvC scope cl C X.env) fp) W0 Ξ0 elt re)
    (hsl : (sl.all fun i => (own.map (·.2)).contains i) = true := by decide) (hs : ∀ x, foldedSetIterable iter X.env x = pure x := by intro _; rfl) :
    YN X W Ξ (.ListComp elt [⟨tg, iter, ifs, 0⟩] scope pos) (ynLc ri g rt re (own.map (·.2))) := by
  obtain ⟨wi, pi, ki⟩ := hi.ex
  exact ⟨_, pe_lc (g := cG X.K g sl) (tt := cT X.K W0 Ξ0 rt) (te := cE X.K W0 Ξ0 re) hc hN pi ok (fun s H C cl fp => (hg s H C cl fp).canon) (fun s H C cl fp => (ht s H C cl fp).canon) (fun s H C cl fp => (he s H C cl fp).canon) hs, lc_reads ki hsl⟩
end
end PL

set_option Elab.async false
set_option linter.all false
set_option autoImplicit false
set_option maxRecDepth 100000
set_option maxHeartbeats 2000000
/-! Statements and defs, over plain data. -/
namespace PL
open PySem PySem.Spec PyProof.Rows L2
open Evl (Ex)

structure PEnds where
  nx : PEnv → Prop
  rt : D → PEnv → Prop
  bk : PEnv → Prop := fun _ => False
  ct : PEnv → Prop := fun _ => False
abbrev PTS := PEnds → PEnv → Prop
structure EOk (K : PySem.W.Frag) (F Hs : Hp) (Δ : PEnds) (Dd : Ends) : Prop where
  nx : ∀ (σ' : St) (H' Hs' : Hp) (ε' : PEnv), Ex Hs Hs' → RelS K F Hs' σ' H' ε' → Δ.nx ε' → Dd.nx σ' H'
  rt : ∀ (v : V) (σ' : St) (H' Hs' : Hp) (d : D) (ε' : PEnv), Ex Hs Hs' → RelS K F Hs' σ' H' ε' → Rep K Hs' v d → Δ.rt d ε' → Dd.rt v H'
  bk : ∀ (σ' : St) (H' Hs' : Hp) (ε' : PEnv), Ex Hs Hs' → RelS K F Hs' σ' H' ε' → Δ.bk ε' → Dd.bk σ' H'
  ct : ∀ (σ' : St) (H' Hs' : Hp) (ε' : PEnv), Ex Hs Hs' → RelS K F Hs' σ' H' ε' → Δ.ct ε' → Dd.ct σ' H'
theorem EOk.mono {K : PySem.W.Frag} {F Hs Hs' : Hp} {Δ : PEnds} {Dd : Ends} (e : Ex Hs Hs') (h : EOk K F Hs Δ Dd) : EOk K F Hs' Δ Dd :=
  ⟨fun σ' H' Hs' ε' e2 => h.nx σ' H' Hs' ε' (e.trans e2), fun v σ' H' Hs' d ε' e2 => h.rt v σ' H' Hs' d ε' (e.trans e2), fun σ' H' Hs' ε' e2 => h.bk σ' H' Hs' ε' (e.trans e2), fun σ' H' Hs' ε' e2 => h.ct σ' H' Hs' ε' (e.trans e2)⟩
structure YS (X : Cx) (W : WX) (Ξ : Xi) (st : Stmt) (r : PTS) : Prop where
  ex : ∃ t, PS X st t ∧ ∀ (F Hs : Hp) (σ : St) (H : Hp) (ε : PEnv) (Δ : PEnds) (Dd : Ends), RelS X.K F Hs σ H ε → Lk X.K F Hs W Ξ → r Δ ε → EOk X.K F Hs Δ Dd → t Dd σ H
structure YSs (X : Cx) (W : WX) (Ξ : Xi) (st : List Stmt) (r : PTS) : Prop where
  ex : ∃ t, PSs X st t ∧ ∀ (F Hs : Hp) (σ : St) (H : Hp) (ε : PEnv) (Δ : PEnds) (Dd : Ends), RelS X.K F Hs σ H ε → Lk X.K F Hs W Ξ → r Δ ε → EOk X.K F Hs Δ Dd → t Dd σ H
def cSs (K : PySem.W.Frag) (W : WX) (Ξ : Xi) (r : PTS) : TS := fun Dd σ H => ∃ (F Hs : Hp) (ε : PEnv) (Δ : PEnds), RelS K F Hs σ H ε ∧ Lk K F Hs W Ξ ∧ r Δ ε ∧ EOk K F Hs Δ Dd
theorem YSs.canon {X : Cx} {W : WX} {Ξ : Xi} {st : List Stmt} {r : PTS} (h : YSs X W Ξ st r) : PSs X st (cSs X.K W Ξ r) := by
  obtain ⟨t, p, k⟩ := h.ex
  exact ⟨fun pins s σ H Dd I ⟨F, Hs, ε, Δ, R, L, q, kk⟩ => p.run pins s σ H Dd I (k F Hs σ H ε Δ Dd R L q kk)⟩

section
variable {X : Cx} {W : WX} {Ξ : Xi} {st : Stmt} {rest : List Stmt} {r u : PTS} {e : Expr} {pos : Pos}
def ysNext : PTS := fun Δ ε => Δ.nx ε
def ysSeq (r u : PTS) : PTS := fun Δ ε => r { Δ with nx := fun ε' => u Δ ε' } ε
theorem yss_nil : YSs X W Ξ [] ysNext := ⟨_, pss_nil, fun F Hs σ H ε Δ Dd R L q k => k.nx σ H Hs ε (Evl.Ex.refl _) R q⟩
theorem yss_cons (h1 : YS X W Ξ st r) (h2 : YSs X W Ξ rest u) : YSs X W Ξ (st :: rest) (ysSeq r u) := by
  obtain ⟨t, p, k⟩ := h1.ex
  obtain ⟨t2, p2, k2⟩ := h2.ex
  refine ⟨_, pss_cons p p2, fun F Hs σ H ε Δ Dd R L q kk => k F Hs σ H ε _ _ R L q ⟨fun σ' H' Hs' ε' e R' q' => ?_, kk.rt, kk.bk, kk.ct⟩⟩
  exact k2 F Hs' σ' H' ε' Δ Dd R' (L.mono e) q' (kk.mono e)
theorem yss_one (h1 : YS X W Ξ st r) : YSs X W Ξ [st] r := by
  obtain ⟨t, p, k⟩ := h1.ex
  exact ⟨_, pss_one p, k⟩
theorem ys_pass : YS X W Ξ (.Pass pos) ysNext := ⟨_, ps_pass, fun F Hs σ H ε Δ Dd R L q k => k.nx σ H Hs ε (Evl.Ex.refl _) R q⟩
def ysBrk : PTS := fun Δ ε => Δ.bk ε
def ysCnt : PTS := fun Δ ε => Δ.ct ε
theorem ys_break : YS X W Ξ (.Break pos) ysBrk := ⟨_, ps_break, fun F Hs σ H ε Δ Dd R L q k => k.bk σ H Hs ε (Evl.Ex.refl _) R q⟩
theorem ys_continue : YS X W Ξ (.Continue pos) ysCnt := ⟨_, ps_continue, fun F Hs σ H ε Δ Dd R L q k => k.ct σ H Hs ε (Evl.Ex.refl _) R q⟩
/-- x = e -/
def ysAsg (re : PTE) (i : Nat) : PTS := fun Δ ε => re ε fun t ε' => out ε' t fun d ε2 => Δ.nx (ε2.set i (some (.v d)))
theorem ys_set (i : Nat) {x : Str} {pos' : Pos} {re : PTE} (hN : X.N.Nodup) (hi : X.N[i]? = some x) (hx : Loc X.env.scope x) (he : YE X W Ξ e re) (hs : swapsWith e (some (.Name x pos')) pos.line X.env = pure false := by rfl)
    (hf : X.fn x = true ∨ X.env.scope.names.lookup x = some .local := by first | exact .inl rfl | exact .inr rfl | assumption) : YS X W Ξ (.Assign [.Name x pos'] e pos) (ysAsg re i) := by
  obtain ⟨t, p, k⟩ := he.ex
  refine ⟨_, ps_set hN hi hx p hs hf, fun F Hs σ H ε Δ Dd R L q kk => k F Hs σ H ε _ _ R L q fun v H1 Hs1 t1 ε1 e1 R1 p1 q1 => ?_⟩
  obtain ⟨d, ε2, Hs2, e2, R2, rv, q2⟩ := R1.out p1 q1
  exact kk.nx _ H1 Hs2 _ (e1.trans e2) (R2.store rv i) q2
/-- x = a new list, that x owns -/
def ysAsgO (rn : PTN) (i : Nat) : PTS := fun Δ ε => rn ε fun ds ε' => Δ.nx (ε'.set i (some (.o ds)))
theorem storeO_of {K : PySem.W.Frag} {F Hs H : Hp} {σ : St} {ε : PEnv} {p : Addr} {vs : List V} {ds : List D} (R : RelS K F Hs σ H ε) (i : Nat) (hH : H p = some (.lst vs)) (hp : Hs p = none) (hF : F p = none) (hn : Nobody σ ε p) (r : Reps K Hs vs ds) :
    RelS K F Hs (σ.set i (some (.ref p))) H (ε.set i (some (.o ds))) := by
  refine R.storeO rfl i hn fun hi => ?_
  exact ⟨p, vs, by rw [List.getElem?_set_self (by rw [R.len]; exact hi)], hp, hF, hH, r⟩
theorem ys_setO (i : Nat) {x : Str} {pos' : Pos} {rn : PTN} (hN : X.N.Nodup) (hi : X.N[i]? = some x) (hx : Loc X.env.scope x) (he : YN X W Ξ e rn) (hs : swapsWith e (some (.Name x pos')) pos.line X.env = pure false := by rfl)
    (hf : X.fn x = true ∨ X.env.scope.names.lookup x = some .local := by first | exact .inl rfl | exact .inr rfl | assumption) : YS X W Ξ (.Assign [.Name x pos'] e pos) (ysAsgO rn i) := by
  obtain ⟨t, p, k⟩ := he.ex
  refine ⟨_, ps_set hN hi hx p hs hf, fun F Hs σ H ε Δ Dd R L q kk => k F Hs σ H ε _ _ R L q fun p H' Hs' vs ds ε' e R' g1 g2 g3 g4 rs q' => ?_⟩
  exact kk.nx _ H' Hs' _ e (storeO_of R' i g1 g2 g3 g4 rs) q'
/-- x = [.. for ..] -/
theorem ys_setLc (i : Nat) {y : Str} {py spos : Pos} {tg iter elt : Expr} {ifs : List Expr} {scope : Scope} {own : List (Str × Nat)} {ri : PTN} {g : PTG} {rt : PTT} {re : PTE} {sl : List Nat} (o : Bool) (hc : X.calm = true) (hN : X.N.Nodup) (hy : X.N[i]? = some y) (hyl : X.env.scope.names.lookup y = some .local)
    (hsw : swapsWith (.ListComp elt [⟨tg, iter, ifs, 0⟩] scope pos) (some (.Name y py)) spos.line X.env = pure true) (hi : YI X W Ξ tg iter ri) (ok : BlkOk X.N X.env.scope scope own)
    (hg : ∀ (s : Shared) (H : Hp) (C : Addr) (cl : List (Str × Addr)) (fp : List Addr), YG (X.blk s H scope (compEnvC scope cl C X.env) fp) tg g sl)
    (ht : ∀ (s : Shared) (H : Hp) (C : Addr) (cl : List (Str × Addr)) (fp : List Addr), YTs (X.blk s H scope (compEnvC scope cl C X.env) fp) W0 Ξ0 ifs rt)
    (he : ∀ (s : Shared) (H : Hp) (C : Addr) (cl : List (Str × Addr)) (fp : List Addr), YE (X.blk s H scope (compEnvC scope cl C X.env) fp) W0 Ξ0 elt re)
    (hsl : (sl.all fun i => (own.map (·.2)).contains i) = true := by decide) (hs : ∀ x, foldedSetIterable iter X.env x = pure x := by intro _; rfl) :
    YS X W Ξ (.Assign [.Name y py] (.ListComp elt [⟨tg, iter, ifs, 0⟩] scope pos) spos) (match o with
      | true => ysAsgO (ynLc ri g rt re (own.map (·.2))) i
      | false => ysAsg (yNew (ynLc ri g rt re (own.map (·.2)))) i) := by
  obtain ⟨wi, pi, ki⟩ := hi.ex
  refine ⟨_, ps_setLc (g := cG X.K g sl) (tt := cT X.K W0 Ξ0 rt) (te := cE X.K W0 Ξ0 re) hc hN hy hyl hsw pi ok (fun s H C cl fp => (hg s H C cl fp).canon) (fun s H C cl fp => (ht s H C cl fp).canon) (fun s H C cl fp => (he s H C cl fp).canon) hs, fun F Hs σ H ε Δ Dd R L q kk => ?_⟩
  cases o with
  | true =>
    refine lc_reads ki hsl F Hs σ H ε _ _ R L q fun p H' Hs' vs ds ε' e R' g1 g2 g3 g4 rs q' => ?_
    exact kk.nx _ H' Hs' _ e (storeO_of R' i g1 g2 g3 g4 rs) q'
  | false =>
    refine lc_reads ki hsl F Hs σ H ε _ _ R L q fun p H' Hs' vs ds ε' e R' g1 g2 g3 g4 rs q' => ?_
    exact kk.nx _ H' _ _ (e.trans (ex_upd g2)) ((R'.adopt g1 g2 g3 g4).store (.lst upd_same (rs.mono (ex_upd g2))) i) q'
/-- targets = e -/
def ysAsgG (re : PTE) (g : PTG) : PTS := fun Δ ε => re ε fun t ε' => out ε' t fun d ε2 => g d ε2 Δ.nx
theorem ys_asg {tg : Expr} {re : PTE} {g : PTG} {sl : List Nat} (he : YE X W Ξ e re) (hg : YG X tg g sl) (hs : swapsWithSole [tg] e pos.line X.env = pure false := by rfl) (hw : swappedStores [tg] e X.env = pure none := by rfl)
    (h1 : (assignEach [tg] X.env).map (·.2) = [assign tg X.env] := by rfl) : YS X W Ξ (.Assign [tg] e pos) (ysAsgG re g) := by
  obtain ⟨t, p, k⟩ := he.ex
  obtain ⟨tg', pg, kg⟩ := hg.ex
  refine ⟨_, ps_asg p pg hs hw h1, fun F Hs σ H ε Δ Dd R L q kk => k F Hs σ H ε _ _ R L q fun v H1 Hs1 t1 ε1 e1 R1 p1 q1 => ?_⟩
  obtain ⟨d, ε2, Hs2, e2, R2, rv, q2⟩ := R1.out p1 q1
  exact kg F Hs2 σ H1 ε2 v d _ _ R2 rv q2 fun σ3 H3 Hs3 ε3 e3 _ R3 q3 => kk.nx σ3 H3 Hs3 ε3 ((e1.trans e2).trans e3) R3 q3
/-- x += e -/
def ysAug (f : Int → Int → Int) (i : Nat) (re : PTE) : PTS := fun Δ ε => match ε[i]? with
  | some (some (.v (.int a))) => re ε fun t ε' => res ε' t (asI fun b => Δ.nx (ε'.set i (some (.v (.int (f a b))))))
  | _ => False
theorem ys_aug (i : Nat) {x : Str} {pos' : Pos} {op : Operator} {f : Int → Int → Int} {re : PTE} (ho : PIp X op (ipI f)) (hN : X.N.Nodup) (hi : X.N[i]? = some x) (hx : Loc X.env.scope x) (he : YE X W Ξ e re) (hf : X.fn x = true ∨ X.env.scope.names.lookup x = some .local := by first | exact .inl rfl | exact .inr rfl | assumption) :
    YS X W Ξ (.AugAssign (.Name x pos') op e pos) (ysAug f i re) := by
  obtain ⟨t, p, k⟩ := he.ex
  refine ⟨_, ps_aug hN hi hx p ho hf, fun F Hs σ H ε Δ Dd R L q kk => ?_⟩
  unfold ysAug at q
  split at q
  · rename_i a ea
    obtain ⟨v, h1, h2⟩ := R.sl i _ ea
    cases h2
    refine ⟨_, h1, k F Hs σ H ε _ _ R L q fun v H1 Hs1 t1 ε1 e1 R1 p1 q1 => ?_⟩
    obtain ⟨d, rv, q2⟩ := R1.res p1 q1
    cases d with
    | int b => exact ⟨a, b, rfl, rv.int', kk.nx _ H1 Hs1 _ e1 (R1.store (.int _) i) q2⟩
    | _ => exact False.elim q2
  · exact q.elim
theorem ys_augAdd (i : Nat) {x : Str} {pos' : Pos} {re : PTE} (hN : X.N.Nodup) (hi : X.N[i]? = some x) (hx : Loc X.env.scope x) (he : YE X W Ξ e re) (hf : X.fn x = true ∨ X.env.scope.names.lookup x = some .local := by first | exact .inl rfl | exact .inr rfl | assumption) :
    YS X W Ξ (.AugAssign (.Name x pos') .Add e pos) (ysAug (fun a b => a + b) i re) := ys_aug i ip_add hN hi hx he hf
/-- e -/
def ysDrop (re : PTE) : PTS := fun Δ ε => re ε fun _ ε' => Δ.nx ε'
theorem ys_expr {re : PTE} (he : YE X W Ξ e re) (hs : swapsWith e none pos.line X.env = pure false := by rfl) : YS X W Ξ (.Expr e pos) (ysDrop re) := by
  obtain ⟨t, p, k⟩ := he.ex
  exact ⟨_, ps_expr p hs, fun F Hs σ H ε Δ Dd R L q kk => k F Hs σ H ε _ _ R L q fun v H1 Hs1 t1 ε1 e1 R1 p1 q1 => kk.nx σ H1 Hs1 ε1 e1 R1 q1⟩
def ysRet (re : PTE) : PTS := fun Δ ε => re ε fun t ε' => out ε' t fun d ε2 => Δ.rt d ε2
theorem ys_ret {re : PTE} (he : YE X W Ξ e re) : YS X W Ξ (.Return (some e) pos) (ysRet re) := by
  obtain ⟨t, p, k⟩ := he.ex
  refine ⟨_, ps_ret p, fun F Hs σ H ε Δ Dd R L q kk => k F Hs σ H ε _ _ R L q fun v H1 Hs1 t1 ε1 e1 R1 p1 q1 => ?_⟩
  obtain ⟨d, ε2, Hs2, e2, R2, rv, q2⟩ := R1.out p1 q1
  exact kk.rt v σ H1 Hs2 d ε2 (e1.trans e2) R2 rv q2
def ysIf (rt : PTT) (r u : PTS) : PTS := fun Δ ε => rt ε fun k ε' => match k with
  | true => r Δ ε'
  | false => u Δ ε'
theorem ys_if {c : Expr} {a b : List Stmt} {rt : PTT} (hc : YT X W Ξ c rt) (ha : YSs X W Ξ a r) (hb : YSs X W Ξ b u) : YS X W Ξ (.If c a b pos) (ysIf rt r u) := by
  obtain ⟨t, p, k⟩ := hc.ex
  obtain ⟨t1, p1, k1⟩ := ha.ex
  obtain ⟨t2, p2, k2⟩ := hb.ex
  refine ⟨_, ps_if p p1 p2, fun F Hs σ H ε Δ Dd R L q kk => k F Hs σ H ε _ _ R L q fun b H1 Hs1 ε1 e1 R1 q1 => ?_⟩
  cases b with
  | true =>
    show (if true = true then _ else _)
    rw [if_pos rfl]
    exact k1 F Hs1 σ H1 ε1 Δ Dd R1 (L.mono e1) q1 (kk.mono e1)
  | false =>
    show (if false = true then _ else _)
    rw [if_neg Bool.false_ne_true]
    exact k2 F Hs1 σ H1 ε1 Δ Dd R1 (L.mono e1) q1 (kk.mono e1)
/-- while, by an invariant and a measure -/
def ysWhile (rt : PTT) (rb : PTS) : PTS := fun Δ ε => ∃ Wp : Nat → PEnv → Prop, (∃ m, Wp m ε) ∧ ∀ m ε, Wp m ε → rt ε fun k ε' => match k with
  | true => rb { Δ with nx := fun ε2 => ∃ m', m' < m ∧ Wp m' ε2, ct := fun ε2 => ∃ m', m' < m ∧ Wp m' ε2, bk := Δ.nx } ε'
  | false => Δ.nx ε'
theorem ys_while {c : Expr} {body : List Stmt} {rt : PTT} {rb : PTS} (hp : PassesOwn (model X.prog X.w) X.A X.env X.xe) (hc : YT X W Ξ c rt) (hb : YSs X W Ξ body rb) : YS X W Ξ (.While c body [] pos) (ysWhile rt rb) := by
  obtain ⟨t, p, k⟩ := hc.ex
  obtain ⟨t1, p1, k1⟩ := hb.ex
  refine ⟨_, ps_while hp p p1, fun F Hs σ H ε Δ Dd R L q kk => ?_⟩
  obtain ⟨Wp, ⟨m0, w0⟩, turn⟩ := q
  refine ⟨fun m σ H => ∃ Hc ε, Ex Hs Hc ∧ RelS X.K F Hc σ H ε ∧ Wp m ε, ⟨m0, Hs, ε, Evl.Ex.refl _, R, w0⟩, ?_⟩
  rintro m σ1 H1 ⟨Hc, ε1, ec, R1, w1⟩
  refine k F Hc σ1 H1 ε1 _ _ R1 (L.mono ec) (turn m ε1 w1) fun b H2 Hs2 ε2 e2 R2 q2 => ?_
  cases b with
  | true =>
    show (if true = true then _ else _)
    rw [if_pos rfl]
    refine ⟨fun σ' H' => ∃ m', m' < m ∧ ∃ Hc ε, Ex Hs Hc ∧ RelS X.K F Hc σ' H' ε ∧ Wp m' ε, fun σ' H' ⟨m', hm, z⟩ => ⟨m', hm, z⟩, ?_⟩
    have again : ∀ (σ' : St) (H' Hs' : Hp) (ε' : PEnv), Ex Hs2 Hs' → RelS X.K F Hs' σ' H' ε' → (∃ m', m' < m ∧ Wp m' ε') → ∃ m', m' < m ∧ ∃ Hc ε, Ex Hs Hc ∧ RelS X.K F Hc σ' H' ε ∧ Wp m' ε :=
      fun σ' H' Hs' ε' e' R' ⟨m', hm, w'⟩ => ⟨m', hm, Hs', ε', (ec.trans e2).trans e', R', w'⟩
    exact k1 F Hs2 σ1 H2 ε2 _ _ R2 (L.mono (ec.trans e2)) q2 ⟨again, fun v σ' H' Hs' d ε' e' => kk.rt v σ' H' Hs' d ε' ((ec.trans e2).trans e'), fun σ' H' Hs' ε' e' => kk.nx σ' H' Hs' ε' ((ec.trans e2).trans e'), again⟩
  | false =>
    show (if false = true then _ else _)
    rw [if_neg Bool.false_ne_true]
    exact kk.nx σ1 H2 Hs2 ε2 (ec.trans e2) R2 q2
/-- for, by an invariant over the turn -/
def ysFor (ri : PTN) (g : PTG) (rb : PTS) : PTS := fun Δ ε => ri ε fun ds ε1 => ∃ Wp : Nat → PEnv → Prop, Wp 0 ε1 ∧
  (∀ i d ε, i < ds.length → ds[i]? = some d → Wp i ε → g d ε fun ε2 => rb { Δ with nx := Wp (i + 1), ct := Wp (i + 1), bk := Δ.nx } ε2) ∧ ∀ ε, Wp ds.length ε → Δ.nx ε
theorem ys_for {tg iter : Expr} {body : List Stmt} {ri : PTN} {g : PTG} {rb : PTS} {sl : List Nat} (hp : PassesOwn (model X.prog X.w) X.A X.env X.xe) (hc : X.calm = true) (hi : YI X W Ξ tg iter ri) (hg : YG X tg g sl) (hb : YSs X W Ξ body rb)
    (hs : ∀ x, foldedSetIterable iter X.env x = pure x := by intro _; rfl) : YS X W Ξ (.For tg iter body [] pos) (ysFor ri g rb) := by
  obtain ⟨wi, pi, ki⟩ := hi.ex
  obtain ⟨tg', pg, kg⟩ := hg.ex
  obtain ⟨t1, p1, k1⟩ := hb.ex
  refine ⟨_, ps_for hp hc pi pg p1 hs, fun F Hs σ H ε Δ Dd R L q kk => ?_⟩
  refine ki F Hs σ H ε _ _ R L q fun J H1 Hs1 ds ε1 e1 R1 sq ⟨Wp, w0, turn, done⟩ => ?_
  refine ⟨fun i m σ H => m = ds.length - i ∧ i ≤ ds.length ∧ ∃ Hc ε, Ex Hs1 Hc ∧ RelS X.K F Hc σ H ε ∧ Wp i ε, ⟨ds.length, by simp, Nat.zero_le _, Hs1, ε1, Evl.Ex.refl _, R1, w0⟩, ?_⟩
  rintro i m σ2 H2 ⟨rfl, hil, Hc, ε2, ec, R2, w2⟩
  by_cases hlt : i < ds.length
  · refine .inr ⟨sq.go i H2 (ec.trans R2.ex) hlt, fun σ' H' => ∃ Hc ε, Ex Hs1 Hc ∧ RelS X.K F Hc σ' H' ε ∧ Wp (i + 1) ε, fun σ' H' n' => ⟨ds.length - (i + 1), by omega, rfl, hlt, n'⟩, fun x H3 y => ?_⟩
    obtain ⟨Hc3, d, e3, R3, hd, rx⟩ := sq.yld i F Hc σ2 H2 ε2 x H3 ec R2 hlt y
    refine kg F Hc3 σ2 H3 ε2 x d _ _ R3 rx (turn i d ε2 hlt hd w2) fun σ4 H4 Hc4 ε4 e4 _ R4 q4 => ?_
    have ex4 : Ex Hs1 Hc4 := (ec.trans e3).trans e4
    have again : ∀ (σ' : St) (H' Hs' : Hp) (ε' : PEnv), Ex Hc4 Hs' → RelS X.K F Hs' σ' H' ε' → Wp (i + 1) ε' → ∃ Hc ε, Ex Hs1 Hc ∧ RelS X.K F Hc σ' H' ε ∧ Wp (i + 1) ε := fun σ' H' Hs' ε' e' R' w' => ⟨Hs', ε', ex4.trans e', R', w'⟩
    exact k1 F Hc4 σ4 H4 ε4 _ _ R4 (L.mono (e1.trans ex4)) q4 ⟨again, fun v σ' H' Hs' d ε' e' => kk.rt v σ' H' Hs' d ε' ((e1.trans ex4).trans e'), fun σ' H' Hs' ε' e' => kk.nx σ' H' Hs' ε' ((e1.trans ex4).trans e'), again⟩
  · have ei : i = ds.length := by omega
    subst ei
    exact .inl ⟨sq.stop _ H2 (ec.trans R2.ex) (Nat.le_refl _), kk.nx σ2 H2 Hc ε2 (e1.trans ec) R2 (done ε2 w2)⟩

/-! ### a name's own list: append, extend, pop, an item stored -/
def ysApp (i : Nat) (re : PTE) : PTS := fun Δ ε => match ε[i]? with
  | some (some (.o _)) => re ε fun t ε' => out ε' t fun d ε2 => match ε2[i]? with
    | some (some (.o ds)) => gd (ds.length < 16777216) (Δ.nx (ε2.set i (some (.o (ds ++ [d])))))
    | _ => False
  | _ => False
theorem ys_app (i : Nat) {x : Str} {px pa pc : Pos} {re : PTE} (hN : X.N[i]? = some x) (hv : Vis X.env.scope x) (he : YE X W Ξ e re) (hd : (x == ("__debug__" : Str)) = false := by decide) (hcd : (x == ("__classdict__" : Str)) = false := by decide)
    (hbase : attributeBase (.Name x px) "append" X.env (eval (.Name x px) X.env) = eval (.Name x px) X.env := by rfl)
    (hfew : ((backTo pc (starEach (e :: []) X.env)).all (fun x => !x.1) && (backToKw pc (keywordEach [] X.env)).all (fun x => x.1.isSome)
      && decide ((e :: []).length + ([] : List Keyword).length + (if ([] : List Keyword).isEmpty then 0 else 1) < 30)) = true := by rfl)
    (hline : (pa.endLine == pc.line) = true := by rfl) (hs : starEach (e :: []) X.env = (false, eval e X.env) :: starEach [] X.env := by rfl) (hplain : (backTo pc (starEach [] X.env)).any (·.1) = false := by rfl)
    (hsw : swapsWith (.Call (.Attribute (.Name x px) "append" pa) [e] [] pc) none pos.line X.env = pure false := by rfl) :
    YS X W Ξ (.Expr (.Call (.Attribute (.Name x px) "append" pa) [e] [] pc) pos) (ysApp i re) := by
  obtain ⟨t, p, k⟩ := he.ex
  refine ⟨_, ps_expr (pe_bm PySem.F.plainAttrs_list PySem.F.slot_list_append PySem.F.type_list_append mt_append (pe_var hN hv hd hcd) (pa_cons p pa_nil hs) hbase hfew hline hs hplain) hsw, fun F Hs σ H ε Δ Dd R L q kk => ?_⟩
  unfold ysApp at q
  split at q
  · rename_i ds0 e0
    obtain ⟨p0, vs0, h1, h2, h3, h4, h5⟩ := R.sl i _ e0
    refine ⟨_, h1, .inl ⟨rfl, _, SqL.of h4⟩, ?_⟩
    refine k F Hs σ H ε _ _ R L q fun v H1 Hs1 t1 ε1 e1 R1 p1 q1 => ?_
    obtain ⟨d, ε2, Hs2, e2, R2, rv, q2⟩ := R1.out p1 q1
    split at q2
    · rename_i ds ei
      obtain ⟨p3, vs, g1, g2, g3, g4, g5⟩ := R2.sl i _ ei
      rw [h1] at g1
      cases g1
      have q2 := gd_elim q2
      refine ⟨_, vs, v, rfl, rfl, g4, by rw [g5.len]; exact line_lt q2.1, ?_⟩
      refine kk.nx σ _ Hs2 _ (e1.trans e2) (R2.change (s' := .o (ds ++ [d])) ei rfl rfl h1 g2 g3 ⟨_, _, h1, g2, g3, upd_same, g5.append (.cons rv .nil)⟩) q2.2
    · exact q2.elim
  · exact q.elim
def ysExt (i : Nat) (re : PTE) : PTS := fun Δ ε => match ε[i]? with
  | some (some (.o _)) => re ε fun t ε' => out ε' t fun d ε2 => match d, ε2[i]? with
    | .lst es, some (some (.o ds)) => gd (ds.length + es.length ≤ 16777216) (Δ.nx (ε2.set i (some (.o (ds ++ es)))))
    | _, _ => False
  | _ => False
theorem ys_ext (i : Nat) {x : Str} {px pa pc : Pos} {re : PTE} (hN : X.N[i]? = some x) (hv : Vis X.env.scope x) (he : YE X W Ξ e re) (hd : (x == ("__debug__" : Str)) = false := by decide) (hcd : (x == ("__classdict__" : Str)) = false := by decide)
    (hbase : attributeBase (.Name x px) "extend" X.env (eval (.Name x px) X.env) = eval (.Name x px) X.env := by rfl)
    (hfew : ((backTo pc (starEach (e :: []) X.env)).all (fun x => !x.1) && (backToKw pc (keywordEach [] X.env)).all (fun x => x.1.isSome)
      && decide ((e :: []).length + ([] : List Keyword).length + (if ([] : List Keyword).isEmpty then 0 else 1) < 30)) = true := by rfl)
    (hline : (pa.endLine == pc.line) = true := by rfl) (hs : starEach (e :: []) X.env = (false, eval e X.env) :: starEach [] X.env := by rfl) (hplain : (backTo pc (starEach [] X.env)).any (·.1) = false := by rfl)
    (hsw : swapsWith (.Call (.Attribute (.Name x px) "extend" pa) [e] [] pc) none pos.line X.env = pure false := by rfl) :
    YS X W Ξ (.Expr (.Call (.Attribute (.Name x px) "extend" pa) [e] [] pc) pos) (ysExt i re) := by
  obtain ⟨t, p, k⟩ := he.ex
  refine ⟨_, ps_expr (pe_bm PySem.F.plainAttrs_list PySem.F.slot_list_extend PySem.F.type_list_extend mt_extend (pe_var hN hv hd hcd) (pa_cons p pa_nil hs) hbase hfew hline hs hplain) hsw, fun F Hs σ H ε Δ Dd R L q kk => ?_⟩
  unfold ysExt at q
  split at q
  · rename_i ds0 e0
    obtain ⟨p0, vs0, h1, h2, h3, h4, h5⟩ := R.sl i _ e0
    refine ⟨_, h1, .inl ⟨rfl, _, SqL.of h4⟩, ?_⟩
    refine k F Hs σ H ε _ _ R L q fun v H1 Hs1 t1 ε1 e1 R1 p1 q1 => ?_
    obtain ⟨d, ε2, Hs2, e2, R2, rv, q2⟩ := R1.out p1 q1
    split at q2
    · rename_i es ds ei
      obtain ⟨p3, vs, g1, g2, g3, g4, g5⟩ := R2.sl i _ ei
      rw [h1] at g1
      cases g1
      have q2 := gd_elim q2
      cases rv with
      | lst hb rb =>
        refine ⟨_, _, vs, _, rfl, rfl, g4, R2.ex _ _ hb, by rw [g5.len, rb.len]; exact line_le q2.1, ?_⟩
        exact kk.nx σ _ Hs2 _ (e1.trans e2) (R2.change (s' := .o (ds ++ es)) ei rfl rfl h1 g2 g3 ⟨_, _, h1, g2, g3, upd_same, g5.append rb⟩) q2.2
    · exact q2.elim
  · exact q.elim
def unsnoc : List D → Option (List D × D)
  | [] => none
  | [d] => some ([], d)
  | d :: e :: ds => match unsnoc (e :: ds) with
    | some (es, x) => some (d :: es, x)
    | none => none
theorem unsnoc_snoc : ∀ (es : List D) (d : D), unsnoc (es ++ [d]) = some (es, d)
  | [], d => rfl
  | [e], d => rfl
  | e :: e2 :: es, d => by
    show (match unsnoc ((e2 :: es) ++ [d]) with
      | some (es, x) => some (e :: es, x)
      | none => none) = some (e :: e2 :: es, d)
    rw [unsnoc_snoc (e2 :: es) d]
theorem unsnoc_elim : ∀ {ds es : List D} {d : D}, unsnoc ds = some (es, d) → ds = es ++ [d]
  | [], _, _, h => by cases h
  | [x], _, _, h => by cases h; rfl
  | x :: y :: ds, es, d, h => by
    have h2 : (match unsnoc (y :: ds) with
      | some (es, z) => some (x :: es, z)
      | none => none) = some (es, d) := h
    split at h2
    · rename_i e
      cases h2
      rw [unsnoc_elim e] <;> rfl
    · cases h2
def yPop (i : Nat) : PTE := fun ε Q => match ε[i]? with
  | some (some (.o ds)) => opt (unsnoc ds) fun p => Q (.d p.2) (ε.set i (some (.o p.1)))
  | _ => False
theorem Reps.last {K : PySem.W.Frag} {H : Hp} {vs : List V} {es : List D} {d : D} (r : Reps K H vs (es ++ [d])) : ∃ v, vs[vs.length - 1]? = some v ∧ Rep K H v d ∧ Reps K H vs.dropLast es := by
  have hl := r.len
  rw [List.length_append] at hl
  have h1 : (es ++ [d])[vs.length - 1]? = some d := by
    have e : vs.length - 1 = es.length := by
      have : ([d] : List D).length = 1 := rfl
      omega
    rw [e]
    simp
  obtain ⟨v, h2, h3⟩ := r.get h1
  refine ⟨v, h2, h3, ?_⟩
  rw [List.dropLast_eq_take]
  have h4 := r.take (vs.length - 1)
  have e : (es ++ [d]).take (vs.length - 1) = es := by
    have e : vs.length - 1 = es.length := by
      have : ([d] : List D).length = 1 := rfl
      omega
    rw [e]
    simp
  rw [e] at h4
  exact h4
theorem ye_pop (i : Nat) {x : Str} {px pa pc : Pos} (hN : X.N[i]? = some x) (hv : Vis X.env.scope x) (hd : (x == ("__debug__" : Str)) = false := by decide) (hcd : (x == ("__classdict__" : Str)) = false := by decide)
    (hbase : attributeBase (.Name x px) "pop" X.env (eval (.Name x px) X.env) = eval (.Name x px) X.env := by rfl) (hline : (pa.endLine == pc.line) = true := by rfl) :
    YE X W Ξ (.Call (.Attribute (.Name x px) "pop" pa) [] [] pc) (yPop i) := by
  refine ⟨_, pe_bm0 PySem.F.plainAttrs_list PySem.F.slot_list_pop PySem.F.type_list_pop mt_pop (pe_var hN hv hd hcd) hbase hline, fun F Hs σ H ε Q' Q R L q k => ?_⟩
  unfold yPop at q
  split at q
  · rename_i ds e0
    obtain ⟨⟨es, d⟩, eu, q2⟩ := opt_elim q
    have eu := unsnoc_elim eu
    subst eu
    obtain ⟨p0, vs, h1, h2, h3, h4, h5⟩ := R.sl i _ e0
    obtain ⟨v, l1, l2, l3⟩ := h5.last
    refine ⟨_, h1, .inl ⟨rfl, _, SqL.of h4⟩, _, vs, v, rfl, rfl, h4, l1, ?_⟩
    exact k v _ Hs (.d d) _ (Evl.Ex.refl _) (R.change (s' := .o es) e0 rfl rfl h1 h2 h3 ⟨_, _, h1, h2, h3, upd_same, l3⟩) l2 q2
  · exact q.elim
def ysSetIx (i : Nat) (rj re : PTE) : PTS := fun Δ ε => re ε fun t ε1 => out ε1 t fun d ε2 => (match ε2[i]? with
  | some (some (.o _)) => rj ε2 fun t2 ε3 => res ε3 t2 (asI fun j => match ε3[i]? with
    | some (some (.o ds)) => opt (ixN ds.length j) fun n => Δ.nx (ε3.set i (some (.o (ds.set n d))))
    | _ => False)
  | _ => False)
theorem ys_setIx (i : Nat) {x : Str} {px ps : Pos} {j : Expr} {rj re : PTE} (hN : X.N[i]? = some x) (hv : Vis X.env.scope x) (hj : YE X W Ξ j rj) (he : YE X W Ξ e re) (hd : (x == ("__debug__" : Str)) = false := by decide) (hcd : (x == ("__classdict__" : Str)) = false := by decide)
    (ha : ∀ v, assign (.Subscript (.Name x px) j ps) X.env v = (do
      let ov ← holding [v] (eval (.Name x px) X.env)
      let iv ← holding [v, ov] (eval j X.env)
      standAt ps
      holding [v, ov, iv] (setItem ov iv v)
      release [v, ov, iv] []) := by intro _; rfl) (hs : swapsWithSole [.Subscript (.Name x px) j ps] e pos.line X.env = pure false := by rfl) (hw : swappedStores [.Subscript (.Name x px) j ps] e X.env = pure none := by rfl)
    (h1 : (assignEach [.Subscript (.Name x px) j ps] X.env).map (·.2) = [assign (.Subscript (.Name x px) j ps) X.env] := by rfl) :
    YS X W Ξ (.Assign [.Subscript (.Name x px) j ps] e pos) (ysSetIx i rj re) := by
  obtain ⟨t, p, k⟩ := he.ex
  obtain ⟨t2, p2, k2⟩ := hj.ex
  refine ⟨_, ps_asg p (pg_sub (pe_var hN hv hd hcd) p2 set_list ha) hs hw h1, fun F Hs σ H ε Δ Dd R L q kk => ?_⟩
  refine k F Hs σ H ε _ _ R L q fun v H1 Hs1 t1 ε1 e1 R1 p1 q1 => ?_
  obtain ⟨d, ε2, Hs2, e2, R2, rv, q2⟩ := R1.out p1 q1
  split at q2
  · rename_i ds0 e0
    obtain ⟨p0, vs0, g1, _⟩ := R2.sl i _ e0
    refine ⟨_, g1, ?_⟩
    refine k2 F Hs2 σ H1 ε2 _ _ R2 (L.mono (e1.trans e2)) q2 fun w H3 Hs3 t3 ε3 e3 R3 p3 q3 => ?_
    obtain ⟨dj, rj, q4⟩ := R3.res p3 q3
    cases dj with
    | int jj =>
      have q4 : (match ε3[i]? with
        | some (some (.o ds)) => opt (ixN ds.length jj) fun n => Δ.nx (ε3.set i (some (.o (ds.set n d))))
        | _ => False) := q4
      split at q4
      · rename_i ds ei
        obtain ⟨n, hn, q5⟩ := opt_elim q4
        obtain ⟨p3, vs, f1, f2, f3, f4, f5⟩ := R3.sl i _ ei
        rw [g1] at f1
        cases f1
        refine ⟨_, vs, jj, n, rfl, rj.int', f4, by rw [f5.len]; exact hn, ?_⟩
        exact kk.nx σ _ Hs3 _ ((e1.trans e2).trans e3) (R3.change (s' := .o (ds.set n d)) ei rfl rfl g1 f2 f3 ⟨_, _, g1, f2, f3, upd_same, f5.set (rv.mono e3) n⟩) q5
      · exact q4.elim
    | _ => exact False.elim q4
  · exact q2.elim

/-! ### raise -/
def ysRaise (c : Nat) (Ξ : Xi) : PTS := fun _ ε => Ξ c ε
theorem pmk_own0 {C : Addr} {bmB : List Value} {B newId initId : String} {x : Str} {p : Pos} (F : ExcBaseFacts B newId initId bmB) (q : PySem.W.excIn X.K C bmB newId = true) (gC : X.mg x = some (.ref C))
    (kC : PySem.W.keepIn X.K (.ref C) = true) (r : Raises X (.ref C)) (hg : Gl X x) (hdb : (x == ("__debug__" : Str)) = false := by decide) : PMk X (.Call (.Name x p) [] [] pos) (fun _ H Q => Q (.ref C) none H) := by
  intro pins s σ H Q I h
  refine wpAny_Call_Name_kw (ld_glob I hg gC ?_ hdb)
  refine PySem.W.callWith_K0 I.kIn kC ?_
  obtain ⟨bm, N, nm, qn, bs, hdct, sn, sub, ab, col, dd, k0, k1, k2, k3, k5, mN, hC, hN, hni, T⟩ := exc_obj I.kIn q
  refine wpAny_call_exc_subT F T hC hN hni (fun h' e hm => ?_) (by decide)
  exact mk_of I hm r h (I.hok.gone hm.new)
theorem ys_raise (c : Nat) {bmB : List Value} {B newId initId : String} {p p2 : Pos} (hc : X.calm = true) (tk : Takes X W) (F : ExcBaseFacts B newId initId bmB) (q : PySem.W.excIn X.K (exA X.K c) bmB newId = true) (gC : X.mg (exS c) = some (.ref (exA X.K c)))
    (kC : PySem.W.keepIn X.K (.ref (exA X.K c)) = true) (r : Raises X (.ref (exA X.K c))) {x : Str} (hx : exS c = x := by rfl) (hg : Gl X x) (hdb : (x == ("__debug__" : Str)) = false := by decide) : YS X W Ξ (.Raise (some (.Call (.Name x p) [] [] p2)) none pos) (ysRaise c Ξ) := by
  subst hx
  exact
  ⟨_, ps_raise hc tk (pmk_own0 F q gC kC r hg hdb), fun F Hs σ H ε Δ Dd R L q k => L c σ H Hs ε q (Evl.Ex.refl _) R⟩
end

/-! ### a def -/
def startE (N : List Str) (ds : List D) : PEnv := ds.map (fun d => some (.v d)) ++ List.replicate (N.length - ds.length) none
def foreign (Hs H : Hp) : Hp := fun p => match Hs p with
  | none => H p
  | some _ => none
theorem foreign_some {Hs H : Hp} {p : Addr} {o : HO} (h : foreign Hs H p = some o) : H p = some o ∧ Hs p = none := by
  unfold foreign at h
  cases e : Hs p with
  | none => rw [e] at h; exact ⟨h, rfl⟩
  | some u => rw [e] at h; cases h
theorem foreign_of {Hs H : Hp} {p : Addr} {o : HO} (h : H p = some o) (hn : Hs p = none) : foreign Hs H p = some o := by
  unfold foreign
  rw [hn]
  exact h
theorem RelS.keeps {K : PySem.W.Frag} {Hs H Hs' H' : Hp} {σ' : St} {ε' : PEnv} (R : RelS K (foreign Hs H) Hs' σ' H' ε') (e : Ex Hs Hs') : Keeps Hs H Hs' H' := ⟨e, R.ex, fun p o h hn => R.fr p o (foreign_of h hn)⟩
theorem start_get {N : List Str} {ds : List D} {i : Nat} {s : S} (h : (startE N ds)[i]? = some (some s)) : ∃ d, ds[i]? = some d ∧ s = .v d := by
  unfold startE at h
  by_cases hi : i < ds.length
  · rw [List.getElem?_append_left (by rw [List.length_map]; exact hi), List.getElem?_map] at h
    cases e : ds[i]? with
    | none => rw [e] at h; cases h
    | some d =>
      rw [e] at h
      refine ⟨d, rfl, ?_⟩
      exact (Option.some.inj (Option.some.inj h)).symm
  · rw [List.getElem?_append_right (by rw [List.length_map]; omega), List.getElem?_replicate] at h
    split at h <;> cases h
theorem start_at {N : List Str} {vs : List V} {i : Nat} {v : V} (h : vs[i]? = some v) : (L2.start N vs)[i]? = some (some v) := by
  unfold L2.start
  have hi : i < vs.length := (List.getElem?_eq_some_iff.mp h).1
  rw [List.getElem?_append_left (by rw [List.length_map]; exact hi), List.getElem?_map, h] <;> rfl
theorem rel_start {K : PySem.W.Frag} {Hs H : Hp} {N : List Str} {vs : List V} {ds : List D} (e : Ex Hs H) (r : Reps K Hs vs ds) : RelS K (foreign Hs H) Hs (L2.start N vs) H (startE N ds) := by
  refine ⟨e, fun p o h => foreign_some h, ?_, fun i s h => ?_, fun i j s t hn h1 h2 h3 h4 => ?_⟩
  · unfold L2.start startE
    rw [List.length_append, List.length_append, List.length_map, List.length_map, List.length_replicate, List.length_replicate, r.len]
  · obtain ⟨d, hd, rfl⟩ := start_get h
    obtain ⟨v, hv, rv⟩ := r.get hd
    exact ⟨v, start_at hv, rv⟩
  · obtain ⟨d, hd, rfl⟩ := start_get h1
    cases h3
section
variable {P : Program} {w : World} {K : PySem.W.Frag} {mg : Str → Option Value} {base : Heap} {x qual : Str} {params : Arguments} {body : List Stmt} {scope : Scope} {dvs : List V} {kws : List (Str × V)} {f : Addr} {fd : FuncData} {N ps : List Str} {k : Nat} {φ : Spec}
abbrev cxY (P : Program) (w : World) (K : PySem.W.Frag) (mg : Str → Option Value) (base : Heap) (N : List Str) (qual : Str) (scope : Scope) (f : Addr) (cdv : Value) (A : Around) (outer : List Env) (s : Shared) (H : Hp) (E : XK) : Cx := cxOf (L2.CX P w) P w K mg base N qual scope f cdv A outer s H E
abbrev wY (E : XK) : WX := fun cls d _ H => E cls d H
theorem fun_ok (F : FunD K x qual params body scope dvs kws f fd) (S : FnScope N ps scope) (len : ∀ ds Q E, φ ds Q E → ds.length = ps.length) (r : Xi → PTS)
    (hbody : ∀ (cdv : Value) (A : Around) (outer : List Env) (s : Shared) (H : Hp) (E : XK) (Ξ : Xi), Room k (A.deeper (envOfC qual scope s.heap.objs.size f cdv)) → YSs (cxY P w K mg base N qual scope f cdv A outer s H E) (wY E) Ξ body (r Ξ))
    (vc : ∀ (ds : List D) (Q' : D → Prop) (E' : Nat → Prop), φ ds Q' E' → r (fun c _ => E' c) { nx := fun _ => Q' .non, rt := fun d _ => Q' d } (startE N ds)) : FnOk P w K mg base (L2.CX P w) (k + 1) f fd ps (pSp K φ) := by
  refine F.ok S (fun vs H Q E h => ?_) (fun cdv A outer s H vs Q E hr h => ?_)
  · obtain ⟨Hs, ds, Q', E', _, rs, h, _⟩ := h
    rw [rs.len]
    exact len ds Q' E' h
  · obtain ⟨Hs, ds, Q', E', ex, rs, h, hq, he⟩ := h
    obtain ⟨t, p, kk⟩ := (hbody cdv A outer s H E (fun c _ => E' c) hr).ex
    refine ⟨t, p, kk (foreign Hs H) Hs _ H _ _ _ (rel_start ex rs) (fun c σ' H' Hs' ε' hc e' R' => he c hc H' Hs' (R'.keeps e')) (vc ds Q' E' h) ⟨fun σ' H' Hs' ε' e' R' q' => ?_, fun v σ' H' Hs' d ε' e' R' rv q' => ?_, fun _ _ _ _ _ _ q => q.elim, fun _ _ _ _ _ _ q => q.elim⟩⟩
    · exact hq .non q' .non H' Hs' (R'.keeps e') .non
    · exact hq d q' v H' Hs' (R'.keeps e') rv
end
end PL

set_option Elab.async false
set_option linter.all false
set_option autoImplicit false
set_option maxRecDepth 100000
set_option maxHeartbeats 2000000
/-! try, a pair stored, the pool opened in a def, the law's end. -/
namespace PL
open PySem PySem.Spec PyProof.Rows L2
open Evl (Ex)

/-! ### try: .. except PageError as e: .. -/
/-- is class c one that an except clause of class t takes (0: the base of all) -/
def exSub (c t : Nat) : Bool := c == t || t == 0
/-- what the written part says of the classes in cs -/
structure ExK (K : PySem.W.Frag) (cs : List Nat) : Prop where
  exm : ∀ c ∈ cs, PySem.W.exmOne K (.ref (exA K c)) (.ref (exA K 0)) = some true
  kit : ∀ c ∈ cs, ∀ t ∈ cs, PySem.W.kitOne K (.ref (exA K c)) (.ref (exA K t)) = some (exSub c t)
  exc : ∀ c ∈ cs, ExcC K (exA K c)
section
variable {X : Cx} {W : WX} {Ξ : Xi}
/-- the suite sees the error's class as a datum -/
def excD (a : Addr) : D := .vl (.ref a)
def ysTry (cs : List Nat) (i : Nat) (rb : Xi → PTS) (rs : Addr → Nat → PTS) : PTS := fun Δ ε =>
  rb (fun c ε' => c ∈ cs ∧ ∀ a : Addr, rs a c { nx := fun ε2 => Δ.nx (ε2.set i none), rt := fun d ε2 => Δ.rt d (ε2.set i none), bk := fun ε2 => Δ.bk (ε2.set i none), ct := fun ε2 => Δ.ct (ε2.set i none) } (ε'.set i (some (.v (excD a))))) Δ ε
theorem RelS.drop {K : PySem.W.Frag} {F Hs H : Hp} {σ : St} {ε : PEnv} (R : RelS K F Hs σ H ε) (i : Nat) : RelS K F Hs (σ.set i none) H (ε.set i none) := by
  refine ⟨R.ex, R.fr, by rw [List.length_set, List.length_set]; exact R.len, fun j t q => ?_, fun j k t u hn h1 h2 h3 h4 => ?_⟩
  · have hj : i ≠ j := by
      rintro rfl
      by_cases hi : i < ε.length
      · rw [List.getElem?_set_self hi] at q; cases q
      · rw [List.getElem?_eq_none (by rw [List.length_set]; omega)] at q; cases q
    rw [List.getElem?_set_ne hj] at q
    exact (R.sl j t q).at (List.getElem?_set_ne hj)
  · have ne : ∀ (j : Nat) (t : S), (ε.set i none)[j]? = some (some t) → i ≠ j := by
      rintro j t q rfl
      by_cases hi : i < ε.length
      · rw [List.getElem?_set_self hi] at q; cases q
      · rw [List.getElem?_eq_none (by rw [List.length_set]; omega)] at q; cases q
    have nj := ne j t h1
    have nk := ne k u h2
    rw [List.getElem?_set_ne nj] at h1 ⊢
    rw [List.getElem?_set_ne nk] at h2 ⊢
    exact R.ds j k t u hn h1 h2 h3 h4
theorem ys_try {cs : List Nat} (i : Nat) {n x : Str} {body suite : List Stmt} {b₀ : Stmt} {np pos pos' : Pos} {rb : Xi → PTS} {rs : Addr → Nat → PTS} (xk : ExK X.K cs) (hs : X.stack = X.env :: X.outer) (hf : X.env.frame = some X.env.locals) (hN : X.N.Nodup) (hi : X.N[i]? = some n)
    (hln : X.env.kindOf n = some .local) (hx : exS 0 = x) (hc : Names X x (.ref (exA X.K 0))) (tk : Takes X W)
    (hb : ∀ (W : WX) (Ξ : Xi) (pn : List (Addr × Obj)) (xe : Value → Shared → Prop), Takes (X.tr pn xe) W → PassesOwn (model X.prog X.w) X.A X.env xe → YSs (X.tr pn xe) W Ξ body (rb Ξ))
    (hsu : ∀ (c : Nat) (a : Addr) (oe : Obj) (pn : List (Addr × Obj)), c ∈ cs → ExcC X.K (exA X.K c) → Zc (.ref (exA X.K c)) none oe → (∃ vs, oe.data = .fields vs) → YSs (X.suite a ((a, oe) :: pn)) W0 Ξ0 (b₀ :: suite) (rs a c)) :
    YS X W Ξ (.Try body [.ExceptHandler (some (.Name x np)) (some n) (b₀ :: suite) pos'] [] [] pos) (ysTry cs i rb rs) := by
  subst hx
  let ts : Addr → Value → Option Addr → TS := fun a cls d Dd σ H => ∃ c, c ∈ cs ∧ cls = .ref (exA X.K c) ∧ d = none ∧ cSs X.K W0 Ξ0 (rs a c) Dd σ H
  have hsu' : ∀ (a : Addr) (oe : Obj) (cls : Value) (d : Option Addr) (pn : List (Addr × Obj)), Zc cls d oe → (∃ vs, oe.data = .fields vs) → PSs (X.suite a ((a, oe) :: pn)) (b₀ :: suite) (ts a cls d) := by
    intro a oe cls d pn hz hfv
    refine ⟨fun pins s σ H Dd I ⟨c, hc1, e1, e2, q⟩ => ?_⟩
    subst e1 e2
    exact (hsu c a oe pn hc1 (xk.exc c hc1) hz hfv).canon.run pins s σ H Dd I q
  -- the body, for any wish
  let tb : WX → TS := fun Wb Dd σ H => ∃ (Ξb : Xi), cSs X.K Wb Ξb (rb Ξb) Dd σ H
  have hb' : ∀ (W : WX) (pn : List (Addr × Obj)) (xe : Value → Shared → Prop), Takes (X.tr pn xe) W → PassesOwn (model X.prog X.w) X.A X.env xe → PSs (X.tr pn xe) body (tb W) := by
    intro W pn xe tk po
    exact ⟨fun pins s σ H Dd I ⟨Ξb, q⟩ => (hb W Ξb pn xe tk po).canon.run pins s σ H Dd I q⟩
  refine ⟨_, ps_try_as (ts := ts) (tb := tb) hs hf hN hi hln hc tk hb' hsu', fun F Hs σ H ε Δ Dd R L q kk => ?_⟩
  refine ⟨_, F, Hs, ε, Δ, R, ?_, q, kk⟩
  intro c σ' H' Hs' ε' hq e' R'
  obtain ⟨hc1, hq⟩ := hq
  refine ⟨true, xk.exm c hc1, fun _ a na => ?_, fun h => Bool.noConfusion h⟩
  have R2 : RelS X.K F Hs' (σ'.set i (some (.ref a))) H' (ε'.set i (some (.v (excD a)))) := R'.store (.vl (.ref a)) i
  refine ⟨c, hc1, rfl, rfl, F, Hs', _, _, R2, Lk.none, hq a, ⟨fun σ3 H3 Hs3 ε3 e3 R3 q3 => ?_, fun v σ3 H3 Hs3 d ε3 e3 R3 rv q3 => ?_, fun σ3 H3 Hs3 ε3 e3 R3 q3 => ?_, fun σ3 H3 Hs3 ε3 e3 R3 q3 => ?_⟩⟩
  · exact kk.nx _ H3 Hs3 _ (e'.trans e3) (R3.drop i) q3
  · exact kk.rt v _ H3 Hs3 d _ (e'.trans e3) (R3.drop i) rv q3
  · exact kk.bk _ H3 Hs3 _ (e'.trans e3) (R3.drop i) q3
  · exact kk.ct _ H3 Hs3 _ (e'.trans e3) (R3.drop i) q3
/-- isinstance(e, C), e what the suite holds -/
def yIsE (i : Nat) (a : Addr) (c t : Nat) : PTE := fun ε Q => ε[i]? = some (some (.v (excD a))) ∧ Q (.d (.bl (exSub c t))) ε
theorem ye_isE {a : Addr} {oe : Obj} {pn : List (Addr × Obj)} {cs : List Nat} (c t i : Nat) {n x : Str} {p p1 p2 pos : Pos} (xk : ExK X.K cs) (hc1 : c ∈ cs) (ht1 : t ∈ cs) (hz : Zc (.ref (exA X.K c)) none oe) (hf : ∃ vs, oe.data = .fields vs) (hg : Gl X "isinstance") (hm : X.mg "isinstance" = none)
    (hN : X.N[i]? = some n) (hv : Vis X.env.scope n) (hx : exS t = x) (hgx : Gl X x) (hmx : X.mg x = some (.ref (exA X.K t))) (hd : (n == ("__debug__" : Str)) = false := by decide) (hcd : (n == ("__classdict__" : Str)) = false := by decide) (hdx : (x == ("__debug__" : Str)) = false := by decide)
    (hst : starEach [.Name n p1, .Name x p2] X.env = (false, eval (.Name n p1) X.env) :: starEach [.Name x p2] X.env := by rfl) (hs2 : starEach [.Name x p2] X.env = (false, eval (.Name x p2) X.env) :: starEach [] X.env := by rfl) (hpl : (backTo pos (starEach [.Name x p2] X.env)).any (·.1) = false := by rfl) :
    YE (X.suite a ((a, oe) :: pn)) W Ξ (.Call (.Name "isinstance" p) [.Name n p1, .Name x p2] [] pos) (yIsE i a c t) := by
  subst hx
  have C := xk.exc c hc1
  refine ⟨_, pe_callB (X := X.suite a ((a, oe) :: pn)) (call_isE (X := X) C hz hf) hg hm PyProof.Rows.boot_isinstance (pa_cons (X := X.suite a ((a, oe) :: pn)) (pe_var (X := X.suite a ((a, oe) :: pn)) hN hv hd hcd) (pa_cons (X := X.suite a ((a, oe) :: pn)) (pe_glob (X := X.suite a ((a, oe) :: pn)) (v := .ref (exA X.K t)) hgx hmx rfl hdx) pa_nil hs2) hst) (by decide) (by decide) hst hpl, fun F Hs σ H ε Q' Q R L q k => ?_⟩
  obtain ⟨e0, q⟩ := q
  obtain ⟨v, h1, h2⟩ := R.sl i _ e0
  cases h2
  refine ⟨_, h1, ?_⟩
  exact ⟨.ref (exA X.K t), .ref (exA X.K t), exSub c t, rfl, fun u r => r, xk.kit c hc1 t ht1, k (.bl _) H Hs (.d (.bl _)) ε (Evl.Ex.refl _) R (.bl _) q⟩
end
end PL

set_option Elab.async false
set_option linter.all false
set_option autoImplicit false
set_option maxRecDepth 100000
set_option maxHeartbeats 2000000
/-! The stream of numbers, made, drawn from; a pair stored; the law's end. -/
namespace PL
open PySem PySem.Spec PyProof.Rows L2
open Evl (Ex)

/-! ### one tracked object told otherwise -/
section
variable {P : Program} {w : World} {H : Hp} {h h' : Heap} {p : Addr} {o o' : HO}
theorem retell_ok (ok : HOk P w H h) (hp : H p = some o) (n1 : ∀ a, o ≠ .own a) (n2 : ∀ xs, o ≠ .tup xs) (new : ObjOk P w (upd H p o') h p o') : HOk P w (upd H p o') h := fun b u e => by
  by_cases hb : b = p
  · subst hb
    rw [upd_same] at e
    cases e
    exact new
  · rw [upd_ne hb] at e
    have ne1 : ∀ c a, H c = some (.own a) → c ≠ p := fun c a q z => by
      subst z
      rw [hp] at q
      exact n1 a (Option.some.inj q)
    have ne2 : ∀ c xs, H c = some (.tup xs) → c ≠ p := fun c xs q z => by
      subst z
      rw [hp] at q
      exact n2 xs (Option.some.inj q)
    exact (ok b u e).stay (fun c v _ q => q) (fun c q => by rw [upd_ne (ne1 c b q)]; exact q) fun c xs q => by rw [upd_ne (ne2 c xs q)]; exact q
end
theorem pool_obj {P : Program} {w : World} {H : Hp} {h : Heap} {p : Addr} {ns : List Int} (x : ObjOk P w H h p (.lst (ns.map V.int))) (ok : PoolOk ns) (H' : Hp) : ObjOk P w H' h p (.ext (PoolAt p)) := by
  obtain ⟨z, its, n, r, e⟩ := x
  refine ⟨⟨its, n, ns, e, r, ok⟩, ⟨_, e⟩, fun h1 h2 ⟨its, n, ns, e, r, ok⟩ k => ⟨its, n, ns, k _ e, r, ok⟩⟩
theorem obj_pool {P : Program} {w : World} {H : Hp} {h : Heap} {p : Addr} (x : ObjOk P w H h p (.ext (PoolAt p))) (H' : Hp) : ∃ ns, PoolOk ns ∧ ObjOk P w H' h p (.lst (ns.map V.int)) := by
  obtain ⟨⟨its, n, ns, e, r, ok⟩, _⟩ := x
  refine ⟨ns, ok, ?_, its, n, r, e⟩
  rw [List.length_map, sizeLine_eq]
  exact Nat.le_trans ok.2.1 (by decide)
/-! ### drawing -/
/-- a draw, with the list in sight -/
def spPick : Sp := fun vs H Q _ => ∃ (p : Addr) (n : Int) (ns : List Int), vs = [.ref p, .int n] ∧ H p = some (.lst (ns.map V.int)) ∧ PoolOk ns ∧ 0 < n ∧
  ∀ (r : Int) (ns' : List Int), 0 ≤ r → r < n → PoolOk ns' → Q (.int r) (upd H p (.lst (ns'.map V.int)))
def φPick : Spec
  | [.pool, .int n], Q, _ => gd (0 < n) (∀ r : Int, 0 ≤ r → r < n → Q (.int r))
  | _, _, _ => False
theorem φPick_inv {ds : List D} {Q : D → Prop} {E : Nat → Prop} (h : φPick ds Q E) : ∃ n, ds = [.pool, .int n] ∧ 0 < n ∧ ∀ r : Int, 0 ≤ r → r < n → Q (.int r) := by
  unfold φPick at h
  split at h
  · exact ⟨_, rfl, gd_elim h⟩
  · exact h.elim
theorem cx_never {P : Program} {w : World} {outer : List Env} {H : Hp} {s s' : Shared} {u : Value} (h : L2.CX P w outer H s (fun _ _ _ => False) u s') : False := by
  obtain ⟨_, _, _, _, _, _, _, _, _, _, _, _, z⟩ := h
  exact z
section
variable {P : Program} {w : World} {K : PySem.W.Frag} {mg : Str → Option Value} {base : Heap} {k : Nat} {f : Addr} {fd : FuncData} {ps : List Str}
theorem env0_retell {A : Around} {outer : List Env} {s : Shared} {H : Hp} {p : Addr} {o o' : HO} (e : Env0 P w K mg base A outer s H) (hp : H p = some o) (n1 : ∀ a, o ≠ .own a) (n2 : ∀ xs, o ≠ .tup xs) (new : ObjOk P w (upd H p o') s.heap p o') : Env0 P w K mg base A outer s (upd H p o') :=
  
  have h1 : ∀ b, H b = none → upd H p o' b = none := fun b q => by
    have ne : b ≠ p := fun z => by
      subst z
      rw [q] at hp
      cases hp
    rw [upd_ne ne]
    exact q
  ⟨e.frames, e.mod, fun b u q => ⟨(e.bs b u q).1, h1 b (e.bs b u q).2⟩, e.bsz, e.funs, fun b hb => h1 b (e.frf b hb), retell_ok e.hok hp n1 n2 new, e.bare⟩
theorem pick_close (F : FnOk P w K mg base (L2.CX P w) k f fd ps spPick) : FnOk P w K mg base (L2.CX P w) k f fd ps (pSp K φPick) := by
  refine ⟨fun vs H Q E h => ?_, fun A outer s H args us vs Q E hr e0 hb hv h => ?_⟩
  · obtain ⟨Hs, ds, Q', E', ex, rs, h, _⟩ := h
    obtain ⟨n, rfl, h0n, hn⟩ := φPick_inv h
    · cases rs with
      | cons r1 r2 =>
        cases r2 with
        | cons r2 r3 =>
          cases r3
          cases r1
          cases r2
          exact F.len [.ref _, .int _] (upd H _ (.lst ([1, 1].map V.int))) (fun _ _ => True) (fun _ _ _ => False) ⟨_, _, [1, 1], rfl, upd_same, ⟨by decide, by decide, 1, rfl, by decide, by decide⟩, h0n, fun _ _ _ _ _ => trivial⟩
  · obtain ⟨Hs, ds, Q', E', ex, rs, h, hq, _⟩ := h
    obtain ⟨n, rfl, h0n, hn⟩ := φPick_inv h
    · cases rs with
      | cons r1 r2 =>
        cases r2 with
        | cons r2 r3 =>
          cases r3
          cases r1 with
          | pool hsp =>
            rename_i p
            cases r2
            have hp : H p = some (.ext (PoolAt p)) := ex _ _ hsp
            obtain ⟨ns, ok, ob⟩ := obj_pool (e0.hok p _ hp) (upd H p (.lst ([] : List V)))
            obtain ⟨ns, ok, ob⟩ := obj_pool (e0.hok p _ hp) (upd H p (.lst (ns.map V.int)))
            have ob2 : ObjOk P w (upd H p (.lst (ns.map V.int))) s.heap p (.lst (ns.map V.int)) := ob
            have e1 := env0_retell (o' := .lst (ns.map V.int)) e0 hp (fun a z => by cases z) (fun a z => by cases z) ob2
            refine codeAny_mono (F.run A outer s (upd H p (.lst (ns.map V.int))) args us [.ref p, .int n] (fun v H' => ∃ (r : Int) (ns' : List Int), v = .int r ∧ 0 ≤ r ∧ r < n ∧ PoolOk ns' ∧ H' = upd H p (.lst (ns'.map V.int))) (fun _ _ _ => False) hr e1 hb hv
              ⟨p, n, ns, rfl, upd_same, ok, h0n, fun r ns' h0 h1 ok' => ⟨r, ns', rfl, h0, h1, ok', upd_upd⟩⟩) fun rr s' hrr => ?_
            cases rr with
            | error e => exact (cx_never hrr).elim
            | ok fl =>
              cases fl with
              | ret u =>
                obtain ⟨v, H', os, bare, un, hok, rv, r, ns', rfl, h0, h1, ok', rfl⟩ := hrr
                have hpe : upd H p (.ext (PoolAt p)) = H := by
                  funext b
                  by_cases hb : b = p
                  · subst hb; rw [upd_same, hp]
                  · rw [upd_ne hb]
                have hok2 : HOk P w H s'.heap := by
                  have z := retell_ok (o' := .ext (PoolAt p)) hok (p := p) upd_same (fun a z => by cases z) (fun a z => by cases z) (pool_obj (hok p _ upd_same) ok' _)
                  rw [upd_upd, hpe] at z
                  exact z
                refine ⟨.int r, H, os, bare, ⟨fun b ob q n hf hx => un.keep b ob q ?_ hf hx, fun b ob q n hf hx => un.slot b ob q ?_ hf hx, fun b ob q n hx => n, un.there, fun b xs q => q, fun b ob u q => q, fun b ps q => ⟨#[], by rw [q]; simp⟩⟩, hok2, rv, ?_⟩
                · rw [upd_ne]
                  · exact n
                  · intro z; subst z; rw [hp] at n; cases n
                · rw [upd_ne]
                  · exact n
                  · intro z; subst z; rw [hp] at n; cases n
                · exact hq (.int r) (hn r h0 h1) (.int r) H Hs ⟨Evl.Ex.refl _, ex, fun b o q1 q2 => ⟨q1, q2⟩⟩ (.int r)
              | next => exact False.elim hrr
              | brk => exact False.elim hrr
              | cont => exact False.elim hrr
/-- the stream is made: a new list becomes the stream -/
def φList : Spec
  | [.frl ds], Q, _ => ∃ xs : List Int, ds = xs.map D.int ∧ xs.length ≤ 63 ∧ ∀ ns : List Int, PoolOk ns → Q (.lst (ns.map D.int))
  | _, _, _ => False
def φStream : Spec
  | [.frl ds], Q, _ => (∃ xs : List Int, ds = xs.map D.int ∧ xs.length ≤ 63) ∧ Q .pool
  | _, _, _ => False
/-- what is locked in H alone -/
def locked (H : Hp) : Hp := fun b => match H b with
  | some (.frz o u) => some (.frz o u)
  | _ => none
theorem locked_ex {H : Hp} : Ex (locked H) H := fun b o e => by
  unfold locked at e
  split at e
  · rename_i o' u h
    rw [h]
    exact e
  · cases e
theorem stream_close (F : FnOk P w K mg base (L2.CX P w) k f fd ps (pSp K φList)) : FnOk P w K mg base (L2.CX P w) k f fd ps (pSp K φStream) := by
  have conv : ∀ {vs H Q E}, pSp K φStream vs H Q E → pSp K φList vs H (fun v H' => ∃ (p : Addr) (ns : List Int) (Hs' : Hp), v = .ref p ∧ PoolOk ns ∧ Keeps (locked H) H Hs' H' ∧ Hs' p = some (.lst (ns.map V.int))) (fun _ _ _ => False) := by
    intro vs H Q E h
    obtain ⟨Hs, ds, Q', E', ex, rs, h, hq, he⟩ := h
    unfold φStream at h
    split at h
    · obtain ⟨⟨xs, rfl, hx⟩, h⟩ := h
      cases rs with
      | cons r1 r2 =>
        cases r2
        cases r1 with
        | frl hs rr =>
          rename_i a ws
          have er := rr.inv_ints
          subst er
          have hs2 : FrL K (locked H) a (xs.map V.int) := by
            rcases hs with ⟨o, hs⟩ | hs
            · refine .inl ⟨o, ?_⟩
              unfold locked
              rw [ex _ _ hs]
            · exact .inr hs
          refine ⟨locked H, _, fun d => ∃ ns, PoolOk ns ∧ d = .lst (ns.map D.int), fun _ => False, locked_ex, .cons (.frl hs2 (Reps.ints xs)) .nil, ⟨xs, rfl, hx, fun ns ok => ⟨ns, ok, rfl⟩⟩, fun d ⟨ns, ok, e⟩ v H' Hs' kp rv => ?_, fun _ z => z.elim⟩
          subst e
          cases rv with
          | lst hp rr2 =>
            have e2 := rr2.inv_ints
            subst e2
            exact ⟨_, ns, Hs', rfl, ok, kp, hp⟩
    · exact h.elim
  refine ⟨fun vs H Q E h => F.len _ _ _ _ (conv h), fun A outer s H args us vs Q E hr e0 hb hv h => ?_⟩
  refine codeAny_mono (F.run A outer s H args us vs _ (fun _ _ _ => False) hr e0 hb hv (conv h)) fun rr s' hrr => ?_
  obtain ⟨Hs, ds, Q', E', ex, rs, h, hq, he⟩ := h
  unfold φStream at h
  split at h
  · obtain ⟨_, h⟩ := h
    cases rr with
    | error e => exact (cx_never hrr).elim
    | ok fl =>
      cases fl with
      | ret u =>
        obtain ⟨v, H', os, bare, un, hok, rv, p, ns, Hs', rfl, ok, kp, hp⟩ := hrr
        have hp' : H' p = some (.lst (ns.map V.int)) := kp.2.1 _ _ hp
        have lp : locked H p = none := by
          cases e : locked H p with
          | none => rfl
          | some o =>
            have e2 := kp.1 _ _ e
            rw [hp] at e2
            unfold locked at e
            split at e
            · cases e
              cases e2
            · cases e
        have hH : H p = none := by
          cases e : H p with
          | none => rfl
          | some o =>
            have e2 := (kp.2.2 p o e lp).2
            rw [hp] at e2
            cases e2
        have hh : s.heap.get? p = none := by
          cases e : s.heap.get? p with
          | none => rfl
          | some o =>
            have e2 := un.free p o e hH (by simp)
            rw [hp'] at e2
            cases e2
        have old : ∀ b o, H b = some o → H' b = some o := fun b o q => by
          cases e : locked H b with
          | none => exact (kp.2.2 b o q e).1
          | some o' =>
            have q2 := locked_ex b o' e
            rw [q] at q2
            cases q2
            exact kp.2.1 _ _ (kp.1 _ _ e)
        have nep : ∀ b, H b ≠ none → b ≠ p := fun b q z => by
          subst z
          exact q hH
        have hok2 : HOk P w (upd H' p (.ext (PoolAt p))) s'.heap := retell_ok hok hp' (fun a z => by cases z) (fun a z => by cases z) (pool_obj (hok p _ hp') ok _)
        refine ⟨.ref p, upd H' p (.ext (PoolAt p)), os, bare, ⟨un.keep, un.slot, fun b ob q n hx => ?_, un.there, fun b xs q => ?_, fun b ob u q => ?_, fun b ps q => ?_⟩, hok2, rv, ?_⟩
        · have ne : b ≠ p := by
            intro z
            subst z
            rw [hh] at q
            cases q
          rw [upd_ne ne]
          exact un.free b ob q n hx
        · rw [upd_ne (nep b (by rw [q]; simp))]
          exact un.tups b xs q
        · rw [upd_ne (nep b (by rw [q]; simp))]
          exact un.frzs b ob u q
        · rw [upd_ne (nep b (by rw [q]; simp))]
          exact un.tbls b ps q
        · have hsp : Hs p = none := Evl.fresh_back ex hH
          refine hq .pool h (.ref p) _ (upd Hs p (.ext (PoolAt p))) ⟨ex_upd hsp, fun b o q => ?_, fun b o q1 q2 => ?_⟩ (.pool upd_same)
          · by_cases hb : b = p
            · subst hb
              rw [upd_same] at q ⊢
              exact q
            · rw [upd_ne hb] at q ⊢
              exact old b o (ex b o q)
          · have ne := nep b (by rw [q1]; simp)
            rw [upd_ne ne, upd_ne ne]
            exact ⟨old b o q1, q2⟩
      | next => exact False.elim hrr
      | brk => exact False.elim hrr
      | cont => exact False.elim hrr
  · exact h.elim
/-- the law's promise, as the head asks it -/
def φLaw : Spec
  | [.frl ds], Q, _ => ∃ xs : List Int, ds = xs.map D.int ∧ xs.length ≤ 63 ∧ Q (.bl true)
  | _, _, _ => False
theorem law_sp {H : Hp} {a : Addr} {ns : List Int} (hl : ns.length ≤ 63) (ho : L2.Only H) (hs : SqL K H a (ns.map V.int)) : pSp K φLaw [.ref a] H (fun v _ => v = .bl true) (fun _ _ _ => False) := by
  have hs2 : FrL K H a (ns.map V.int) := by
    rcases hs with (hs | ⟨o, hs⟩) | hs
    · rcases ho a with h | ⟨o, xs, h⟩
      · rw [hs] at h; cases h
      · rw [hs] at h; cases h
    · exact .inl ⟨o, hs⟩
    · exact .inr hs
  refine ⟨H, [.frl (ns.map D.int)], fun d => d = .bl true, fun _ => False, Evl.Ex.refl _, .cons (.frl hs2 (Reps.ints ns)) .nil, ⟨ns, rfl, hl, rfl⟩, fun d e v H' Hs' kp rv => ?_, fun _ z => z.elim⟩
  subst e
  cases rv
  rfl
end
end PL

set_option Elab.async false
set_option linter.all false
set_option autoImplicit false
set_option maxRecDepth 100000
set_option maxHeartbeats 2000000
/-! a, b = x, y -/
namespace PL
open PySem PySem.Spec PyProof.Rows L2
open Evl (Ex)
/-- what a name is to hold, on the way: a datum, or a new list that is nobody's yet -/
def Pend (K : PySem.W.Frag) (F Hs : Hp) (σ : St) (H : Hp) (ε : PEnv) (v : V) : S → Prop
  | .v d => Rep K Hs v d
  | .o ds => ∃ p vs, v = .ref p ∧ H p = some (.lst vs) ∧ Hs p = none ∧ F p = none ∧ Nobody σ ε p ∧ Reps K Hs vs ds
  | .od _ => False
abbrev PTX := PEnv → (S → PEnv → Prop) → Prop
structure YX (X : Cx) (W : WX) (Ξ : Xi) (e : Expr) (r : PTX) : Prop where
  ex : ∃ t, PE X e t ∧ ∀ (F Hs : Hp) (σ : St) (H : Hp) (ε : PEnv) (Q' : S → PEnv → Prop) (Q : VK), RelS X.K F Hs σ H ε → Lk X.K F Hs W Ξ → r ε Q' →
    (∀ (v : V) (H' Hs' : Hp) (s : S) (ε' : PEnv), Ex Hs Hs' → RelS X.K F Hs' σ H' ε' → Pend X.K F Hs' σ H' ε' v s → Q' s ε' → Q v H') → t σ H Q
section
variable {X : Cx} {W : WX} {Ξ : Xi} {e : Expr} {pos : Pos}
def yxE (r : PTE) : PTX := fun ε Q => r ε fun t ε1 => out ε1 t fun d ε2 => Q (.v d) ε2
def yxN (r : PTN) : PTX := fun ε Q => r ε fun ds ε1 => Q (.o ds) ε1
theorem yx_e {r : PTE} (h : YE X W Ξ e r) : YX X W Ξ e (yxE r) := by
  obtain ⟨t, p, k⟩ := h.ex
  refine ⟨t, p, fun F Hs σ H ε Q' Q R L q kk => k F Hs σ H ε _ _ R L q fun v H1 Hs1 t1 ε1 e1 R1 p1 q1 => ?_⟩
  obtain ⟨d, ε2, Hs2, e2, R2, rv, q2⟩ := R1.out p1 q1
  exact kk v H1 Hs2 (.v d) ε2 (e1.trans e2) R2 rv q2
theorem yx_n {r : PTN} (h : YN X W Ξ e r) : YX X W Ξ e (yxN r) := by
  obtain ⟨t, p, k⟩ := h.ex
  exact ⟨t, p, fun F Hs σ H ε Q' Q R L q kk => k F Hs σ H ε _ _ R L q fun p H' Hs' vs ds ε' e R' g1 g2 g3 g4 rs q' => kk (.ref p) H' Hs' (.o ds) ε' e R' ⟨p, vs, rfl, g1, g2, g3, g4, rs⟩ q'⟩
theorem pend_store {K : PySem.W.Frag} {F Hs H : Hp} {σ : St} {ε : PEnv} {v : V} {s : S} (R : RelS K F Hs σ H ε) (h : Pend K F Hs σ H ε v s) (i : Nat) : RelS K F Hs (σ.set i (some v)) H (ε.set i (some s)) := by
  cases s with
  | v d => exact R.store h i
  | o ds =>
    obtain ⟨p, vs, rfl, g1, g2, g3, g4, rs⟩ := h
    exact storeO_of R i g1 g2 g3 g4 rs
  | od _ => exact h.elim
def ysPar (i j : Nat) (ra rb : PTX) : PTS := fun Δ ε => ra ε fun s1 ε1 => rb ε1 fun s2 ε2 => Δ.nx ((ε2.set i (some s1)).set j (some s2))
theorem nobody_set {σ : St} {ε : PEnv} {p q : Addr} {s : S} {i : Nat} (h : Nobody σ ε p) (hq : q ≠ p) : Nobody (σ.set i (some (.ref q))) (ε.set i (some s)) p := fun k t e so z => by
  by_cases hk : i = k
  · subst hk
    by_cases hi : i < σ.length
    · rw [List.getElem?_set_self hi] at z
      exact hq (V.ref.inj (Option.some.inj (Option.some.inj z)))
    · rw [List.getElem?_eq_none (by rw [List.length_set]; omega)] at z
      cases z
  · rw [List.getElem?_set_ne hk] at e z
    exact h k t e so z
theorem nobody_setV {σ : St} {ε : PEnv} {p : Addr} {d : D} {v : V} {i : Nat} (h : Nobody σ ε p) : Nobody (σ.set i (some v)) (ε.set i (some (.v d))) p := fun k t e so z => by
  by_cases hk : i = k
  · subst hk
    by_cases hi : i < ε.length
    · rw [List.getElem?_set_self hi] at e
      cases e
      cases so
    · rw [List.getElem?_eq_none (by rw [List.length_set]; omega)] at e
      cases e
  · rw [List.getElem?_set_ne hk] at e z
    exact h k t e so z
theorem ys_par (i j : Nat) {x y : Str} {a b : Expr} {ra rb : PTX} {px py pt : Pos} {kt k2 : Nat} {pt2 : Pos} (hc : X.calm = true) (hN : X.N.Nodup) (hi : X.N[i]? = some x) (hj : X.N[j]? = some y) (hij : i ≠ j)
    (hx : X.env.scope.names.lookup x = some .local) (hy : X.env.scope.names.lookup y = some .local) (ha : YX X W Ξ a ra) (hb : YX X W Ξ b rb)
    (hst : starEach [a, b] X.env = (false, eval a X.env) :: starEach [b] X.env := by rfl) (hst2 : starEach [b] X.env = (false, eval b X.env) :: starEach [] X.env := by rfl)
    (hw : swappedStores [.Tuple [.Name x px, .Name y py] kt pt] (.Tuple [a, b] k2 pt2) X.env = pure (some [x, y]) := by rfl)
    (hs : swapsWithSole [.Tuple [.Name x px, .Name y py] kt pt] (.Tuple [a, b] k2 pt2) pos.line X.env = pure false := by rfl) :
    YS X W Ξ (.Assign [.Tuple [.Name x px, .Name y py] kt pt] (.Tuple [a, b] k2 pt2) pos) (ysPar i j ra rb) := by
  obtain ⟨ta, pa, ka⟩ := ha.ex
  obtain ⟨tb, pb, kb⟩ := hb.ex
  refine ⟨_, ps_par hc hN hi hj hij hx hy (pa_cons pa (pa_cons pb pa_nil hst2) hst) hw hs, fun F Hs σ H ε Δ Dd R L q kk => ?_⟩
  refine ka F Hs σ H ε _ _ R L q fun v H1 Hs1 s1 ε1 e1 R1 p1 q1 => ?_
  cases s1 with
  | v d =>
    refine kb F Hs1 σ H1 ε1 _ _ R1 (L.mono e1) q1 fun w H2 Hs2 s2 ε2 e2 R2 p2 q2 => ?_
    refine ⟨v, w, rfl, ?_⟩
    have R3 := R2.store (Rep.mono e2 p1) i
    refine kk.nx _ H2 Hs2 _ (e1.trans e2) (pend_store R3 ?_ j) q2
    cases s2 with
    | v d2 => exact p2
    | o ds =>
      obtain ⟨p, vs, rfl, g1, g2, g3, g4, rs⟩ := p2
      exact ⟨p, vs, rfl, g1, g2, g3, nobody_setV g4, rs⟩
    | od _ => exact p2.elim
  | o ds =>
    obtain ⟨p, vs, rfl, g1, g2, g3, g4, rs⟩ := p1
    have R1' := R1.lend g1 g2 g4
    have L' : Lk X.K (upd F p (.lst vs)) Hs1 W Ξ := fun c σ' H' Hs' ε' xc e' R' => L c σ' H' Hs' ε' xc (e1.trans e') (R'.back g3).1
    refine kb _ Hs1 σ H1 ε1 _ _ R1' L' q1 fun w H2 Hs2 s2 ε2 e2 R2 p2 q2 => ?_
    refine ⟨.ref p, w, rfl, ?_⟩
    obtain ⟨R2', b1, b2, b3⟩ := R2.back g3
    have R3 := storeO_of R2' i b1 b2 g3 b3 (rs.mono e2)
    refine kk.nx _ H2 Hs2 _ (e1.trans e2) (pend_store R3 ?_ j) q2
    cases s2 with
    | v d2 => exact p2
    | o ds2 =>
      obtain ⟨p', vs', rfl, f1, f2, f3, f4, rs'⟩ := p2
      have ne : p ≠ p' := by
        intro z
        subst z
        rw [upd_same] at f3
        cases f3
      exact ⟨p', vs', rfl, f1, f2, by rw [upd_ne (Ne.symm ne)] at f3; exact f3, nobody_set f4 ne, rs'⟩
    | od _ => exact p2.elim
  | od _ => exact p1.elim
end
end PL

set_option Elab.async false
set_option linter.all false
set_option autoImplicit false
set_option maxRecDepth 100000
set_option maxHeartbeats 2000000
/-! Short words for the printed derivations. -/
namespace PL
open PySem PySem.Spec PyProof.Rows L2
open Evl (Ex)
theorem atI_in {α : Type} {xs : List α} {i : Int} (h0 : 0 ≤ i) (h1 : i < (xs.length : Int)) : ∃ d, atI xs i = some d ∧ d ∈ xs := by
  obtain ⟨j, rfl⟩ := Int.eq_ofNat_of_zero_le h0
  have hn : j < xs.length := Int.ofNat_lt.mp h1
  exact ⟨xs[j], atI_nat (List.getElem?_eq_getElem hn), List.getElem_mem hn⟩
/-- an item at a place that is drawn -/
theorem pick_of {xs : List D} {i : Int} {Q : D → Prop} (h0 : 0 ≤ i) (h1 : i < (xs.length : Int)) (k : ∀ d, d ∈ xs → Q d) : opt (atI xs i) Q := by
  obtain ⟨d, e, hd⟩ := atI_in h0 h1
  exact opt_of e (k d hd)
/-- a def that may be called -/
structure CallOk (P : Program) (w : World) (K : PySem.W.Frag) (mg : Str → Option Value) (base : Heap) (k : Nat) (x : Str) (ps : List Str) (φ : Spec) : Prop where
  fn : ∃ fd, FnOk P w K mg base (L2.CX P w) k (He.ga K x) fd ps (pSp K φ) ∧ (∃ oc od sl, K.lookup (He.ga K x) = some ⟨oc, od, .func fd, sl⟩) ∧ ∀ (s : Shared) (us : List Value), us.length = ps.length → BindsTo s fd ⟨us, []⟩ (ps.zip us)
  kp : PySem.W.keepIn K (.ref (He.ga K x)) = true
  gl : mg x = some (.ref (He.ga K x))
theorem funLook {K : PySem.W.Frag} {x qual : Str} {params : Arguments} {body : List Stmt} {scope : Scope} {dvs : List V} {kws : List (Str × V)} {f : Addr} {fd : FuncData} (F : FunD K x qual params body scope dvs kws f fd) : ∃ oc od sl, K.lookup f = some ⟨oc, od, .func fd, sl⟩ := by
  obtain ⟨oc, od, dV, kV, doc, pm, an, cdv, ct, osl, rfl, lk, _⟩ := F.ex
  exact ⟨_, _, _, lk⟩
theorem CallOk.imp {P : Program} {w : World} {K : PySem.W.Frag} {mg : Str → Option Value} {base : Heap} {k : Nat} {x : Str} {ps : List Str} {φ ψ : Spec} (h : CallOk P w K mg base k x ps φ) (i : ∀ ds Q E, ψ ds Q E → φ ds Q E) : CallOk P w K mg base k x ps ψ := by
  obtain ⟨⟨fd, F, lk, b⟩, kp, gl⟩ := h
  exact ⟨⟨fd, F.imp fun vs H Q E ⟨Hs, ds, Q', E', a, b, c, d⟩ => ⟨Hs, ds, Q', E', a, b, i _ _ _ c, d⟩, lk, b⟩, kp, gl⟩
section
variable {X : Cx} {W : WX} {Ξ : Xi} {a b c : Expr} {es : List Expr} {pos : Pos}
theorem yeCall {φ : Spec} {rs : PTL} {k : Nat} {ps : List Str} {x : Str} {p : Pos} (C : CallOk X.prog X.w X.K X.mg X.base k x ps φ) (tk : Takes X W) (hr : Room k X.A) (h : YL X W Ξ (a :: es) rs) (hg : Gl X x := by rfl) (hdb : (x == ("__debug__" : Str)) = false := by decide)
    (he : starEach (a :: es) X.env = (false, eval a X.env) :: starEach es X.env := by rfl) (hpl : (backTo pos (starEach es X.env)).any (·.1) = false := by rfl) :
    YE X W Ξ (.Call (.Name x p) (a :: es) [] pos) (yCall φ Ξ rs) := by
  obtain ⟨⟨fd, F, _, b⟩, kp, gl⟩ := C
  exact ye_call F tk hr hg gl kp (fun s us _ hl => by rw [List.append_nil] at hl ⊢; exact b s us hl) h hdb he hpl
/-- a name is stored: the plain ways -/
theorem ysSet (i : Nat) {x : Str} {pos' : Pos} {re : PTE} (hN : X.N.Nodup) (he : YE X W Ξ a re) (hi : X.N[i]? = some x := by rfl) (hx : Loc X.env.scope x := by first | exact Or.inl rfl | exact Or.inr rfl) (hs : swapsWith a (some (.Name x pos')) pos.line X.env = pure false := by rfl)
    (hf : X.fn x = true ∨ X.env.scope.names.lookup x = some .local := by first | exact .inl rfl | exact .inr rfl) : YS X W Ξ (.Assign [.Name x pos'] a pos) (ysAsg re i) := ys_set i hN hi hx he hs hf
theorem ysSetO (i : Nat) {x : Str} {pos' : Pos} {rn : PTN} (hN : X.N.Nodup) (he : YN X W Ξ a rn) (hi : X.N[i]? = some x := by rfl) (hx : Loc X.env.scope x := by first | exact Or.inl rfl | exact Or.inr rfl) (hs : swapsWith a (some (.Name x pos')) pos.line X.env = pure false := by rfl)
    (hf : X.fn x = true ∨ X.env.scope.names.lookup x = some .local := by first | exact .inl rfl | exact .inr rfl) : YS X W Ξ (.Assign [.Name x pos'] a pos) (ysAsgO rn i) := ys_setO i hN hi hx he hs hf
theorem ygN {x : Str} (i : Nat) (hN : X.N.Nodup) (hi : X.N[i]? = some x := by rfl) (hx : Loc X.env.scope x := by first | exact Or.inl rfl | exact Or.inr rfl) (hf : X.fn x = true ∨ X.env.scope.names.lookup x = some .local := by first | exact .inl rfl | exact .inr rfl) : YG X (.Name x pos) (gN i) [i] := yg_name i hN hi hx hf
theorem ysApp' (i : Nat) {x : Str} {px pa pc : Pos} {re : PTE} (he : YE X W Ξ a re) (hN : X.N[i]? = some x := by rfl) (hv : Vis X.env.scope x := by first | exact Or.inl rfl | exact Or.inr (Or.inl rfl) | exact Or.inr (Or.inr rfl)) (hd : (x == ("__debug__" : Str)) = false := by decide) (hcd : (x == ("__classdict__" : Str)) = false := by decide)
    (hbase : attributeBase (.Name x px) "append" X.env (eval (.Name x px) X.env) = eval (.Name x px) X.env := by rfl)
    (hfew : ((backTo pc (starEach (a :: []) X.env)).all (fun x => !x.1) && (backToKw pc (keywordEach [] X.env)).all (fun x => x.1.isSome)
      && decide ((a :: []).length + ([] : List Keyword).length + (if ([] : List Keyword).isEmpty then 0 else 1) < 30)) = true := by rfl)
    (hline : (pa.endLine == pc.line) = true := by rfl) (hs : starEach (a :: []) X.env = (false, eval a X.env) :: starEach [] X.env := by rfl) (hplain : (backTo pc (starEach [] X.env)).any (·.1) = false := by rfl)
    (hsw : swapsWith (.Call (.Attribute (.Name x px) "append" pa) [a] [] pc) none pos.line X.env = pure false := by rfl) :
    YS X W Ξ (.Expr (.Call (.Attribute (.Name x px) "append" pa) [a] [] pc) pos) (ysApp i re) := ys_app i hN hv he hd hcd hbase hfew hline hs hplain hsw
theorem ysExt' (i : Nat) {x : Str} {px pa pc : Pos} {re : PTE} (he : YE X W Ξ a re) (hN : X.N[i]? = some x := by rfl) (hv : Vis X.env.scope x := by first | exact Or.inl rfl | exact Or.inr (Or.inl rfl) | exact Or.inr (Or.inr rfl)) (hd : (x == ("__debug__" : Str)) = false := by decide) (hcd : (x == ("__classdict__" : Str)) = false := by decide)
    (hbase : attributeBase (.Name x px) "extend" X.env (eval (.Name x px) X.env) = eval (.Name x px) X.env := by rfl)
    (hfew : ((backTo pc (starEach (a :: []) X.env)).all (fun x => !x.1) && (backToKw pc (keywordEach [] X.env)).all (fun x => x.1.isSome)
      && decide ((a :: []).length + ([] : List Keyword).length + (if ([] : List Keyword).isEmpty then 0 else 1) < 30)) = true := by rfl)
    (hline : (pa.endLine == pc.line) = true := by rfl) (hs : starEach (a :: []) X.env = (false, eval a X.env) :: starEach [] X.env := by rfl) (hplain : (backTo pc (starEach [] X.env)).any (·.1) = false := by rfl)
    (hsw : swapsWith (.Call (.Attribute (.Name x px) "extend" pa) [a] [] pc) none pos.line X.env = pure false := by rfl) :
    YS X W Ξ (.Expr (.Call (.Attribute (.Name x px) "extend" pa) [a] [] pc) pos) (ysExt i re) := ys_ext i hN hv he hd hcd hbase hfew hline hs hplain hsw
theorem yePop' (i : Nat) {x : Str} {px pa pc : Pos} (hN : X.N[i]? = some x := by rfl) (hv : Vis X.env.scope x := by first | exact Or.inl rfl | exact Or.inr (Or.inl rfl) | exact Or.inr (Or.inr rfl)) (hd : (x == ("__debug__" : Str)) = false := by decide) (hcd : (x == ("__classdict__" : Str)) = false := by decide)
    (hbase : attributeBase (.Name x px) "pop" X.env (eval (.Name x px) X.env) = eval (.Name x px) X.env := by rfl) (hline : (pa.endLine == pc.line) = true := by rfl) :
    YE X W Ξ (.Call (.Attribute (.Name x px) "pop" pa) [] [] pc) (yPop i) := ye_pop i hN hv hd hcd hbase hline
/-- a module's constant: an int, a text -/
structure GlI (mg : Str → Option Value) (x : Str) (i : Int) : Prop where
  ex : ∃ t, mg x = some (.int i t)
structure GlS (mg : Str → Option Value) (x z : Str) : Prop where
  ex : ∃ t, mg x = some (.str z t)
theorem yeGlI {x : Str} {i : Int} (h : GlI X.mg x i) (hg : Gl X x := by rfl) (hd : (x == ("__debug__" : Str)) = false := by decide) : YE X W Ξ (.Name x pos) (yC (.int i)) := by
  obtain ⟨t, e⟩ := h.ex
  exact ye_glob (v := .int i) hg e ⟨t, rfl⟩ (fun _ _ => .int i) hd
theorem yeGlS {x z : Str} (h : GlS X.mg x z) (hg : Gl X x := by rfl) (hd : (x == ("__debug__" : Str)) = false := by decide) : YE X W Ξ (.Name x pos) (yC (.str z)) := by
  obtain ⟨t, e⟩ := h.ex
  exact ye_glob (v := .str z) hg e ⟨t, rfl⟩ (fun _ _ => .str z) hd
theorem peTy {x : Str} {n : String} (hm : X.mg x = none) (hv : bootBuiltins x = some (.type n)) (hg : Gl X x := by rfl) (hn : x ≠ "__name__" := by decide) (hd : (x == ("__debug__" : Str)) = false := by decide) : PE X (.Name x pos) (tC (.ty n)) := pe_bltn hg hm hv rfl hn hd
theorem ye_chain {op op' : CmpOp} {o o' : OP2} {ra rb rc : PTE} (ho : OpY X (compareOp op) o) (ho' : OpY X (compareOp op') o') (ha : YE X W Ξ a ra) (hb : YE X W Ξ b rb) (hc : YE X W Ξ c rc) (hm : lastMarks [op, op'] [b, c] = false := by with_unfolding_all rfl) :
    YE X W Ξ (.Compare a [op, op'] [b, c] pos) (yChain o o' ra rb rc) := by
  obtain ⟨r, hr, h⟩ := ho
  obtain ⟨r', hr', h'⟩ := ho'
  obtain ⟨ta, pa, ka⟩ := ha.ex
  obtain ⟨tb, pb, kb⟩ := hb.ex
  obtain ⟨tc, pc, kc⟩ := hc.ex
  refine ⟨_, pe_chain hr hr' pa pb pc hm, fun F Hs σ H ε Q' Q R L q k => ?_⟩
  refine ka F Hs σ H ε _ _ R L q fun v H1 Hs1 t1 ε1 e1 R1 p1 q1 => ?_
  refine kb F Hs1 σ H1 ε1 _ _ R1 (L.mono e1) q1 fun w H2 Hs2 t2 ε2 e2 R2 p2 q2 => ?_
  obtain ⟨d1, v1, q3⟩ := R2.res (p1.mono e2) q2
  obtain ⟨d2, v2, q4⟩ := R2.res p2 q3
  refine h F Hs2 σ H2 ε2 v w d1 d2 _ _ R2 v1 v2 q4 fun z H3 Hs3 d e3 R3 p3 q5 => ?_
  obtain ⟨kk, e4, q6⟩ := asB_rep p3 q5
  refine ⟨kk, e4, ?_⟩
  cases kk with
  | true =>
    show (if true = true then _ else _)
    rw [if_pos rfl]
    refine kc F Hs3 σ H3 ε2 _ _ R3 (L.mono ((e1.trans e2).trans e3)) q6 fun u H4 Hs4 t3 ε4 e5 R4 p4 q7 => ?_
    obtain ⟨d2', v2', q8⟩ := R4.res ((p2.mono e3).mono e5) q7
    obtain ⟨d3, v3, q9⟩ := R4.res p4 q8
    exact h' F Hs4 σ H4 ε4 w u d2' d3 _ Q R4 v2' v3 q9 fun z H' Hs' d e6 R6 p6 q => k z H' Hs' (.d d) ε4 ((((e1.trans e2).trans e3).trans e5).trans e6) R6 p6 q
  | false =>
    show (if false = true then _ else _)
    rw [if_neg Bool.false_ne_true]
    exact k _ H3 Hs3 (.d (.bl false)) ε2 ((e1.trans e2).trans e3) R3 (.bl false) q6
/-- {} -/
def yDic0 : PTE := fun ε Q => Q (.d (.dic [])) ε
theorem ye_dic0 : YE X W Ξ (.Dict [] [] pos) yDic0 := by
  refine ⟨_, pe_dnewK, fun F Hs σ H ε Q' Q R L q k => fun p hp => ?_⟩
  obtain ⟨R3, e3⟩ := R.new (o := .dK []) hp
  exact k (.ref p) _ _ (.d (.dic [])) ε e3 R3 (.dic upd_same rfl .nil) q
/-- not a, by truth -/
def yNotB (r : PTE) : PTE := fun ε Q => r ε fun t ε' => res ε' t (asB fun k => Q (.d (.bl (!k))) ε')
theorem ye_not {r : PTE} (h : YE X W Ξ a r) : YE X W Ξ (.UnaryOp .Not a pos) (yNotB r) := by
  obtain ⟨t, p, k⟩ := h.ex
  refine ⟨_, pe_not p, fun F Hs σ H ε Q' Q R L q kk => k F Hs σ H ε _ _ R L q fun v H1 Hs1 t1 ε1 e1 R1 p1 q1 => ?_⟩
  obtain ⟨d, rv, q2⟩ := R1.res p1 q1
  cases d with
  | bl b => exact ⟨b, rv.bl', kk _ H1 Hs1 (.d (.bl (!b))) ε1 e1 R1 (.bl _) q2⟩
  | _ => exact False.elim q2
/-- for x in a list, a tuple -/
def yiSeq (r : PTE) : PTN := fun ε Q => r ε fun t ε' => out ε' t fun d ε2 => match d with
  | .lst ds => Q ds ε2
  | .frl ds => Q ds ε2
  | .tup ds => Q ds ε2
  | _ => False
def iSeq (K : PySem.W.Frag) (tl : TE) : TI := fun σ H R => tl σ H fun x H1 => ∃ a, x = .ref a ∧ (((∃ xs, SqL K H1 a xs) ∧ R (Itl K a) H1) ∨ ((∃ xs, SqT K H1 a xs) ∧ R (Itt K a) H1))
theorem pi_seq {tg l : Expr} {tl : TE} (hl : PE X l tl) : PI X tg l (iSeq X.K tl) := by
  refine ⟨fun pins s σ H R I h => ?_⟩
  refine thn (hl.run pins s σ H _ I h) fun v s1 ⟨x, H1, I1, r1, q1⟩ => ?_
  obtain ⟨a, e, q⟩ := q1
  subst e
  cases r1
  rcases q with ⟨⟨xs, hq⟩, q⟩ | ⟨⟨xs, hq⟩, q⟩
  · obtain ⟨its, rv, p, hz⟩ := I1.list hq
    refine wpAny_pyIter_list p.isList ?_
    refine ⟨s1.heap.objs.size, [s1.heap.objs.size], _, _, H1, rfl, I1.kept (t' := s1.toks) fun b o e => Heap.get?_push_of_some _ e, turn_list a _, ⟨_, Heap.get?_push_size _ rfl, rfl, rfl⟩, fun b hb => ?_, q⟩
    have e : b = s1.heap.objs.size := by simpa using hb
    subst e
    exact I1.fpOk (Nat.le_refl _) (I1.hok.fresh (Nat.le_refl _))
  · obtain ⟨its, rv, p, hz⟩ := I1.tuple hq
    refine wpAny_pyIter_tuple (show s1.heap.IsTuple a its.toArray from p) ?_
    refine ⟨s1.heap.objs.size, [s1.heap.objs.size], _, _, H1, rfl, I1.kept (t' := s1.toks) fun b o e => Heap.get?_push_of_some _ e, turn_tuple a _, ⟨_, Heap.get?_push_size _ rfl, rfl, rfl⟩, fun b hb => ?_, q⟩
    have e : b = s1.heap.objs.size := by simpa using hb
    subst e
    exact I1.fpOk (Nat.le_refl _) (I1.hok.fresh (Nat.le_refl _))
theorem yi_seq {tg : Expr} {r : PTE} (h : YE X W Ξ a r) : YI X W Ξ tg a (yiSeq r) := by
  obtain ⟨t, p, k⟩ := h.ex
  refine ⟨_, pi_seq p, fun F Hs σ H ε Q' R' R L q kk => k F Hs σ H ε _ _ R L q fun v H1 Hs1 t ε1 e1 R1 p1 q1 => ?_⟩
  obtain ⟨d, ε2, Hs2, e2, R2, rv, q2⟩ := R1.out p1 q1
  split at q2
  · cases rv with
    | lst h1 r1 => exact ⟨_, rfl, .inl ⟨⟨_, SqL.of (R2.ex _ _ h1)⟩, kk _ H1 Hs2 _ ε2 (e1.trans e2) R2 (seqs_list (SqL.of h1) r1) q2⟩⟩
  · cases rv with
    | frl h1 r1 => exact ⟨_, rfl, .inl ⟨⟨_, Evl.ex_l R2.ex h1.sq⟩, kk _ H1 Hs2 _ ε2 (e1.trans e2) R2 (seqs_list h1.sq r1) q2⟩⟩
  · cases rv with
    | tup h1 r1 => exact ⟨_, rfl, .inr ⟨⟨_, Evl.ex_t R2.ex h1⟩, kk _ H1 Hs2 _ ε2 (e1.trans e2) R2 (seqs_tup h1 r1) q2⟩⟩
  · exact q2.elim
def yChainT (o o' : OP2) (ra rb rc : PTE) : PTT := yB (yChain o o' ra rb rc)
theorem yt_chain {op op' : CmpOp} {o o' : OP2} {ra rb rc : PTE} (ho : OpY X (compareOp op) o) (ho' : OpY X (compareOp op') o') (ha : YE X W Ξ a ra) (hb : YE X W Ξ b rb) (hc : YE X W Ξ c rc) (hm : lastMarks [op, op'] [b, c] = false := by with_unfolding_all rfl) :
    YT X W Ξ (.Compare a [op, op'] [b, c] pos) (yChainT o o' ra rb rc) := by
  obtain ⟨r, hr, h⟩ := ho
  obtain ⟨r', hr', h'⟩ := ho'
  obtain ⟨ta, pa, ka⟩ := ha.ex
  obtain ⟨tb, pb, kb⟩ := hb.ex
  obtain ⟨tc, pc, kc⟩ := hc.ex
  refine ⟨_, pt_chain hr hr' pa pb pc hm, fun F Hs σ H ε Q' Q R L q k => ?_⟩
  refine ka F Hs σ H ε _ _ R L q fun v H1 Hs1 t1 ε1 e1 R1 p1 q1 => ?_
  refine kb F Hs1 σ H1 ε1 _ _ R1 (L.mono e1) q1 fun w H2 Hs2 t2 ε2 e2 R2 p2 q2 => ?_
  obtain ⟨d1, v1, q3⟩ := R2.res (p1.mono e2) q2
  obtain ⟨d2, v2, q4⟩ := R2.res p2 q3
  refine h F Hs2 σ H2 ε2 v w d1 d2 _ _ R2 v1 v2 q4 fun z H3 Hs3 d e3 R3 p3 q5 => ?_
  obtain ⟨kk, e4, q6⟩ := asB_rep p3 q5
  refine ⟨kk, e4, ?_⟩
  cases kk with
  | true =>
    show (if true = true then _ else _)
    rw [if_pos rfl]
    refine kc F Hs3 σ H3 ε2 _ _ R3 (L.mono ((e1.trans e2).trans e3)) q6 fun u H4 Hs4 t3 ε4 e5 R4 p4 q7 => ?_
    obtain ⟨d2', v2', q8⟩ := R4.res ((p2.mono e3).mono e5) q7
    obtain ⟨d3, v3, q9⟩ := R4.res p4 q8
    refine h' F Hs4 σ H4 ε4 w u d2' d3 _ _ R4 v2' v3 q9 fun z H' Hs' d e6 R6 p6 q => ?_
    obtain ⟨b, e7, q7⟩ := asB_rep p6 q
    exact ⟨b, e7, k b H' Hs' ε4 ((((e1.trans e2).trans e3).trans e5).trans e6) R6 q7⟩
  | false =>
    show (if false = true then _ else _)
    rw [if_neg Bool.false_ne_true]
    exact ⟨false, rfl, k false H3 Hs3 ε2 ((e1.trans e2).trans e3) R3 q6⟩
def ysNever : PTS := fun _ _ => False
theorem ys_never {st : Stmt} : YS X W Ξ st ysNever := ⟨_, ps_never, fun _ _ _ _ _ _ _ _ _ q _ => q.elim⟩
def ysRetN : PTS := fun Δ ε => Δ.rt .non ε
theorem ys_retN : YS X W Ξ (.Return none pos) ysRetN := ⟨_, ps_retN, fun F Hs σ H ε Δ Dd R L q k => k.rt .non σ H Hs .non ε (Evl.Ex.refl _) R .non q⟩
abbrev exBase : List Value := [.type "Exception", .type "BaseException", .type "object"]
end
end PL

set_option Elab.async false
set_option linter.all false
set_option autoImplicit false
set_option maxRecDepth 100000
set_option maxHeartbeats 2000000
/-! Loops and comprehensions over lists that lie open. -/
namespace PL
open PySem PySem.Spec PyProof.Rows L2
def forRun (g : PTG) (rb : PTS) (Δ : PEnds) : List D → PEnv → Prop
  | [], ε => Δ.nx ε
  | d :: ds, ε => g d ε fun ε2 => rb { Δ with nx := forRun g rb Δ ds, ct := forRun g rb Δ ds, bk := Δ.nx } ε2
theorem drop_get {α : Type} {xs : List α} {i : Nat} {d : α} (h : xs[i]? = some d) : xs.drop i = d :: xs.drop (i + 1) := by
  obtain ⟨hi, e⟩ := List.getElem?_eq_some_iff.mp h
  rw [List.drop_eq_getElem_cons hi, e]
theorem for_run {g : PTG} {rb : PTS} {Δ : PEnds} {ds : List D} {ε1 : PEnv} (h : forRun g rb Δ ds ε1) : ∃ Wp : Nat → PEnv → Prop, Wp 0 ε1 ∧
    (∀ i d ε, i < ds.length → ds[i]? = some d → Wp i ε → g d ε fun ε2 => rb { Δ with nx := Wp (i + 1), ct := Wp (i + 1), bk := Δ.nx } ε2) ∧ ∀ ε, Wp ds.length ε → Δ.nx ε := by
  refine ⟨fun i ε => forRun g rb Δ (ds.drop i) ε, h, fun i d ε hi hd w => ?_, fun ε w => ?_⟩
  · replace w : forRun g rb Δ (ds.drop i) ε := w
    rw [drop_get hd] at w
    exact w
  · replace w : forRun g rb Δ (ds.drop ds.length) ε := w
    rw [List.drop_length] at w
    exact w
def lcRun (g : PTG) (rt : PTT) (re : PTE) (vs : List Nat) (ε1 : PEnv) (Q : List D → PEnv → Prop) : List D → List D → Prop
  | [], acc => Q acc ε1
  | d :: ds, acc => g d (wipeE ε1 vs) fun ε2 => rt ε2 fun k ε3 => match k with
    | true => re ε3 fun t ε4 => out ε4 t fun y ε5 => wipeE ε5 vs = wipeE ε1 vs ∧ lcRun g rt re vs ε1 Q ds (acc ++ [y])
    | false => wipeE ε3 vs = wipeE ε1 vs ∧ lcRun g rt re vs ε1 Q ds acc
theorem lc_run {g : PTG} {rt : PTT} {re : PTE} {vs : List Nat} {ε1 : PEnv} {Q : List D → PEnv → Prop} {ds : List D} (h : lcRun g rt re vs ε1 Q ds []) : ∃ Wp : Nat → List D → Prop, Wp 0 [] ∧
  (∀ i d acc, i < ds.length → ds[i]? = some d → acc.length ≤ i → Wp i acc → g d (wipeE ε1 vs) fun ε2 => rt ε2 fun k ε3 => match k with
    | true => re ε3 fun t ε4 => out ε4 t fun y ε5 => wipeE ε5 vs = wipeE ε1 vs ∧ Wp (i + 1) (acc ++ [y])
    | false => wipeE ε3 vs = wipeE ε1 vs ∧ Wp (i + 1) acc) ∧ ∀ acc, acc.length ≤ ds.length → Wp ds.length acc → Q acc ε1 := by
  refine ⟨fun i acc => lcRun g rt re vs ε1 Q (ds.drop i) acc, h, fun i d acc hi hd hl w => ?_, fun acc hl w => ?_⟩
  · replace w : lcRun g rt re vs ε1 Q (ds.drop i) acc := w
    rw [drop_get hd] at w
    exact w
  · replace w : lcRun g rt re vs ε1 Q (ds.drop ds.length) acc := w
    rw [List.drop_length] at w
    exact w
theorem seq_step {r u : PTS} {Δ : PEnds} {ε : PEnv} (ε' : PEnv) (h1 : ∀ K : PEnv → Prop, K ε' → r { Δ with nx := K } ε) (h2 : u Δ ε') : ysSeq r u Δ ε := h1 _ h2
theorem seq_post {r u : PTS} {Δ : PEnds} {ε : PEnv} (Po : PEnv → Prop) (h1 : ∀ K : PEnv → Prop, (∀ ε', Po ε' → K ε') → r { Δ with nx := K } ε) (h2 : ∀ ε', Po ε' → u Δ ε') : ysSeq r u Δ ε := h1 _ h2
theorem gtup2 {i j : Nat} {d1 d2 : D} {ε : PEnv} {Q : PEnv → Prop} (h : Q ((ε.set i (some (.v d1))).set j (some (.v d2)))) : gTupY 2 [gN i, gN j] (.tup [d1, d2]) ε Q := h
end PL

set_option Elab.async false
set_option linter.all false
set_option autoImplicit false
set_option maxRecDepth 100000
set_option maxHeartbeats 2000000
/-! A number is drawn, by hand. -/
namespace PL
open PySem PySem.Spec PyProof.Rows L2
section
variable {K : PySem.W.Frag}
def r_len (K : PySem.W.Frag) : List V → Hp → VK → Prop := fun xs H Q => ∃ x n, xs = [x] ∧ LenV K x H n ∧ Q (.int (n : Nat)) H
def t_pick (K : PySem.W.Frag) : TS :=
  tSeq (tAsg (tOp (rIxL K) (tVar 0) (tC (.int 0))) (gName 2))
    (tSeq (tAsg (tOp (rI0 fun i j => V.int (i + j)) (tVar 2) (tC (.int 1))) (gSub (tVar 0) (tC (.int 0)) rSetL))
      (tSeq (tIfS (tTest (tOp rEq (tOp (rIxL K) (tVar 0) (tC (.int 0))) (tCB (r_len K) (tCons (tVar 0) tNil))))
          (tAsg (tC (.int 1)) (gSub (tVar 0) (tC (.int 0)) rSetL)) tNext)
        (tRet (tOp (rI (fun _ j => 0 < j) fun i j => V.int (i % j))
            (tCB (fun xs H Q => (∃ i, xs = [V.int i] ∧ Q (V.int i) H) ∨ ∃ k, xs = [V.bl k] ∧ Q (V.int (if k = true then 1 else 0)) H)
              (tCons (tOp (rIxL K) (tVar 0) (tVar 2)) tNil))
            (tVar 1)))))
theorem atI_int {ns : List Int} {i : Int} {x : Int} (h : atI ns i = some x) : atI (ns.map V.int) i = some (.int x) := by
  unfold atI at h ⊢
  rw [List.length_map]
  cases e : ixN ns.length i with
  | none => rw [e] at h; cases h
  | some j =>
    rw [e] at h
    show (ns.map V.int)[j]? = some (.int x)
    replace h : ns[j]? = some x := h
    rw [List.getElem?_map, h]
    rfl
theorem ix0 {n : Nat} (h : 0 < n) : ixN n 0 = some 0 := by
  unfold ixN
  rw [if_pos (Int.le_refl 0), if_pos (by omega)]
  rfl
theorem at0 {x : V} {xs : List V} : atI (x :: xs) 0 = some x := atI_nat (j := 0) (v := x) rfl
theorem pick_pure {vs : List V} {H : Hp} {Q : VK} {E : XK} (h : spPick vs H Q E) : t_pick K { nx := fun _ H' => Q .non H', rt := Q } (L2.start ["pool", "many", "place"] vs) H := by
  obtain ⟨p, n, ns, rfl, hH, ⟨hl1, hl2, c, hc, c1, c2⟩, hn, hQ⟩ := h
  cases ns with
  | nil => cases hc
  | cons c' tl =>
    obtain rfl : c' = c := Option.some.inj hc
    have hx : ∀ (d : Int) (H : Hp), H p = some (.lst ((d :: tl).map V.int)) → 0 ≤ d → True := fun _ _ _ _ => trivial
    -- the item drawn: place c' of the list with another head
    have fin : ∀ (d : Int) (H' : Hp), H' = upd H p (.lst ((d :: tl).map V.int)) → PoolOk (d :: tl) →
        (tRet (tOp (rI (fun _ j => 0 < j) fun i j => V.int (i % j))
            (tCB (fun xs H Q => (∃ i, xs = [V.int i] ∧ Q (V.int i) H) ∨ ∃ k, xs = [V.bl k] ∧ Q (V.int (if k = true then 1 else 0)) H)
              (tCons (tOp (rIxL K) (tVar 0) (tVar 2)) tNil))
            (tVar 1))) { nx := fun _ H' => Q .non H', rt := Q } [some (.ref p), some (.int n), some (.int c')] H' := by
      intro d H' hH' ok
      subst hH'
      have hlen : c' < ((d :: tl).length : Int) := c2
      obtain ⟨x, hx, _⟩ := atI_in (xs := d :: tl) (i := c') (by omega) hlen
      refine ⟨_, rfl, _, rfl, p, (d :: tl).map V.int, c', .int x, rfl, rfl, SqL.of upd_same, atI_int hx, .inl ⟨x, rfl, _, rfl, x, n, rfl, rfl, hn, ?_⟩⟩
      exact hQ _ (d :: tl) (Int.emod_nonneg _ (by omega)) (Int.emod_lt_of_pos _ hn) ok
    refine ⟨_, rfl, p, _, 0, .int c', rfl, rfl, SqL.of hH, at0, ?_⟩
    refine ⟨_, rfl, c', 1, rfl, rfl, ?_⟩
    refine ⟨_, rfl, p, _, 0, 0, rfl, rfl, hH, ix0 (by rw [List.length_map]; exact Nat.succ_pos _), ?_⟩
    have e1 : upd H p (.lst (((c' :: tl).map V.int).set 0 (.int (c' + 1)))) = upd H p (.lst (((c' + 1) :: tl).map V.int)) := rfl
    refine ⟨_, rfl, p, _, 0, .int (c' + 1), rfl, rfl, SqL.of upd_same, at0, ?_⟩
    refine ⟨_, rfl, .ref p, (((c' + 1) :: tl).map V.int).length, rfl, .inl ⟨_, SqL.of upd_same, rfl⟩, ?_⟩
    refine ⟨rfl, _, rfl, ?_⟩
    have hm : (((c' + 1) :: tl).map V.int).length = tl.length + 1 := by rw [List.length_map]; rfl
    have hd : decide (V.int (c' + 1) = V.int ((((c' + 1) :: tl).map V.int).length : Nat)) = decide (c' + 1 = ((tl.length + 1 : Nat) : Int)) := by
      rw [hm]
      by_cases q : c' + 1 = ((tl.length + 1 : Nat) : Int)
      · rw [decide_eq_true q, decide_eq_true (by rw [q])]
      · rw [decide_eq_false q, decide_eq_false (fun z => q (V.int.inj z))]
    show (if decide (V.int (c' + 1) = V.int ((((c' + 1) :: tl).map V.int).length : Nat)) = true then _ else _)
    rw [hd]
    have hl : (((c' :: tl).length : Nat) : Int) = ((tl.length + 1 : Nat) : Int) := rfl
    by_cases q : c' + 1 = ((tl.length + 1 : Nat) : Int)
    · rw [if_pos (decide_eq_true q)]
      refine ⟨_, rfl, p, _, 0, 0, rfl, rfl, upd_same, ix0 (by rw [List.length_set, List.length_map]; exact Nat.succ_pos _), ?_⟩
      refine fin 1 _ ?_ ⟨hl1, hl2, 1, rfl, by decide, by show (1 : Int) < ((tl.length + 1 : Nat) : Int); replace hl1 : 2 ≤ tl.length + 1 := hl1; omega⟩
      rw [upd_upd]
      rfl
    · rw [if_neg (by rw [decide_eq_false q]; exact Bool.false_ne_true)]
      refine fin (c' + 1) _ rfl ⟨hl1, hl2, c' + 1, rfl, by omega, by show c' + 1 < ((tl.length + 1 : Nat) : Int); rw [hl] at c2; omega⟩
end
end PL

set_option Elab.async false
set_option linter.all false
set_option autoImplicit false
set_option maxRecDepth 100000
set_option maxHeartbeats 2000000
/-! The head: what is looked at; the law's end. -/
namespace PL
open PySem PySem.Spec PyProof.Rows L2
def excB (K : PySem.W.Frag) (a : Addr) : Bool :=
  He.eqO (PySem.W.findIn K (.ref a) "__getattribute__") (some (some (.builtin "BaseException.__getattribute__"))) &&
  (He.eqO (PySem.W.findIn K (.ref a) "__getattr__") (some none) && (decide (PySem.W.subIn K (.ref a) (.type "BaseException") = some true) &&
  (PySem.W.hasDictIn K a && (He.eqO (PySem.W.findIn K (.ref a) "__class__") (some (some (.builtin "object.__class__"))) &&
  (He.eqO (PySem.W.specialIn K (.builtin "object.__class__") "__get__") (some (some (.builtin "getset_descriptor.__get__"))) &&
  (decide (PySem.W.takesIn K (.builtin "object.__class__") = some true) && decide (PySem.W.mroIn K a (.type "object") = some true)))))))
theorem excB_ok {K : PySem.W.Frag} {a : Addr} (h : excB K a = true) : ExcC K a := by
  obtain ⟨h1, h⟩ := He.ba h
  obtain ⟨h2, h⟩ := He.ba h
  obtain ⟨h3, h⟩ := He.ba h
  obtain ⟨h4, h⟩ := He.ba h
  obtain ⟨h5, h⟩ := He.ba h
  obtain ⟨h6, h⟩ := He.ba h
  obtain ⟨h7, h8⟩ := He.ba h
  exact ⟨He.eqO_ok h1, He.eqO_ok h2, of_decide_eq_true h3, h4, He.eqO_ok h5, He.eqO_ok h6, of_decide_eq_true h7, of_decide_eq_true h8⟩
def exB (cs : List Nat) (K : PySem.W.Frag) : Bool := cs.all fun c =>
  PySem.W.excIn K (exA K c) exBase "Exception.__new__" && (PySem.W.keepIn K (.ref (exA K c)) && (decide (PySem.W.subIn K (.ref (exA K c)) (.type "BaseException") = some true) &&
  (decide (PySem.W.typeIn K (.ref (exA K c)) = some (.type "type")) && (excB K (exA K c) && (decide (PySem.W.exmOne K (.ref (exA K c)) (.ref (exA K 0)) = some true) &&
  cs.all fun t => decide (PySem.W.kitOne K (.ref (exA K c)) (.ref (exA K t)) = some (exSub c t)))))))
structure ExF (K : PySem.W.Frag) (c : Nat) : Prop where
  x : PySem.W.excIn K (exA K c) exBase "Exception.__new__" = true
  k : PySem.W.keepIn K (.ref (exA K c)) = true
  s : PySem.W.subIn K (.ref (exA K c)) (.type "BaseException") = some true
  t : PySem.W.typeIn K (.ref (exA K c)) = some (.type "type")
theorem exB_at {cs : List Nat} {K : PySem.W.Frag} (h : exB cs K = true) {c : Nat} (hc : c ∈ cs) : ExF K c ∧ ExcC K (exA K c) ∧ PySem.W.exmOne K (.ref (exA K c)) (.ref (exA K 0)) = some true ∧ ∀ t ∈ cs, PySem.W.kitOne K (.ref (exA K c)) (.ref (exA K t)) = some (exSub c t) := by
  have h := List.all_eq_true.mp h c hc
  obtain ⟨h1, h⟩ := He.ba h
  obtain ⟨h2, h⟩ := He.ba h
  obtain ⟨h3, h⟩ := He.ba h
  obtain ⟨h4, h⟩ := He.ba h
  obtain ⟨h5, h⟩ := He.ba h
  obtain ⟨h6, h7⟩ := He.ba h
  exact ⟨⟨h1, h2, of_decide_eq_true h3, of_decide_eq_true h4⟩, excB_ok h5, of_decide_eq_true h6, fun t ht => of_decide_eq_true (List.all_eq_true.mp h7 t ht)⟩
theorem exB_k {cs : List Nat} {K : PySem.W.Frag} (h : exB cs K = true) : ExK K cs :=
  ⟨fun c hc => (exB_at h hc).2.2.1, fun c hc => (exB_at h hc).2.2.2, fun c hc => (exB_at h hc).2.1⟩
/-- the law's end -/
theorem walk_ofP {l : PySem.W.OpenLaw} {k : Nat} {q : Program} {loose : List Str} {XP : (Str → Option Value) → Heap → Prop} {YP : World → Heap → Prop} {d : DefRec}
    (hn : l.most = some 63) (hdf : d.params.defaults = []) (hr : Room k callerA)
    (F : ∀ (w : World) (mg : Str → Option Value) (h : Heap), YP w h → h.Ns mainGlobals mg →
      ∃ (K : PySem.W.Frag), K.In h ∧ mg d.name = some (.ref (He.ga K "law")) ∧ ∀ base : Heap, CallOk l.prog w K mg base k "law" ["script"] φLaw) :
    PySem.W.WalkO q loose XP YP l.row.toRowW d [] (fun f vs => PySem.call f vs) := by
  refine Att.attach_call hn hdf fun w s₀ s₁ mg mb fa o pm cd doc a vs ns G Y ho hd hcd hmg hobj hints hlen hg => ?_
  obtain ⟨K, KX, gl, hF⟩ := F w mg _ Y G.T.g
  obtain rfl : fa = He.ga K "law" := by
    have e := hmg.symm.trans gl
    cases e
    rfl
  obtain ⟨fd, _, lk, hb⟩ := (hF s₁.heap).fn
  have hF2 : ∀ base : Heap, K.In base → base.Ns mainGlobals mg → FnOk l.prog w K mg base (L2.CX l.prog w) k (He.ga K "law") fd ["script"] (pSp K φLaw) := fun base _ _ => by
    obtain ⟨fd', F', lk', _⟩ := (hF base).fn
    obtain ⟨_, _, _, e1⟩ := lk
    obtain ⟨_, _, _, e2⟩ := lk'
    rw [e1] at e2
    cases e2
    exact F'
  exact law_call KX G.T.g G.T.b G.T.builtins G.T.nolimit hg hobj hints (Nat.le_trans hlen (by rw [sizeLine_eq]; decide)) hr hF2 (fun s u => hb s [u] rfl) (fun H hO hS => law_sp hlen hO hS) fun H e s' h => cx_never h
theorem CallOk.stream {P : Program} {w : World} {K : PySem.W.Frag} {mg : Str → Option Value} {base : Heap} {k : Nat} {x : Str} {ps : List Str} (h : CallOk P w K mg base k x ps φList) : CallOk P w K mg base k x ps φStream := by
  obtain ⟨⟨fd, F, lk, b⟩, kp, gl⟩ := h
  exact ⟨⟨fd, stream_close F, lk, b⟩, kp, gl⟩
end PL

set_option Elab.async false
set_option linter.all false
set_option autoImplicit false
set_option maxRecDepth 100000
set_option maxHeartbeats 2000000
/-! Texts: order, slices, walks, times; in; turned lists. -/
namespace PL
open PySem PySem.Spec PyProof.Rows L2
open Evl (Ex)
section
variable {X : Cx} {W : WX} {Ξ : Xi} {tg a b : Expr} {pos p : Pos}
/-- x in the order of texts -/
def ltS (x y : Str) : Bool := decide (x.cps.toList < y.cps.toList)
theorem op_le_str : OpR X (compareOp .LtE) (fun x y H Q => ∃ i j, x = .str i ∧ y = .str j ∧ Q (.bl (!ltS j i)) H) := by
  intro pins s σ H x y v u Q I rx ry h
  obtain ⟨i, j, rfl, rfl, q⟩ := h
  obtain ⟨t, rfl⟩ := rx
  obtain ⟨t', rfl⟩ := ry
  exact PySem.P.le_str (fin_bl I q rfl)
def oLeA : OP2
  | .int i, .int j, Q => Q (.bl (decide (i ≤ j)))
  | .str x, .str y, Q => Q (.bl (!ltS y x))
  | _, _, _ => False
theorem oy_leA : OpY X (compareOp .LtE) oLeA := by
  refine ⟨_, op_le.or op_le_str, fun F Hs σ H ε v w d1 d2 Q' Q R r1 r2 q k => ?_⟩
  unfold oLeA at q
  split at q
  · exact .inl ⟨_, _, r1.int', r2.int', k _ H Hs _ (Evl.Ex.refl _) R (.bl _) q⟩
  · exact .inr ⟨_, _, r1.str', r2.str', k _ H Hs _ (Evl.Ex.refl _) R (.bl _) q⟩
  · exact q.elim
/-- ord -/
def oOrd : OPC
  | [.str x], Q => gd (x.length = 1) (Q (.int (x.cps.getD 0 0 : Nat)))
  | _, _ => False
theorem cy_ord : CallY X (.builtin "ord") oOrd := by
  refine ⟨_, call_ord, fun F Hs σ H ε vs ds Q' Q R r q k => ?_⟩
  unfold oOrd at q
  split at q
  · obtain ⟨v, rfl, rv⟩ := r.one
    have q := gd_elim q
    exact ⟨_, by rw [rv.str'], q.1, k _ H Hs _ (Evl.Ex.refl _) R (.int _) q.2⟩
  · exact q.elim
/-- the signs of a text -/
def signsD (x : Str) : List D := x.cps.toList.map fun c => D.str ⟨#[c]⟩
theorem signsD_len {x : Str} : (signsD x).length = x.cps.size := by unfold signsD; rw [List.length_map, Array.length_toList]
theorem seqs_str {K : PySem.W.Frag} {Hs : Hp} {x : Str} : Seqs K Hs (Its x) (signsD x) where
  go := fun i H e hi => by rw [signsD_len] at hi; exact hi
  stop := fun i H e hi => by rw [signsD_len] at hi; exact hi
  yld := fun i F Hc σ H ε z H' e R hi y => by
    rw [signsD_len] at hi
    obtain ⟨rfl, c, hc, rfl⟩ := y
    refine ⟨Hc, .str ⟨#[c]⟩, Evl.Ex.refl _, R, ?_, .str _⟩
    unfold signsD
    rw [List.getElem?_map, Array.getElem?_toList, hc] <;> rfl
def asS (Q : Str → Prop) : D → Prop
  | .str x => Q x
  | _ => False
theorem asS_elim {d : D} {Q : Str → Prop} (h : asS Q d) : ∃ x, d = .str x ∧ Q x := by
  cases d with
  | str x => exact ⟨x, rfl, h⟩
  | _ => exact h.elim
/-- for sign in a text -/
def yiStr (r : PTE) : PTN := fun ε Q => r ε fun t ε' => res ε' t (asS fun x => Q (signsD x) ε')
theorem yi_str {r : PTE} (h : YE X W Ξ a r) : YI X W Ξ tg a (yiStr r) := by
  obtain ⟨t, p, k⟩ := h.ex
  refine ⟨_, pi_str p, fun F Hs σ H ε Q' R' R L q kk => k F Hs σ H ε _ _ R L q fun v H1 Hs1 t ε1 e1 R1 p1 q1 => ?_⟩
  obtain ⟨d, rv, q2⟩ := R1.res p1 q1
  obtain ⟨x, rfl, q2⟩ := asS_elim q2
  exact ⟨x, rv.str', kk _ H1 Hs1 _ ε1 e1 R1 seqs_str q2⟩
/-- x[a:b], a text -/
def ySlS (ra : PTE) (rl rh : PTO) : PTE := fun ε Q => ra ε fun t ε1 => rl ε1 fun lo ε2 => rh ε2 fun hi ε3 => res ε3 t (asS fun x => gd (x.length ≤ 16777216) (Q (.d (.str (cutS x lo hi))) ε3))
theorem ye_slS {lo hi : Option Expr} {p2 : Pos} {ra : PTE} {rl rh : PTO} (ha : YE X W Ξ a ra) (hl : YO X W Ξ lo rl) (hh : YO X W Ξ hi rh) : YE X W Ξ (.Subscript a (.Slice lo hi none p2) pos) (ySlS ra rl rh) := by
  obtain ⟨ta, pa, ka⟩ := ha.ex
  obtain ⟨tl, pl, kl⟩ := hl.ex
  obtain ⟨th, ph, kh⟩ := hh.ex
  refine ⟨_, pe_slice sl_str pa pl ph, fun F Hs σ H ε Q' Q R L q k => ?_⟩
  refine ka F Hs σ H ε _ _ R L q fun v H1 Hs1 t1 ε1 e1 R1 p1 q1 => ?_
  refine kl F Hs1 σ H1 ε1 _ _ R1 (L.mono e1) q1 fun l H2 Hs2 ε2 e2 R2 q2 => ?_
  refine kh F Hs2 σ H2 ε2 _ _ R2 (L.mono (e1.trans e2)) q2 fun h H3 Hs3 ε3 e3 R3 q3 => ?_
  obtain ⟨d, v1, q4⟩ := R3.res (p1.mono (e2.trans e3)) q3
  obtain ⟨x, rfl, q4⟩ := asS_elim q4
  have q4 := gd_elim q4
  exact ⟨x, v1.str', line_le q4.1, k _ H3 Hs3 _ ε3 ((e1.trans e2).trans e3) R3 (show RepT X.K Hs3 σ (.str (cutS x l h)) (.d (.str (cutS x l h))) from Rep.str _) q4.2⟩
/-- xs[::-1], a list -/
def ynRev (ra : PTE) : PTN := fun ε Q => ra ε fun t ε1 => res ε1 t (asL fun xs => Q xs.reverse ε1)
theorem Reps.rev {K : PySem.W.Frag} {H : Hp} : ∀ {vs : List V} {ds : List D}, Reps K H vs ds → Reps K H vs.reverse ds.reverse
  | _, _, .nil => .nil
  | _, _, .cons h t => by
    rw [List.reverse_cons, List.reverse_cons]
    exact (Reps.rev t).append (.cons h .nil)
theorem yn_rev {k : Nat} {p1 p2 p3 : Pos} {ra : PTE} (ha : YE X W Ξ a ra) : YN X W Ξ (.Subscript a (.Slice none none (some (.UnaryOp .USub (.Constant (.int 1) k p1) p2)) p3) pos) (ynRev ra) := by
  obtain ⟨ta, pa, ka⟩ := ha.ex
  refine ⟨_, pe_revL pa, fun F Hs σ H ε Q' Q R L q k => ?_⟩
  refine ka F Hs σ H ε _ _ R L q fun v H1 Hs1 t1 ε1 e1 R1 p1 q1 => ?_
  obtain ⟨d, v1, q4⟩ := R1.res p1 q1
  obtain ⟨xs, rfl, q4⟩ := asL_elim q4
  obtain ⟨a, vs, g1, h1, p1⟩ := v1.lst' R1.ex
  refine ⟨a, vs, g1, SqL.of h1, fun p hp => ?_⟩
  obtain ⟨n1, n2, n3⟩ := R1.nobody hp
  exact k p _ Hs1 _ _ ε1 e1 (R1.lay hp) upd_same n1 n2 n3 p1.rev q4
/-- text times a number -/
def repS (x : Str) (n : Nat) : Str := ⟨(List.replicate n x.cps.toList).flatten.toArray⟩
theorem foldl_repA (l : List Nat) : ∀ (n : Nat) (acc : Array Nat), (List.replicate n l.toArray).foldl (· ++ ·) acc = acc ++ (List.replicate n l).flatten.toArray
  | 0, acc => by simp
  | n + 1, acc => by
    rw [List.replicate_succ, List.foldl_cons, foldl_repA l n, List.replicate_succ, List.flatten_cons]
    simp
theorem repS_len {x : Str} {n : Nat} : (repS x n).length = x.length * n := by
  show ((List.replicate n x.cps.toList).flatten.toArray).size = x.cps.size * n
  rw [List.size_toArray, List.length_flatten, List.map_replicate, List.sum_replicate_nat, Array.length_toList, Nat.mul_comm]
theorem op_mul_str : OpR X (binaryOp .Mult) (fun x y H Q => ∃ z n, x = .str z ∧ y = .int n ∧ -(2 ^ 63) ≤ n ∧ n < 2 ^ 63 ∧ z.length * n.toNat ≤ sizeLine ∧ Q (.str (repS z n.toNat)) H) := by
  intro pins s σ H x y v u Q I rx ry h
  obtain ⟨z, n, rfl, rfl, h1, h2, hz, q⟩ := h
  obtain ⟨t, rfl⟩ := rx
  obtain ⟨t', rfl⟩ := ry
  have hs : sizeLine = 16777216 := sizeLine_eq
  have big : ¬ n < 1 → ((z.length : Int) * n ≤ 16777216) := fun h0 => by
    have e : n = ((n.toNat : Nat) : Int) := by omega
    rw [e]
    have : ((z.length * n.toNat : Nat) : Int) ≤ 16777216 := by omega
    rw [Int.natCast_mul] at this
    exact this
  refine PySem.P.mul_str ?_ (fun h0 _ => ?_) (fun h0 _ => ?_) ?_
  · rw [decide_eq_false (by omega), decide_eq_false (by omega)]
    rfl
  · have := big h0
    have hn : 0 < n := by omega
    have h3 : (z.length : Int) ≤ (2 ^ 63 - 1) / n := (Int.le_ediv_iff_mul_le hn).mpr (Int.le_trans this (by decide))
    omega
  · show decide (z.length * n.toNat > sizeLine) = false
    exact decide_eq_false (by omega)
  · by_cases h0 : n < 1
    · rw [if_pos h0]
      have e : repS z n.toNat = Str.empty := by
        have : n.toNat = 0 := by omega
        rw [this]
        rfl
      rw [e] at q
      exact ⟨by decide, .str Str.empty, H, I.tok _, ⟨_, rfl⟩, q⟩
    · rw [if_neg h0]
      by_cases h4 : (n == 1 || z.length == 0) = true
      · rw [if_pos h4]
        have e : repS z n.toNat = z := by
          rcases Bool.or_eq_true_iff.mp h4 with h5 | h5
          · have : n = 1 := by simpa using h5
            subst this
            obtain ⟨z⟩ := z
            show (⟨([z.toList].flatten).toArray⟩ : Str) = ⟨z⟩
            simp
          · have h6 : z.length = 0 := by simpa using h5
            obtain ⟨z⟩ := z
            have h7 : z = #[] := Array.eq_empty_of_size_eq_zero h6
            subst h7
            show (⟨((List.replicate n.toNat []).flatten).toArray⟩ : Str) = ⟨#[]⟩
            simp
        rw [e] at q
        exact ⟨.str z, H, I, ⟨_, rfl⟩, q⟩
      · rw [if_neg h4]
        have e : (⟨(List.replicate n.toNat z.cps).foldl (· ++ ·) #[]⟩ : Str) = repS z n.toNat := by
          have := foldl_repA z.cps.toList n.toNat #[]
          rw [Array.toArray_toList] at this
          rw [this]
          simp [repS]
        rw [e]
        exact ⟨by rw [repS_len]; exact hz, .str (repS z n.toNat), H, I.tok _, ⟨_, rfl⟩, q⟩
def oMulA : OP2
  | .int i, .int j, Q => gd ((-18446744073709551616 < i ∧ i < 18446744073709551616) ∨ (-18446744073709551616 < j ∧ j < 18446744073709551616)) (Q (.int (i * j)))
  | .lst xs, .int k, Q => gd (smallB k = true ∧ xs.length * k.toNat ≤ 16777216) (Q (.lst (List.replicate k.toNat xs).flatten))
  | .str x, .int k, Q => gd (smallB k = true ∧ x.length * k.toNat ≤ 16777216) (Q (.str (repS x k.toNat)))
  | _, _, _ => False
theorem oy_mulA : OpY X (binaryOp .Mult) oMulA := by
  refine ⟨_, op_mul.or (op_rep.or op_mul_str), fun F Hs σ H ε v w d1 d2 Q' Q R r1 r2 q k => ?_⟩
  unfold oMulA at q
  split at q
  · have q := gd_elim q
    refine .inl ⟨_, _, r1.int', r2.int', ?_, k _ H Hs _ (Evl.Ex.refl _) R (.int _) q.2⟩
    exact q.1
  · have q := gd_elim q
    obtain ⟨a, vs, e1, h1, p1⟩ := r1.lst' R.ex
    obtain ⟨s1, s2⟩ := small_of q.1.1
    refine .inr (.inl ⟨a, _, vs, e1, r2.int', h1, by omega, by omega, by rw [p1.len]; exact line_le q.1.2, fun p hp => ?_⟩)
    obtain ⟨R3, e3⟩ := R.new (o := .lst (List.replicate (Int.toNat _) vs).flatten) hp
    exact k (.ref p) _ _ _ e3 R3 (.lst upd_same ((p1.rep _).mono e3)) q.2
  · have q := gd_elim q
    obtain ⟨s1, s2⟩ := small_of q.1.1
    exact .inr (.inr ⟨_, _, r1.str', r2.int', by omega, by omega, line_le q.1.2, k _ H Hs _ (Evl.Ex.refl _) R (.str _) q.2⟩)
  · exact q.elim
/-! ### in a list, a tuple of flat items -/
def flatD : D → Bool
  | .non => true
  | .bl _ => true
  | .int _ => true
  | .str _ => true
  | _ => false
def eqF : D → D → Bool
  | .non, .non => true
  | .bl a, .bl b => a == b
  | .bl a, .int b => (if a then 1 else 0) == b
  | .int a, .bl b => a == (if b then 1 else 0)
  | .int a, .int b => a == b
  | .str a, .str b => a == b
  | _, _ => false
def inF (x : D) (ys : List D) : Bool := ys.any fun y => eqF y x
def flatAll : List D → Bool
  | [] => true
  | d :: ds => match flatD d with
    | true => flatAll ds
    | false => false
def oIn (neg : Bool) : OP2 := fun x y Q => match y with
  | .lst ys => gd (flatD x = true ∧ flatAll ys = true) (Q (.bl (match neg with | true => !inF x ys | false => inF x ys)))
  | .tup ys => gd (flatD x = true ∧ flatAll ys = true) (Q (.bl (match neg with | true => !inF x ys | false => inF x ys)))
  | _ => False
theorem flat_rep {K : PySem.W.Frag} {H : Hp} {v : V} {d : D} (r : Rep K H v d) (f : flatD d = true) : flatV v = true ∧ ∀ w e, Rep K H w e → flatD e = true → eqV v w = eqF d e := by
  cases r <;> first
    | (cases f; done)
    | (refine ⟨rfl, fun w e r2 f2 => ?_⟩
       cases r2 <;> first | (cases f2; done) | rfl)
theorem flat_all {K : PySem.W.Frag} {H : Hp} : ∀ {vs : List V} {ds : List D}, Reps K H vs ds → flatAll ds = true → vs.all flatV = true ∧ ∀ w e, Rep K H w e → flatD e = true → inV w vs = inF e ds
  | _, _, .nil, _ => ⟨rfl, fun _ _ _ _ => rfl⟩
  | _, _, .cons (d := d) (ds := ds) h t, f => by
    have f1 : flatD d = true ∧ flatAll ds = true := by
      unfold flatAll at f
      split at f
      · rename_i e
        exact ⟨e, f⟩
      · cases f
    obtain ⟨a1, a2⟩ := flat_rep h f1.1
    obtain ⟨b1, b2⟩ := flat_all t f1.2
    refine ⟨by rw [List.all_cons, a1, b1]; rfl, fun w e r2 f2 => ?_⟩
    show ((_ :: _ : List V).any _) = ((_ :: _ : List D).any _)
    rw [List.any_cons, List.any_cons, a2 w e r2 f2]
    have := b2 w e r2 f2
    unfold inV inF at this
    rw [this]
theorem oy_in_core {neg : Bool} {op : CmpOp} (h : OpR X (compareOp op) (rIn X.K neg)) : OpY X (compareOp op) (oIn neg) := by
  refine ⟨_, h, fun F Hs σ H ε v w d1 d2 Q' Q R r1 r2 q k => ?_⟩
  unfold oIn at q
  split at q
  · have q := gd_elim q
    obtain ⟨a, vs, e1, h1, p1⟩ := r2.lst' R.ex
    have r1' : Rep X.K Hs v d1 := by
      cases d1 <;> first | (cases q.1.1; done) | (first | (rw [r1.int']; exact .int _) | (rw [r1.str']; exact .str _) | (rw [r1.bl']; exact .bl _) | (rw [r1.non']; exact .non))
    obtain ⟨g1, g2⟩ := flat_all p1 q.1.2
    obtain ⟨g3, _⟩ := flat_rep r1' q.1.1
    refine ⟨a, vs, e1, .inl (SqL.of h1), g3, g1, ?_⟩
    rw [g2 v d1 r1' q.1.1]
    cases neg
    · exact k _ H Hs _ (Evl.Ex.refl _) R (.bl _) q.2
    · exact k _ H Hs _ (Evl.Ex.refl _) R (.bl _) q.2
  · have q := gd_elim q
    obtain ⟨a, vs, e1, h1, p1⟩ := r2.tup' R.ex
    have r1' : Rep X.K Hs v d1 := by
      cases d1 <;> first | (cases q.1.1; done) | (first | (rw [r1.int']; exact .int _) | (rw [r1.str']; exact .str _) | (rw [r1.bl']; exact .bl _) | (rw [r1.non']; exact .non))
    obtain ⟨g1, g2⟩ := flat_all p1 q.1.2
    obtain ⟨g3, _⟩ := flat_rep r1' q.1.1
    refine ⟨a, vs, e1, .inr h1, g3, g1, ?_⟩
    rw [g2 v d1 r1' q.1.1]
    cases neg
    · exact k _ H Hs _ (Evl.Ex.refl _) R (.bl _) q.2
    · exact k _ H Hs _ (Evl.Ex.refl _) R (.bl _) q.2
  · exact q.elim
theorem oy_in : OpY X (compareOp .In) (oIn false) := oy_in_core op_in_seq
theorem oy_notin : OpY X (compareOp .NotIn) (oIn true) := oy_in_core op_notIn_seq
/-! ### a, b, c = x, y, z: data -/
def ysPar3 (i j l : Nat) (rs : PTL) : PTS := fun Δ ε => rs ε fun ts ε1 => outs ε1 ts fun ds ε2 => match ds with
  | [d1, d2, d3] => Δ.nx (((ε2.set i (some (.v d1))).set j (some (.v d2))).set l (some (.v d3)))
  | _ => False
theorem ys_par3 (i j l : Nat) {x y z : Str} {a b c : Expr} {rs : PTL} {px py pz pt : Pos} {kt k2 : Nat} {pt2 : Pos} (hc : X.calm = true) (hN : X.N.Nodup) (hi : X.N[i]? = some x) (hj : X.N[j]? = some y) (hl : X.N[l]? = some z) (hij : i ≠ j) (hil : i ≠ l) (hjl : j ≠ l)
    (hx : X.env.scope.names.lookup x = some .local) (hy : X.env.scope.names.lookup y = some .local) (hz : X.env.scope.names.lookup z = some .local) (ha : YL X W Ξ [a, b, c] rs)
    (hw : swappedStores [.Tuple [.Name x px, .Name y py, .Name z pz] kt pt] (.Tuple [a, b, c] k2 pt2) X.env = pure (some [x, y, z]) := by rfl)
    (hs : swapsWithSole [.Tuple [.Name x px, .Name y py, .Name z pz] kt pt] (.Tuple [a, b, c] k2 pt2) pos.line X.env = pure false := by rfl) :
    YS X W Ξ (.Assign [.Tuple [.Name x px, .Name y py, .Name z pz] kt pt] (.Tuple [a, b, c] k2 pt2) pos) (ysPar3 i j l rs) := by
  obtain ⟨ta, pa, ka⟩ := ha.ex
  refine ⟨_, ps_par3 hc hN hi hj hl hij hil hjl hx hy hz pa hw hs, fun F Hs σ H ε Δ Dd R L q kk => ?_⟩
  refine ka F Hs σ H ε _ _ R L q fun vs H1 Hs1 ts ε1 e1 R1 p1 q1 => ?_
  obtain ⟨ds, ε2, Hs2, e2, R2, rv, q2⟩ := R1.outs p1 q1
  split at q2
  · cases rv with
    | cons r1 rv =>
      cases rv with
      | cons r2 rv =>
        cases rv with
        | cons r3 rv =>
          cases rv
          exact ⟨_, _, _, rfl, kk.nx _ H1 Hs2 _ (e1.trans e2) (((R2.store r1 i).store r2 j).store r3 l) q2⟩
  · exact q2.elim
end
end PL

set_option Elab.async false
set_option linter.all false
set_option autoImplicit false
set_option maxRecDepth 100000
set_option maxHeartbeats 1000000
/-! Texts as lists of signs; what two lists have alike; [f(x) for x in xs]. -/
namespace PL
open PySem PySem.Spec PyProof.Rows L2
/-- a text of signs -/
abbrev S0 (l : List Nat) : Str := ⟨⟨l⟩⟩
theorem str_eta (x : Str) : x = S0 x.cps.toList := rfl
theorem dec_sign {c d : Nat} : decide (S0 [c] = S0 [d]) = decide (c = d) := by
  by_cases h : c = d
  · subst h; rw [decide_eq_true rfl, decide_eq_true rfl]
  · rw [decide_eq_false h, decide_eq_false]
    intro z
    apply h
    have := congrArg (fun s : Str => s.cps.toList) z
    simpa using this
theorem lt_sign {c d : Nat} : ltS (S0 [c]) (S0 [d]) = decide (c < d) := by
  unfold ltS
  show decide ([c] < [d]) = decide (c < d)
  have e : [c] < [d] ↔ c < d := by
    rw [List.cons_lt_cons_iff]
    simp
  by_cases h : c < d
  · rw [decide_eq_true h, decide_eq_true (e.mpr h)]
  · rw [decide_eq_false h, decide_eq_false (fun z => h (e.mp z))]
theorem sIx_in {n d : Nat} {i : Int} (h0 : 0 ≤ i) (h1 : i ≤ n) : HT.sIx n d (some i) = i.toNat := by
  obtain ⟨j, rfl⟩ := Int.eq_ofNat_of_zero_le h0
  rw [HT.sIx_nat, Int.toNat_natCast]
  omega
theorem cut_from {l : List Nat} {i : Int} (h0 : 0 ≤ i) (h1 : i ≤ l.length) : cutS (S0 l) (some i) none = S0 (l.drop i.toNat) := by
  unfold cutS
  show (⟨((l.drop (HT.sIx l.length 0 (some i))).take (l.length - HT.sIx l.length 0 (some i))).toArray⟩ : Str) = _
  rw [sIx_in h0 h1, List.take_of_length_le (by rw [List.length_drop]; omega)]
theorem cut_to {l : List Nat} {i : Int} (h0 : 0 ≤ i) (h1 : i ≤ l.length) : cutS (S0 l) none (some i) = S0 (l.take i.toNat) := by
  unfold cutS
  show (⟨((l.drop 0).take (HT.sIx l.length l.length (some i) - 0)).toArray⟩ : Str) = _
  rw [sIx_in h0 h1]
  rfl
theorem cut_mid {l : List Nat} {i j : Int} (h0 : 0 ≤ i) (h1 : i ≤ j) (h2 : j ≤ l.length) : cutS (S0 l) (some i) (some j) = S0 ((l.drop i.toNat).take (j.toNat - i.toNat)) := by
  unfold cutS
  show (⟨((l.drop (HT.sIx l.length 0 (some i))).take (HT.sIx l.length l.length (some j) - HT.sIx l.length 0 (some i))).toArray⟩ : Str) = _
  rw [sIx_in h0 (by omega), sIx_in (by omega) h2]
/-- how far two lists are alike -/
def cpre : List Nat → List Nat → Nat
  | x :: xs, y :: ys => if x = y then cpre xs ys + 1 else 0
  | _, _ => 0
theorem cpre_le : ∀ xs ys : List Nat, cpre xs ys ≤ xs.length ∧ cpre xs ys ≤ ys.length
  | [], _ => ⟨Nat.zero_le _, Nat.zero_le _⟩
  | _ :: _, [] => ⟨Nat.zero_le _, Nat.zero_le _⟩
  | x :: xs, y :: ys => by
    unfold cpre
    split
    · obtain ⟨h1, h2⟩ := cpre_le xs ys
      exact ⟨Nat.succ_le_succ h1, Nat.succ_le_succ h2⟩
    · exact ⟨Nat.zero_le _, Nat.zero_le _⟩
/-- one more sign alike, or the end of it -/
theorem cpre_at : ∀ {xs ys : List Nat} {n : Nat} {a b : Nat}, n ≤ cpre xs ys → xs[n]? = some a → ys[n]? = some b → (a = b ∧ n + 1 ≤ cpre xs ys) ∨ (a ≠ b ∧ n = cpre xs ys)
  | [], _, n, a, b, _, h, _ => by simp at h
  | _ :: _, [], n, a, b, _, _, h => by simp at h
  | x :: xs, y :: ys, 0, a, b, hn, ha, hb => by
    obtain rfl : x = a := by simpa using ha
    obtain rfl : y = b := by simpa using hb
    unfold cpre
    split
    · rename_i e
      exact .inl ⟨e, by omega⟩
    · rename_i e
      exact .inr ⟨e, rfl⟩
  | x :: xs, y :: ys, n + 1, a, b, hn, ha, hb => by
    unfold cpre at hn ⊢
    split at hn
    · rename_i e
      rw [if_pos e]
      rcases cpre_at (xs := xs) (ys := ys) (n := n) (by omega) (by simpa using ha) (by simpa using hb) with ⟨h1, h2⟩ | ⟨h1, h2⟩
      · exact .inl ⟨h1, by omega⟩
      · exact .inr ⟨h1, by omega⟩
    · omega
theorem cpre_end {xs ys : List Nat} {n : Nat} (h : n ≤ cpre xs ys) (e : n = xs.length ∨ n = ys.length) : n = cpre xs ys := by
  have := cpre_le xs ys
  omega
/-- the sign at a place -/
theorem opt_sign {l : List Nat} {i : Int} {n : Nat} {c : Nat} {Q : Nat → Prop} (hi : i = (n : Int)) (h : l[n]? = some c) (k : Q c) : opt (atI l i) Q := by
  subst hi
  exact opt_of (atI_nat h) k
theorem get_of {l : List Nat} {n : Nat} (h : n < l.length) : ∃ c, l[n]? = some c := ⟨l[n], List.getElem?_eq_getElem h⟩
/-- [f(x) for x in xs] -/
theorem lc_map {g : PTG} {rt : PTT} {re : PTE} {vs : List Nat} {ε1 : PEnv} {Q : List D → PEnv → Prop} {ds : List D} (f : D → D)
    (st : ∀ (i : Nat) (d : D), ds[i]? = some d → ∀ (K : D → Prop) (N : Prop), K (f d) → g d (wipeE ε1 vs) fun ε2 => rt ε2 fun k ε3 => match k with
      | true => re ε3 fun t ε4 => out ε4 t fun y ε5 => wipeE ε5 vs = wipeE ε1 vs ∧ K y
      | false => wipeE ε3 vs = wipeE ε1 vs ∧ N) (fin : Q (ds.map f) ε1) : ∃ Wp : Nat → List D → Prop, Wp 0 [] ∧
  (∀ i d acc, i < ds.length → ds[i]? = some d → acc.length ≤ i → Wp i acc → g d (wipeE ε1 vs) fun ε2 => rt ε2 fun k ε3 => match k with
    | true => re ε3 fun t ε4 => out ε4 t fun y ε5 => wipeE ε5 vs = wipeE ε1 vs ∧ Wp (i + 1) (acc ++ [y])
    | false => wipeE ε3 vs = wipeE ε1 vs ∧ Wp (i + 1) acc) ∧ ∀ acc, acc.length ≤ ds.length → Wp ds.length acc → Q acc ε1 := by
  refine ⟨fun i acc => acc = (ds.take i).map f, rfl, fun i d acc hi hd hl w => ?_, fun acc hl w => ?_⟩
  · refine st i d hd (fun y => acc ++ [y] = (ds.take (i + 1)).map f) (acc = (ds.take (i + 1)).map f) ?_
    subst w
    have hd2 : ds[i] = d := by
      rw [List.getElem?_eq_getElem hi] at hd
      exact Option.some.inj hd
    rw [List.take_succ_eq_append_getElem hi, List.map_append, hd2]
    rfl
  · subst w
    rw [List.take_length]
    exact fin
theorem all_bls {xs : List Bool} {Q : D → Prop} (h : Q (.bl (xs.all id))) : oAll [.lst (xs.map D.bl)] Q := by
  show opt (toBls (xs.map D.bl)) _
  rw [toBls_map]
  exact h
end PL

set_option Elab.async false
set_option linter.all false
set_option autoImplicit false
set_option maxRecDepth 100000
set_option maxHeartbeats 1000000
namespace PL.K16
open PySem PySem.Spec PyProof.Rows L2
local macro_rules | `(tactic| walk_at "y") => `(tactic| conv => whnf)
theorem s_nl : ("\n" : Str) = S0 [10] := by kernel_rfl
theorem s_sp : (" " : Str) = S0 [32] := by kernel_rfl
theorem s_ti : ("~" : Str) = S0 [126] := by kernel_rfl
def toldC (c : Nat) : Bool := decide (c = 10) || (decide (32 ≤ c) && (decide (c ≤ 126) && !decide (c = 37)))
def toldL (c : Nat) : Bool := decide (c = 10) || (decide (32 ≤ c) && decide (c ≤ 126))
def φ_is_told : Spec
  | [.str x], Q, _ => ∃ c, x = S0 [c] ∧ Q (.bl (toldC c))
  | _, _, _ => False
abbrev N_is_told : List Str := ["sign"]
def r_is_told (Ξ : Xi) : PTS :=
  (ysRet (yOrV (yBin (oEq false) (yVar 0) (yC (.str ("\n" : Str)))) (yAndV (yChain oLeA oLeA (yC (.str (" " : Str))) (yVar 0) (yC (.str ("~" : Str)))) (yBin (oEq true) (yCB oOrd (ylCons (yVar 0) ylNil)) (yC (.int 37))))))
theorem vc_is_told (ds : List D) (Q' : D → Prop) (E' : Nat → Prop) (h : φ_is_told ds Q' E') : r_is_told (fun c _ => E' c) { nx := fun _ => Q' .non, rt := fun d _ => Q' d } (startE N_is_told ds) := by
  unfold φ_is_told at h
  split at h
  · rename_i x
    obtain ⟨c, rfl, h⟩ := h
    delta r_is_told
    rw [s_nl, s_sp, s_ti]
    walk_at "y"
    show (match decide (S0 [c] = S0 [10]) with
      | true => _
      | false => _)
    rw [dec_sign]
    cases e1 : decide (c = 10) with
    | true =>
      have e1 := of_decide_eq_true e1
      have e : toldC c = true := by simp [toldC, e1]
      rw [e] at h
      exact h
    | false =>
      have e1 := of_decide_eq_false e1
      walk_at "y"
      show (match !ltS (S0 [c]) (S0 [32]) with
        | true => _
        | false => _)
      rw [lt_sign]
      cases e2 : decide (c < 32) with
      | true =>
        have e2 := of_decide_eq_true e2
        have e : toldC c = false := by simp [toldC]; omega
        rw [e] at h
        exact h
      | false =>
        have e2 := of_decide_eq_false e2
        walk_at "y"
        show (match !ltS (S0 [126]) (S0 [c]) with
          | true => _
          | false => _)
        rw [lt_sign]
        cases e3 : decide (126 < c) with
        | true =>
          have e3 := of_decide_eq_true e3
          have e : toldC c = false := by simp [toldC]; omega
          rw [e] at h
          exact h
        | false =>
          have e3 := of_decide_eq_false e3
          have e : toldC c = !decide (((c : Nat) : Int) = 37) := by
            by_cases h37 : c = 37
            · rw [decide_eq_true (show ((c : Nat) : Int) = 37 by omega)]
              simp [toldC]; omega
            · rw [decide_eq_false (show ¬ ((c : Nat) : Int) = 37 by omega)]
              simp [toldC]; omega
          rw [e] at h
          exact h
  · exact h.elim
/-! ### data that isinstance tells, texts short enough -/
def regB : D → Bool
  | .vl _ => false
  | .pool => false
  | _ => true
def okD : D → Bool
  | .str x => decide (x.cps.toList.length ≤ 100000) && x.cps.toList.all fun c => !decide (c = 37)
  | d => regB d
def toldD : D → Bool
  | .str x => x.cps.toList.all toldC
  | _ => false
def textB : D → Bool
  | .str x => decide (x.cps.toList.length ≤ 3000) && x.cps.toList.all toldC
  | _ => false
def signB (f : Nat → Bool) : D → D
  | .str x => .bl (f (x.cps.toList.headD 0))
  | _ => .non
theorem signs_map {l : List Nat} {f : Nat → Bool} : (signsD (S0 l)).map (signB f) = (l.map f).map D.bl := by
  unfold signsD
  rw [List.map_map, List.map_map]
  rfl
theorem signs_get {l : List Nat} {i : Nat} {d : D} (h : (signsD (S0 l))[i]? = some d) : ∃ c, d = .str (S0 [c]) := by
  unfold signsD at h
  rw [List.getElem?_map] at h
  cases e : l[i]? with
  | none =>
    replace h : Option.map _ (l[i]?) = some d := h
    rw [e] at h; cases h
  | some c =>
    replace h : Option.map _ (l[i]?) = some d := h
    rw [e] at h
    exact ⟨c, (Option.some.inj h).symm⟩
theorem okD_reg {d : D} (h : okD d = true) : regB d = true := by
  cases d <;> first | rfl | exact h
theorem okD_len {l : List Nat} (h : okD (.str (S0 l)) = true) : l.length ≤ 100000 := by
  have := (Bool.and_eq_true_iff.mp (show (decide (l.length ≤ 100000) && _) = true from h)).1
  exact of_decide_eq_true this
def φ_are_told : Spec
  | [d], Q, _ => okD d = true ∧ Q (.bl (toldD d))
  | _, _, _ => False
abbrev N_are_told : List Str := ["value", "sign"]
def r_are_told (Ξ : Xi) : PTS :=
  (ysRet (yAndV (yIs .str (yVar 0)) (yCB oAll (ylCons (yNew (ynLc (yiStr (yVar 0)) (gN 1) yYes (yCall φ_is_told Ξ0 (ylCons (yVar 1) ylNil)) [1])) ylNil))))
theorem vc_are_told (ds : List D) (Q' : D → Prop) (E' : Nat → Prop) (h : φ_are_told ds Q' E') : r_are_told (fun c _ => E' c) { nx := fun _ => Q' .non, rt := fun d _ => Q' d } (startE N_are_told ds) := by
  unfold φ_are_told at h
  split at h
  · rename_i d
    obtain ⟨ok, h⟩ := h
    cases d with
    | str x =>
      obtain ⟨⟨l⟩⟩ := x
      have hl := okD_len ok
      refine ⟨⟨trivial, trivial⟩, ?_, lc_map (signB toldC) (fun i d hd K N hk => ?_) ?_⟩
      · rw [signsD_len]
        show l.length ≤ 16777216
        omega
      · obtain ⟨c, rfl⟩ := signs_get hd
        exact ⟨c, rfl, rfl, hk⟩
      · rw [signs_map]
        refine all_bls ?_
        rw [List.all_map]
        exact h
    | vl _ => cases ok
    | pool => cases ok
    | _ => exact h
  · exact h.elim
def φ_is_text : Spec
  | [d], Q, _ => okD d = true ∧ Q (.bl (textB d))
  | _, _, _ => False
abbrev N_is_text : List Str := ["value"]
def r_is_text (Ξ : Xi) : PTS :=
  (ysRet (yAndV (yIs .str (yVar 0)) (yAndV (yBin oLeA (yCB oLen (ylCons (yVar 0) ylNil)) (yC (.int 3000))) (yCall φ_are_told Ξ (ylCons (yVar 0) ylNil)))))
theorem vc_is_text (ds : List D) (Q' : D → Prop) (E' : Nat → Prop) (h : φ_is_text ds Q' E') : r_is_text (fun c _ => E' c) { nx := fun _ => Q' .non, rt := fun d _ => Q' d } (startE N_is_text ds) := by
  unfold φ_is_text at h
  split at h
  · rename_i d
    obtain ⟨ok, h⟩ := h
    cases d with
    | str x =>
      obtain ⟨⟨l⟩⟩ := x
      have hl := okD_len ok
      refine gd_of (show l.length ≤ 16777216 by omega) ?_
      walk_at "y"
      show (match decide (((l.length : Nat) : Int) ≤ 3000) with
        | true => _
        | false => _)
      cases e : decide (((l.length : Nat) : Int) ≤ 3000) with
      | true =>
        have e := of_decide_eq_true e
        have e2 : textB (.str (S0 l)) = toldD (.str (S0 l)) := by
          show (decide (l.length ≤ 3000) && _) = _
          rw [decide_eq_true (by omega)]
          rfl
        replace h : Q' (.bl (textB (.str (S0 l)))) := h
        rw [e2] at h
        exact ⟨ok, h⟩
      | false =>
        have e := of_decide_eq_false e
        have e2 : textB (.str (S0 l)) = false := by
          show (decide (l.length ≤ 3000) && _) = _
          rw [decide_eq_false (by omega)]
          rfl
        replace h : Q' (.bl (textB (.str (S0 l)))) := h
        rw [e2] at h
        exact h
    | vl _ => cases ok
    | pool => cases ok
    | _ => exact h
  · exact h.elim
def φ_law_is_text : Spec
  | [d], Q, _ => okD d = true ∧ Q (.bl (textB d))
  | _, _, _ => False
theorem told_same {l : List Nat} (h : okD (.str (S0 l)) = true) : l.all toldL = l.all toldC := by
  have h2 := (Bool.and_eq_true_iff.mp (show (_ && l.all fun c => !decide (c = 37)) = true from h)).2
  rw [List.all_eq_true] at h2
  rw [Bool.eq_iff_iff, List.all_eq_true, List.all_eq_true]
  have key : ∀ c ∈ l, toldL c = toldC c := fun c hc => by
    have := h2 c hc
    unfold toldL toldC
    rw [this]
    simp
  exact ⟨fun z c hc => by rw [← key c hc]; exact z c hc, fun z c hc => by rw [key c hc]; exact z c hc⟩
abbrev N_law_is_text : List Str := ["value", "sign"]
def r_law_is_text (Ξ : Xi) : PTS :=
  (ysSeq (ysIf (yOr (yNot (yTru (yIs .str (yVar 0)))) (yBinT oGt (yCB oLen (ylCons (yVar 0) ylNil)) (yC (.int 3000))))
  (ysRet (yC (.bl false)))
  ysNext)
  (ysRet (yCB oAll (ylCons (yNew (ynLc (yiStr (yVar 0)) (gN 1) yYes (yOrV (yBin (oEq false) (yVar 1) (yC (.str ("\n" : Str)))) (yAndV (yBin oLeA (yC (.str (" " : Str))) (yVar 1)) (yBin oLeA (yVar 1) (yC (.str ("~" : Str)))))) [1])) ylNil))))
theorem vc_law_is_text (ds : List D) (Q' : D → Prop) (E' : Nat → Prop) (h : φ_law_is_text ds Q' E') : r_law_is_text (fun c _ => E' c) { nx := fun _ => Q' .non, rt := fun d _ => Q' d } (startE N_law_is_text ds) := by
  unfold φ_law_is_text at h
  split at h
  · rename_i d
    obtain ⟨ok, h⟩ := h
    cases d with
    | str x =>
      obtain ⟨⟨l⟩⟩ := x
      have hl := okD_len ok
      refine gd_of (show l.length ≤ 16777216 by omega) ?_
      walk_at "y"
      show (match decide ((3000 : Int) < ((l.length : Nat) : Int)) with
        | true => _
        | false => _)
      cases e : decide ((3000 : Int) < ((l.length : Nat) : Int)) with
      | true =>
        have e := of_decide_eq_true e
        have e2 : textB (.str (S0 l)) = false := by
          show (decide (l.length ≤ 3000) && _) = _
          rw [decide_eq_false (by omega)]
          rfl
        replace h : Q' (.bl (textB (.str (S0 l)))) := h
        rw [e2] at h
        exact h
      | false =>
        have e := of_decide_eq_false e
        have e2 : textB (.str (S0 l)) = l.all toldL := by
          show (decide (l.length ≤ 3000) && _) = _
          rw [decide_eq_true (by omega), told_same ok]
          rfl
        replace h : Q' (.bl (textB (.str (S0 l)))) := h
        rw [e2] at h
        refine ⟨⟨trivial, trivial⟩, ?_, lc_map (signB toldL) (fun i d hd K N hk => ?_) ?_⟩
        · rw [signsD_len]
          show l.length ≤ 16777216
          omega
        · obtain ⟨c, rfl⟩ := signs_get hd
          rw [s_nl, s_sp, s_ti]
          replace hk : K (.bl (toldL c)) := hk
          walk_at "y"
          show (match decide (S0 [c] = S0 [10]) with
            | true => _
            | false => _)
          rw [dec_sign]
          cases e1 : decide (c = 10) with
          | true =>
            have e1 := of_decide_eq_true e1
            have e : toldL c = true := by simp [toldL, e1]
            rw [e] at hk
            exact ⟨rfl, hk⟩
          | false =>
            have e1 := of_decide_eq_false e1
            walk_at "y"
            show (match !ltS (S0 [c]) (S0 [32]) with
              | true => _
              | false => _)
            rw [lt_sign]
            cases e2 : decide (c < 32) with
            | true =>
              have e2 := of_decide_eq_true e2
              have e : toldL c = false := by simp [toldL]; omega
              rw [e] at hk
              exact ⟨rfl, hk⟩
            | false =>
              have e2 := of_decide_eq_false e2
              have e : toldL c = !ltS (S0 [126]) (S0 [c]) := by
                rw [lt_sign]
                by_cases h3 : 126 < c
                · rw [decide_eq_true h3]
                  simp [toldL]; omega
                · rw [decide_eq_false h3]
                  simp [toldL]; omega
              rw [e] at hk
              exact ⟨rfl, hk⟩
        · rw [signs_map]
          refine all_bls ?_
          rw [List.all_map]
          exact h
    | vl _ => cases ok
    | pool => cases ok
    | _ => exact h
  · exact h.elim
def numB : D → Bool
  | .int i => decide (0 ≤ i)
  | _ => false
def φ_is_number : Spec
  | [d, .int 0, .non], Q, _ => okD d = true ∧ Q (.bl (numB d))
  | _, _, _ => False
abbrev N_is_number : List Str := ["value", "low", "high"]
def r_is_number (Ξ : Xi) : PTS :=
  (ysSeq (ysIf (yOr (yTru (yIs .bool (yVar 0))) (yNot (yTru (yIs .int (yVar 0)))))
  (ysRet (yC (.bl false)))
  ysNext)
  (ysRet (yAndV (yBin oLeA (yVar 1) (yVar 0)) (yOrV (yBin (oIsN false) (yVar 2) (yC .non)) (yBin oLeA (yVar 0) (yVar 2))))))
theorem vc_is_number (ds : List D) (Q' : D → Prop) (E' : Nat → Prop) (h : φ_is_number ds Q' E') : r_is_number (fun c _ => E' c) { nx := fun _ => Q' .non, rt := fun d _ => Q' d } (startE N_is_number ds) := by
  unfold φ_is_number at h
  split at h
  · rename_i d
    obtain ⟨ok, h⟩ := h
    cases d with
    | int i =>
      walk_at "y"
      show (match decide (0 ≤ i) with
        | true => _
        | false => _)
      replace h : Q' (.bl (decide (0 ≤ i))) := h
      cases e : decide (0 ≤ i) <;> (rw [e] at h; exact h)
    | vl _ => cases ok
    | pool => cases ok
    | _ => exact h
  · exact h.elim
def φ_law_is_number : Spec
  | [d], Q, _ => okD d = true ∧ Q (.bl (numB d))
  | _, _, _ => False
abbrev N_law_is_number : List Str := ["value"]
def r_law_is_number (Ξ : Xi) : PTS :=
  (ysRet (yAndV (yIs .int (yVar 0)) (yAndV (yNotB (yIs .bool (yVar 0))) (yBin oGe (yVar 0) (yC (.int 0))))))
theorem vc_law_is_number (ds : List D) (Q' : D → Prop) (E' : Nat → Prop) (h : φ_law_is_number ds Q' E') : r_law_is_number (fun c _ => E' c) { nx := fun _ => Q' .non, rt := fun d _ => Q' d } (startE N_law_is_number ds) := by
  unfold φ_law_is_number at h
  split at h
  · rename_i d
    obtain ⟨ok, h⟩ := h
    cases d with
    | vl _ => cases ok
    | pool => cases ok
    | _ => exact h
  · exact h.elim

end PL.K16

set_option Elab.async false
set_option linter.all false
set_option autoImplicit false
set_option maxRecDepth 100000
set_option maxHeartbeats 1000000
namespace PL.K16
open PySem PySem.Spec PyProof.Rows L2
local macro_rules | `(tactic| walk_at "y") => `(tactic| conv => whnf)
def lenD : D → Nat
  | .str x => x.cps.toList.length
  | _ => 0
def intD : D → Int
  | .int i => i
  | _ => 0
def numsB (t a k p : D) : Bool := numB a && (numB k && (decide (intD a + intD k ≤ ((lenD t : Nat) : Int)) && textB p))
def longB (t k p : D) : Bool := decide (3000 < ((lenD t : Nat) : Int) - intD k + ((lenD p : Nat) : Int))
def ok4 (t a k p : D) : Prop := okD t = true ∧ okD a = true ∧ okD k = true ∧ okD p = true
theorem text_of {d : D} (h : textB d = true) : ∃ l, d = .str (S0 l) ∧ l.length ≤ 3000 := by
  cases d with
  | str x =>
    obtain ⟨⟨l⟩⟩ := x
    exact ⟨l, rfl, of_decide_eq_true (Bool.and_eq_true_iff.mp (show (decide (l.length ≤ 3000) && _) = true from h)).1⟩
  | _ => cases h
theorem num_of {d : D} (h : numB d = true) : ∃ i, d = .int i ∧ 0 ≤ i := by
  cases d with
  | int i => exact ⟨i, rfl, of_decide_eq_true h⟩
  | _ => cases h
def φ_check_numbers : Spec
  | [t, a, k, p], Q, E => ok4 t a k p ∧ textB t = true ∧ (numsB t a k p = false → E 3) ∧ (numsB t a k p = true → longB t k p = true → E 19) ∧ (numsB t a k p = true → longB t k p = false → Q .non)
  | _, _, _ => False
abbrev N_check_numbers : List Str := ["text", "at", "taken", "put"]
def r_check_numbers (Ξ : Xi) : PTS :=
  (ysSeq (ysIf (yOr (yNot (yTru (yCall φ_is_number Ξ (ylCons (yVar 1) (ylCons (yC (.int 0)) (ylCons (yC .non) ylNil)))))) (yOr (yNot (yTru (yCall φ_is_number Ξ (ylCons (yVar 2) (ylCons (yC (.int 0)) (ylCons (yC .non) ylNil)))))) (yOr (yBinT oGt (yBin oAdd (yVar 1) (yVar 2)) (yCB oLen (ylCons (yVar 0) ylNil))) (yNot (yTru (yCall φ_is_text Ξ (ylCons (yVar 3) ylNil)))))))
  (ysRaise 3 Ξ)
  ysNext)
  (ysIf (yBinT oGt (yBin oAdd (yBin oSub (yCB oLen (ylCons (yVar 0) ylNil)) (yVar 2)) (yCB oLen (ylCons (yVar 3) ylNil))) (yC (.int 3000)))
  (ysRaise 19 Ξ)
  ysNext))
theorem vc_check_numbers (ds : List D) (Q' : D → Prop) (E' : Nat → Prop) (h : φ_check_numbers ds Q' E') : r_check_numbers (fun c _ => E' c) { nx := fun _ => Q' .non, rt := fun d _ => Q' d } (startE N_check_numbers ds) := by
  unfold φ_check_numbers at h
  split at h
  · rename_i t a k p
    obtain ⟨⟨ok1, ok2, ok3, ok4⟩, ht, h3, h19, h0⟩ := h
    obtain ⟨l, rfl, hl⟩ := text_of ht
    refine ⟨ok2, ?_⟩
    cases ea : numB a with
    | false => exact h3 (by simp [numsB, ea])
    | true =>
      refine ⟨ok3, ?_⟩
      cases ek : numB k with
      | false => exact h3 (by simp [numsB, ek])
      | true =>
        obtain ⟨i, rfl, hi⟩ := num_of ea
        obtain ⟨j, rfl, hj⟩ := num_of ek
        refine gd_of (show l.length ≤ 16777216 by omega) ?_
        walk_at "y"
        show (match decide (((l.length : Nat) : Int) < i + j) with
          | true => _
          | false => _)
        cases e1 : decide (((l.length : Nat) : Int) < i + j) with
        | true =>
          have e1 := of_decide_eq_true e1
          exact h3 (by
            have : decide (i + j ≤ ((l.length : Nat) : Int)) = false := decide_eq_false (by omega)
            show (_ && (_ && (decide (i + j ≤ ((l.length : Nat) : Int)) && _))) = false
            rw [this]
            simp)
        | false =>
          have e1 := of_decide_eq_false e1
          refine ⟨ok4, ?_⟩
          cases ep : textB p with
          | false => exact h3 (by simp [numsB, ep])
          | true =>
            obtain ⟨m, rfl, hm⟩ := text_of ep
            have hn : numsB (.str (S0 l)) (.int i) (.int j) (.str (S0 m)) = true := by
              show (numB (.int i) && (numB (.int j) && (decide (i + j ≤ ((l.length : Nat) : Int)) && textB (.str (S0 m))))) = true
              rw [ea, ek, ep, decide_eq_true (show i + j ≤ ((l.length : Nat) : Int) by omega)]
              rfl
            refine gd_of (show l.length ≤ 16777216 by omega) ?_
            refine gd_of (show m.length ≤ 16777216 by omega) ?_
            walk_at "y"
            show (match decide ((3000 : Int) < ((l.length : Nat) : Int) - j + ((m.length : Nat) : Int)) with
              | true => _
              | false => _)
            cases e2 : decide ((3000 : Int) < ((l.length : Nat) : Int) - j + ((m.length : Nat) : Int)) with
            | true => exact h19 hn e2
            | false => exact h0 hn e2
  · exact h.elim
def φ_check_splice : Spec
  | [t, a, k, p], Q, E => ok4 t a k p ∧ (textB t = false → E 1) ∧ (textB t = true → (numsB t a k p = false → E 3) ∧ (numsB t a k p = true → longB t k p = true → E 19) ∧ (numsB t a k p = true → longB t k p = false → Q .non))
  | _, _, _ => False
abbrev N_check_splice : List Str := ["text", "at", "taken", "put"]
def r_check_splice (Ξ : Xi) : PTS :=
  (ysSeq (ysIf (yNot (yTru (yCall φ_is_text Ξ (ylCons (yVar 0) ylNil))))
  (ysRaise 1 Ξ)
  ysNext)
  (ysDrop (yCall φ_check_numbers Ξ (ylCons (yVar 0) (ylCons (yVar 1) (ylCons (yVar 2) (ylCons (yVar 3) ylNil)))))))
theorem vc_check_splice (ds : List D) (Q' : D → Prop) (E' : Nat → Prop) (h : φ_check_splice ds Q' E') : r_check_splice (fun c _ => E' c) { nx := fun _ => Q' .non, rt := fun d _ => Q' d } (startE N_check_splice ds) := by
  unfold φ_check_splice at h
  split at h
  · rename_i t a k p
    obtain ⟨ok, h1, h⟩ := h
    refine ⟨ok.1, ?_⟩
    cases et : textB t with
    | false => exact h1 et
    | true =>
      obtain ⟨h3, h19, h0⟩ := h et
      exact ⟨ok, et, h3, h19, h0⟩
  · exact h.elim

end PL.K16

set_option Elab.async false
set_option linter.all false
set_option autoImplicit false
set_option maxRecDepth 100000
set_option maxHeartbeats 1000000
namespace PL.K16
open PySem PySem.Spec PyProof.Rows L2
local macro_rules | `(tactic| walk_at "y") => `(tactic| conv => whnf)
/-! ### what is left of a splice -/
def oldL (l : List Nat) (A K : Nat) : List Nat := (l.drop A).take K
def frN (l : List Nat) (A K : Nat) (m : List Nat) : Nat := cpre (oldL l A K) m
def bkN (l : List Nat) (A K : Nat) (m : List Nat) : Nat := cpre ((oldL l A K).drop (frN l A K m)).reverse (m.drop (frN l A K m)).reverse
def cutR (l : List Nat) (A K : Nat) (m : List Nat) : D :=
  .tup [.int ((A : Int) + (frN l A K m : Int)), .int ((K : Int) - (frN l A K m : Int) - (bkN l A K m : Int)), .str (S0 ((m.drop (frN l A K m)).take ((m.drop (frN l A K m)).length - bkN l A K m)))]
theorem old_get {l : List Nat} {A K n : Nat} (h : n < K) : (oldL l A K)[n]? = l[A + n]? := by
  unfold oldL
  rw [List.getElem?_take, if_pos h, List.getElem?_drop]
theorem old_len {l : List Nat} {A K : Nat} (h : A + K ≤ l.length) : (oldL l A K).length = K := by
  unfold oldL
  rw [List.length_take, List.length_drop]
  omega
theorem rev_get {xs : List Nat} {n : Nat} (h : n < xs.length) : xs.reverse[n]? = xs[xs.length - 1 - n]? := by
  rw [List.getElem?_reverse h]
theorem fr_le {l m : List Nat} {A K : Nat} (h : A + K ≤ l.length) : frN l A K m ≤ K ∧ frN l A K m ≤ m.length := by
  have := cpre_le (oldL l A K) m
  rw [old_len h] at this
  exact this
theorem bk_le {l m : List Nat} {A K : Nat} (h : A + K ≤ l.length) : bkN l A K m ≤ K - frN l A K m ∧ bkN l A K m ≤ m.length - frN l A K m := by
  have := cpre_le ((oldL l A K).drop (frN l A K m)).reverse (m.drop (frN l A K m)).reverse
  rw [List.length_reverse, List.length_reverse, List.length_drop, List.length_drop, old_len h] at this
  exact this
def trimIn (ds : List D) (l m : List Nat) (A K : Nat) : Prop := ds = [.str (S0 l), .int (A : Int), .int (K : Int), .str (S0 m)] ∧ A + K ≤ l.length ∧ l.length ≤ 3000 ∧ m.length ≤ 3000
def φ_cut_alike : Spec := fun ds Q _ => ∃ l m A K, trimIn ds l m A K ∧ Q (cutR l A K m)
abbrev N_cut_alike : List Str := ["text", "at", "taken", "put", "front", "back"]
def r_cut_alike (Ξ : Xi) : PTS :=
  (ysSeq (ysAsg (yC (.int 0)) 4)
  (ysSeq (ysWhile (yAnd (yBinT oLt (yVar 4) (yVar 2)) (yAnd (yBinT oLt (yVar 4) (yCB oLen (ylCons (yVar 3) ylNil))) (yBinT (oEq false) (yIx (yVar 0) (yBin oAdd (yVar 1) (yVar 4))) (yIx (yVar 3) (yVar 4)))))
  (ysAug (fun a b => a + b) 4 (yC (.int 1))))
  (ysSeq (ysPar3 1 2 3 (ylCons (yBin oAdd (yVar 1) (yVar 4)) (ylCons (yBin oSub (yVar 2) (yVar 4)) (ylCons (ySlS (yVar 3) (yoSome (yVar 4)) yoNone) ylNil))))
  (ysSeq (ysAsg (yC (.int 0)) 5)
  (ysSeq (ysWhile (yAnd (yBinT oLt (yVar 5) (yVar 2)) (yAnd (yBinT oLt (yVar 5) (yCB oLen (ylCons (yVar 3) ylNil))) (yBinT (oEq false) (yIx (yVar 0) (yBin oSub (yBin oSub (yBin oAdd (yVar 1) (yVar 2)) (yC (.int 1))) (yVar 5))) (yIx (yVar 3) (yBin oSub (yBin oSub (yCB oLen (ylCons (yVar 3) ylNil)) (yC (.int 1))) (yVar 5))))))
  (ysAug (fun a b => a + b) 5 (yC (.int 1))))
  (ysRet (yTup (ylCons (yVar 1) (ylCons (yBin oSub (yVar 2) (yVar 5)) (ylCons (ySlS (yVar 3) yoNone (yoSome (yBin oSub (yCB oLen (ylCons (yVar 3) ylNil)) (yVar 5)))) ylNil))))))))))
theorem vc_cut_alike (ds : List D) (Q' : D → Prop) (E' : Nat → Prop) (h : φ_cut_alike ds Q' E') : r_cut_alike (fun c _ => E' c) { nx := fun _ => Q' .non, rt := fun d _ => Q' d } (startE N_cut_alike ds) := by
  obtain ⟨l, m, A, K, ⟨rfl, hAK, hl, hm⟩, h⟩ := h
  let e (a k : Int) (m : List Nat) (f b : Option S) : PEnv := [some (.v (.str (S0 l))), some (.v (.int a)), some (.v (.int k)), some (.v (.str (S0 m))), f, b]
  let I (n : Nat) : Option S := some (.v (.int (n : Int)))
  obtain ⟨fK, fm⟩ := fr_le (m := m) hAK
  obtain ⟨bK, bm⟩ := bk_le (m := m) hAK
  generalize hF : frN l A K m = F at fK fm bK bm
  generalize hB : bkN l A K m = B at bK bm
  have hF' : cpre (oldL l A K) m = F := hF
  have hB' : cpre ((oldL l A K).drop F).reverse (m.drop F).reverse = B := by rw [← hF, ← hB]; rfl
  refine seq_step (e A K m (I 0) none) (fun K k => k) ?_
  refine seq_step (e A K m (I F) none) (fun Kt kk => ⟨fun mm ε => ∃ n, n ≤ F ∧ mm = F - n ∧ ε = e A K m (I n) none, ⟨F, 0, Nat.zero_le _, rfl, rfl⟩, fun mm ε w => ?_⟩) ?_
  · obtain ⟨n, hn, rfl, rfl⟩ := w
    have stop : n = F → Kt (e A K m (I n) none) := fun z => by rw [z]; exact kk
    walk_at "y"
    show (match decide ((n : Int) < (K : Int)) with
      | true => _
      | false => _)
    cases e1 : decide ((n : Int) < (K : Int)) with
    | false =>
      have e1 := of_decide_eq_false e1
      exact stop (by rw [← hF']; exact cpre_end (by rw [hF']; exact hn) (.inl (by rw [old_len hAK]; omega)))
    | true =>
      have e1 := of_decide_eq_true e1
      refine gd_of (show m.length ≤ 16777216 by omega) ?_
      walk_at "y"
      show (match decide ((n : Int) < ((m.length : Nat) : Int)) with
        | true => _
        | false => _)
      cases e2 : decide ((n : Int) < ((m.length : Nat) : Int)) with
      | false =>
        have e2 := of_decide_eq_false e2
        exact stop (by rw [← hF']; exact cpre_end (by rw [hF']; exact hn) (.inr (by omega)))
      | true =>
        have e2 := of_decide_eq_true e2
        obtain ⟨c, hc⟩ := get_of (l := l) (n := A + n) (by omega)
        obtain ⟨d, hd⟩ := get_of (l := m) (n := n) (by omega)
        refine gd_of (show l.length ≤ 16777216 by omega) ?_
        refine opt_sign (l := l) (i := (A : Int) + (n : Int)) (n := A + n) (by omega) hc ?_
        refine gd_of (show m.length ≤ 16777216 by omega) ?_
        refine opt_sign (l := m) (i := (n : Int)) (n := n) rfl hd ?_
        walk_at "y"
        show (match decide (S0 [c] = S0 [d]) with
          | true => _
          | false => _)
        rw [dec_sign]
        rcases cpre_at (xs := oldL l A K) (ys := m) (n := n) (by rw [hF']; exact hn) (by rw [old_get (by omega)]; exact hc) hd with ⟨h1, h2⟩ | ⟨h1, h2⟩
        · rw [decide_eq_true h1]
          exact ⟨F - (n + 1), by omega, n + 1, by omega, rfl, rfl⟩
        · rw [decide_eq_false h1]
          exact stop (by omega)
  refine seq_step (e ((A : Int) + (F : Int)) ((K : Int) - (F : Int)) (m.drop F) (I F) none) (fun Kt kk => ?_) ?_
  · refine gd_of (show m.length ≤ 16777216 by omega) ?_
    have ec := cut_from (l := m) (i := (F : Int)) (by omega) (by omega)
    show Kt [_, _, _, some (.v (.str (cutS (S0 m) (some (F : Int)) none))), _, _]
    rw [ec]
    exact kk
  refine seq_step (e ((A : Int) + (F : Int)) ((K : Int) - (F : Int)) (m.drop F) (I F) (I 0)) (fun K k => k) ?_
  have hm2 : (m.drop F).length = m.length - F := List.length_drop
  refine seq_step (e ((A : Int) + (F : Int)) ((K : Int) - (F : Int)) (m.drop F) (I F) (I B)) (fun Kt kk => ⟨fun mm ε => ∃ n, n ≤ B ∧ mm = B - n ∧ ε = e ((A : Int) + (F : Int)) ((K : Int) - (F : Int)) (m.drop F) (I F) (I n), ⟨B, 0, Nat.zero_le _, rfl, rfl⟩, fun mm ε w => ?_⟩) ?_
  · obtain ⟨n, hn, rfl, rfl⟩ := w
    have stop : n = B → Kt (e ((A : Int) + (F : Int)) ((K : Int) - (F : Int)) (m.drop F) (I F) (I n)) := fun z => by rw [z]; exact kk
    have ho2 : ((oldL l A K).drop F).length = K - F := by rw [List.length_drop, old_len hAK]
    walk_at "y"
    show (match decide ((n : Int) < (K : Int) - (F : Int)) with
      | true => _
      | false => _)
    cases e1 : decide ((n : Int) < (K : Int) - (F : Int)) with
    | false =>
      have e1 := of_decide_eq_false e1
      exact stop (by rw [← hB']; exact cpre_end (by rw [hB']; exact hn) (.inl (by rw [List.length_reverse, ho2]; omega)))
    | true =>
      have e1 := of_decide_eq_true e1
      refine gd_of (show (m.drop F).length ≤ 16777216 by omega) ?_
      walk_at "y"
      show (match decide ((n : Int) < (((m.drop F).length : Nat) : Int)) with
        | true => _
        | false => _)
      cases e2 : decide ((n : Int) < (((m.drop F).length : Nat) : Int)) with
      | false =>
        have e2 := of_decide_eq_false e2
        exact stop (by rw [← hB']; exact cpre_end (by rw [hB']; exact hn) (.inr (by rw [List.length_reverse]; omega)))
      | true =>
        have e2 := of_decide_eq_true e2
        obtain ⟨c, hc⟩ := get_of (l := l) (n := A + K - 1 - n) (by omega)
        obtain ⟨d, hd⟩ := get_of (l := m.drop F) (n := (m.drop F).length - 1 - n) (by omega)
        refine gd_of (show l.length ≤ 16777216 by omega) ?_
        refine opt_sign (l := l) (i := (A : Int) + (F : Int) + ((K : Int) - (F : Int)) - 1 - (n : Int)) (n := A + K - 1 - n) (by omega) hc ?_
        refine gd_of (show (m.drop F).length ≤ 16777216 by omega) ?_
        refine gd_of (show (m.drop F).length ≤ 16777216 by omega) ?_
        refine opt_sign (l := m.drop F) (i := (((m.drop F).length : Nat) : Int) - 1 - (n : Int)) (n := (m.drop F).length - 1 - n) (by omega) hd ?_
        walk_at "y"
        show (match decide (S0 [c] = S0 [d]) with
          | true => _
          | false => _)
        rw [dec_sign]
        have h3 : ((oldL l A K).drop F).reverse[n]? = some c := by
          rw [rev_get (by omega), ho2, List.getElem?_drop, old_get (by omega), ← hc]
          congr 1
          omega
        have h4 : (m.drop F).reverse[n]? = some d := by rw [rev_get (by omega)]; exact hd
        rcases cpre_at (n := n) (by rw [hB']; exact hn) h3 h4 with ⟨h1, h2⟩ | ⟨h1, h2⟩
        · rw [decide_eq_true h1]
          exact ⟨B - (n + 1), by omega, n + 1, by omega, rfl, rfl⟩
        · rw [decide_eq_false h1]
          exact stop (by omega)
  refine gd_of (show (m.drop F).length ≤ 16777216 by omega) ?_
  refine gd_of (show (m.drop F).length ≤ 16777216 by omega) ?_
  have ec := cut_to (l := m.drop F) (i := (((m.drop F).length : Nat) : Int) - (B : Int)) (by omega) (by omega)
  show Q' (.tup [.int ((A : Int) + (F : Int)), .int ((K : Int) - (F : Int) - (B : Int)), .str (cutS (S0 (m.drop F)) none (some ((((m.drop F).length : Nat) : Int) - (B : Int))))])
  rw [ec, show ((((m.drop F).length : Nat) : Int) - (B : Int)).toNat = (m.drop F).length - B by omega]
  unfold cutR at h
  rw [hF, hB] at h
  exact h

end PL.K16

set_option Elab.async false
set_option linter.all false
set_option autoImplicit false
set_option maxRecDepth 100000
set_option maxHeartbeats 1000000
namespace PL.K16
open PySem PySem.Spec PyProof.Rows L2
local macro_rules | `(tactic| walk_at "y") => `(tactic| conv => whnf)
def φ_law_trimmed : Spec := fun ds Q _ => ∃ l m A K, trimIn ds l m A K ∧ Q (cutR l A K m)
theorem z_add {i : Nat} : (0 : Int) + (i : Int) = ((i : Nat) : Int) := by omega
theorem min_int {a b : Nat} : (if ((b : Nat) : Int) < ((a : Nat) : Int) then ((b : Nat) : Int) else ((a : Nat) : Int)) = ((min a b : Nat) : Int) := by
  split <;> omega
abbrev N_law_trimmed : List Str := ["text", "at", "taken", "put", "old", "front", "back", "k"]
def r_law_trimmed (Ξ : Xi) : PTS :=
  (ysSeq (ysPar3 4 5 6 (ylCons (ySlS (yVar 0) (yoSome (yVar 1)) (yoSome (yBin oAdd (yVar 1) (yVar 2)))) (ylCons (yC (.int 0)) (ylCons (yC (.int 0)) ylNil))))
  (ysSeq (ysFor (yiRg1 (ylCons (yCB oMin2 (ylCons (yCB oLen (ylCons (yVar 4) ylNil)) (ylCons (yCB oLen (ylCons (yVar 3) ylNil)) ylNil))) ylNil)) (gN 7)
  (ysSeq (ysIf (yBinT (oEq true) (yIx (yVar 4) (yVar 7)) (yIx (yVar 3) (yVar 7)))
  ysBrk
  ysNext)
  (ysAsg (yBin oAdd (yVar 7) (yC (.int 1))) 5)))
  (ysSeq (ysPar 4 3 (yxE (ySlS (yVar 4) (yoSome (yVar 5)) yoNone)) (yxE (ySlS (yVar 3) (yoSome (yVar 5)) yoNone)))
  (ysSeq (ysFor (yiRg2 (ylCons (yC (.int 1)) (ylCons (yBin oAdd (yCB oMin2 (ylCons (yCB oLen (ylCons (yVar 4) ylNil)) (ylCons (yCB oLen (ylCons (yVar 3) ylNil)) ylNil))) (yC (.int 1))) ylNil))) (gN 7)
  (ysSeq (ysIf (yBinT (oEq true) (yIx (yVar 4) (yBin oSub (yCB oLen (ylCons (yVar 4) ylNil)) (yVar 7))) (yIx (yVar 3) (yBin oSub (yCB oLen (ylCons (yVar 3) ylNil)) (yVar 7))))
  ysBrk
  ysNext)
  (ysAsg (yVar 7) 6)))
  (ysRet (yTup (ylCons (yBin oAdd (yVar 1) (yVar 5)) (ylCons (yBin oSub (yCB oLen (ylCons (yVar 4) ylNil)) (yVar 6)) (ylCons (ySlS (yVar 3) yoNone (yoSome (yBin oSub (yCB oLen (ylCons (yVar 3) ylNil)) (yVar 6)))) ylNil)))))))))
theorem vc_law_trimmed (ds : List D) (Q' : D → Prop) (E' : Nat → Prop) (h : φ_law_trimmed ds Q' E') : r_law_trimmed (fun c _ => E' c) { nx := fun _ => Q' .non, rt := fun d _ => Q' d } (startE N_law_trimmed ds) := by
  obtain ⟨l, m, A, K, ⟨rfl, hAK, hl, hm⟩, h⟩ := h
  let e (m : List Nat) (o : List Nat) (f b k : Option S) : PEnv := [some (.v (.str (S0 l))), some (.v (.int (A : Int))), some (.v (.int (K : Int))), some (.v (.str (S0 m))), some (.v (.str (S0 o))), f, b, k]
  let I (n : Nat) : Option S := some (.v (.int (n : Int)))
  obtain ⟨fK, fm⟩ := fr_le (m := m) hAK
  obtain ⟨bK, bm⟩ := bk_le (m := m) hAK
  generalize hF : frN l A K m = F at fK fm bK bm
  generalize hB : bkN l A K m = B at bK bm
  have hF' : cpre (oldL l A K) m = F := hF
  have hB' : cpre ((oldL l A K).drop F).reverse (m.drop F).reverse = B := by rw [← hF, ← hB]; rfl
  have ho := old_len hAK
  have ho2 : ((oldL l A K).drop F).length = K - F := by rw [List.length_drop, ho]
  have hm2 : (m.drop F).length = m.length - F := List.length_drop
  refine seq_step (e m (oldL l A K) (I 0) (I 0) none) (fun Kt kk => ?_) ?_
  · refine gd_of (show l.length ≤ 16777216 by omega) ?_
    have ec := cut_mid (l := l) (i := (A : Int)) (j := (A : Int) + (K : Int)) (by omega) (by omega) (by omega)
    show Kt [_, _, _, _, some (.v (.str (cutS (S0 l) (some (A : Int)) (some ((A : Int) + (K : Int)))))), _, _, _]
    rw [ec, show ((A : Int) + (K : Int)).toNat - ((A : Int)).toNat = K by omega]
    exact kk
  refine seq_post (fun ε => ∃ k, ε = e m (oldL l A K) (I F) (I 0) k) (fun Kt kk => ?_) ?_
  · refine gd_of (show (oldL l A K).length ≤ 16777216 by omega) ?_
    refine gd_of (show m.length ≤ 16777216 by omega) ?_
    refine gd_of (show smallB (if ((m.length : Nat) : Int) < (((oldL l A K).length : Nat) : Int) then ((m.length : Nat) : Int) else (((oldL l A K).length : Nat) : Int)) = true by rw [min_int]; exact small_by (by omega) (by omega)) ?_
    have hmin : (if ((m.length : Nat) : Int) < (((oldL l A K).length : Nat) : Int) then ((m.length : Nat) : Int) else (((oldL l A K).length : Nat) : Int)).toNat = min (oldL l A K).length m.length := by rw [min_int]; exact Int.toNat_natCast _
    refine ⟨fun i ε => i ≤ F ∧ ∃ k, ε = e m (oldL l A K) (I i) (I 0) k, ⟨Nat.zero_le _, none, rfl⟩, fun i d ε hi hd w => ?_, fun ε w => ?_⟩
    · have hdd := rangeD_get hd
      obtain ⟨hi2, rfl⟩ := hdd
      obtain ⟨hn, k, rfl⟩ := w
      replace hi2 : i < min (oldL l A K).length m.length := by rw [← hmin]; exact hi2
      rw [z_add]
      obtain ⟨c, hc⟩ := get_of (l := oldL l A K) (n := i) (by omega)
      obtain ⟨d, hd'⟩ := get_of (l := m) (n := i) (by omega)
      refine gd_of (show (oldL l A K).length ≤ 16777216 by omega) ?_
      refine opt_sign (l := oldL l A K) (i := (i : Int)) (n := i) rfl hc ?_
      refine gd_of (show m.length ≤ 16777216 by omega) ?_
      refine opt_sign (l := m) (i := (i : Int)) (n := i) rfl hd' ?_
      walk_at "y"
      show (match !decide (S0 [c] = S0 [d]) with
        | true => _
        | false => _)
      rw [dec_sign]
      rcases cpre_at (xs := oldL l A K) (ys := m) (n := i) (by rw [hF']; exact hn) hc hd' with ⟨h1, h2⟩ | ⟨h1, h2⟩
      · rw [decide_eq_true h1]
        exact ⟨by omega, _, rfl⟩
      · rw [decide_eq_false h1]
        refine kk _ ⟨some (.v (.int (i : Int))), ?_⟩
        rw [show F = i by omega]
        rfl
    · rw [rangeD_len] at w
      obtain ⟨hn, k, rfl⟩ := w
      refine kk _ ⟨k, ?_⟩
      have : min (oldL l A K).length m.length = F := by
        rw [← hF']
        exact cpre_end (by rw [hF']; rw [← hmin]; exact hn) (by omega)
      exact congrArg (fun z => e m (oldL l A K) (I z) (I 0) k) (hmin.trans this)
  rintro _ ⟨k, rfl⟩
  refine seq_step (e (m.drop F) ((oldL l A K).drop F) (I F) (I 0) k) (fun Kt kk => ?_) ?_
  · refine gd_of (show (oldL l A K).length ≤ 16777216 by omega) ?_
    refine gd_of (show m.length ≤ 16777216 by omega) ?_
    have e1 := cut_from (l := oldL l A K) (i := (F : Int)) (by omega) (by omega)
    have e2 := cut_from (l := m) (i := (F : Int)) (by omega) (by omega)
    show Kt [_, _, _, some (.v (.str (cutS (S0 m) (some (F : Int)) none))), some (.v (.str (cutS (S0 (oldL l A K)) (some (F : Int)) none))), _, _, _]
    rw [e1, e2]
    exact kk
  generalize ho' : (oldL l A K).drop F = o at ho2 hB'
  generalize hm' : m.drop F = m' at hm2 hB'
  refine seq_post (fun ε => ∃ k, ε = e m' o (I F) (I B) k) (fun Kt kk => ?_) ?_
  · refine gd_of (show o.length ≤ 16777216 by omega) ?_
    refine gd_of (show m'.length ≤ 16777216 by omega) ?_
    refine gd_of (show smallB 1 = true ∧ smallB ((if ((m'.length : Nat) : Int) < ((o.length : Nat) : Int) then ((m'.length : Nat) : Int) else ((o.length : Nat) : Int)) + 1) = true by rw [min_int]; exact ⟨rfl, small_by (by omega) (by omega)⟩) ?_
    have hmin : ((if ((m'.length : Nat) : Int) < ((o.length : Nat) : Int) then ((m'.length : Nat) : Int) else ((o.length : Nat) : Int)) + 1 - 1).toNat = min o.length m'.length := by rw [min_int]; omega
    refine ⟨fun i ε => i ≤ B ∧ ∃ k, ε = e m' o (I F) (I i) k, ⟨Nat.zero_le _, k, rfl⟩, fun i d ε hi hd w => ?_, fun ε w => ?_⟩
    · have hdd := rangeD_get hd
      obtain ⟨hi2, rfl⟩ := hdd
      obtain ⟨hn, k, rfl⟩ := w
      replace hi2 : i < min o.length m'.length := by rw [← hmin]; exact hi2
      rw [show (1 : Int) + (i : Int) = ((i + 1 : Nat) : Int) by omega]
      obtain ⟨c, hc⟩ := get_of (l := o) (n := o.length - 1 - i) (by omega)
      obtain ⟨d, hd'⟩ := get_of (l := m') (n := m'.length - 1 - i) (by omega)
      refine gd_of (show o.length ≤ 16777216 by omega) ?_
      refine gd_of (show o.length ≤ 16777216 by omega) ?_
      refine opt_sign (l := o) (i := ((o.length : Nat) : Int) - ((i + 1 : Nat) : Int)) (n := o.length - 1 - i) (by omega) hc ?_
      refine gd_of (show m'.length ≤ 16777216 by omega) ?_
      refine gd_of (show m'.length ≤ 16777216 by omega) ?_
      refine opt_sign (l := m') (i := ((m'.length : Nat) : Int) - ((i + 1 : Nat) : Int)) (n := m'.length - 1 - i) (by omega) hd' ?_
      walk_at "y"
      show (match !decide (S0 [c] = S0 [d]) with
        | true => _
        | false => _)
      rw [dec_sign]
      rcases cpre_at (xs := o.reverse) (ys := m'.reverse) (n := i) (by rw [hB']; exact hn) (by rw [rev_get (by omega)]; exact hc) (by rw [rev_get (by omega)]; exact hd') with ⟨h1, h2⟩ | ⟨h1, h2⟩
      · rw [decide_eq_true h1]
        exact ⟨by omega, _, rfl⟩
      · rw [decide_eq_false h1]
        refine kk _ ⟨some (.v (.int ((i + 1 : Nat) : Int))), ?_⟩
        rw [show B = i by omega]
        rfl
    · rw [rangeD_len] at w
      obtain ⟨hn, k, rfl⟩ := w
      refine kk _ ⟨k, ?_⟩
      have : min o.length m'.length = B := by
        rw [← hB']
        exact cpre_end (by rw [hB']; rw [← hmin]; exact hn) (by rw [List.length_reverse, List.length_reverse]; omega)
      exact congrArg (fun z => e m' o (I F) (I z) k) (hmin.trans this)
  rintro _ ⟨k, rfl⟩
  refine gd_of (show o.length ≤ 16777216 by omega) ?_
  refine gd_of (show m'.length ≤ 16777216 by omega) ?_
  refine gd_of (show m'.length ≤ 16777216 by omega) ?_
  have ec := cut_to (l := m') (i := ((m'.length : Nat) : Int) - (B : Int)) (by omega) (by omega)
  show Q' (.tup [.int ((A : Int) + (F : Int)), .int (((o.length : Nat) : Int) - (B : Int)), .str (cutS (S0 m') none (some (((m'.length : Nat) : Int) - (B : Int))))])
  rw [ec, show (((m'.length : Nat) : Int) - (B : Int)).toNat = m'.length - B by omega, show ((o.length : Nat) : Int) - (B : Int) = (K : Int) - (F : Int) - (B : Int) by omega]
  unfold cutR at h
  rw [hF, hB, hm'] at h
  exact h

/-! ### what is due -/
def verdict (t a k p : D) : Nat := match textB t with
  | false => 1
  | true => match numsB t a k p with
    | false => 3
    | true => match longB t k p with
      | true => 19
      | false => 0
def trimD (t a k p : D) : D := match t, a, k, p with
  | .str x, .int a, .int k, .str y => cutR x.cps.toList a.toNat k.toNat y.cps.toList
  | _, _, _, _ => .non
theorem trim_in {t a k p : D} (ht : textB t = true) (hn : numsB t a k p = true) : ∃ l m A K, trimIn [t, a, k, p] l m A K ∧ trimD t a k p = cutR l A K m := by
  obtain ⟨h1, g2⟩ := Bool.and_eq_true_iff.mp hn
  obtain ⟨h2, g3⟩ := Bool.and_eq_true_iff.mp g2
  obtain ⟨g4, h4⟩ := Bool.and_eq_true_iff.mp g3
  obtain ⟨l, rfl, hl⟩ := text_of ht
  obtain ⟨i, rfl, hi⟩ := num_of h1
  obtain ⟨j, rfl, hj⟩ := num_of h2
  obtain ⟨m, rfl, hm⟩ := text_of h4
  have h3 := of_decide_eq_true g4
  replace h3 : i + j ≤ ((l.length : Nat) : Int) := h3
  obtain ⟨A, rfl⟩ := Int.eq_ofNat_of_zero_le hi
  obtain ⟨K, rfl⟩ := Int.eq_ofNat_of_zero_le hj
  exact ⟨l, m, A, K, ⟨rfl, by omega, hl, hm⟩, rfl⟩
def φ_trimmed : Spec
  | [t, a, k, p], Q, E => ok4 t a k p ∧ (verdict t a k p = 1 → E 1) ∧ (verdict t a k p = 3 → E 3) ∧ (verdict t a k p = 19 → E 19) ∧ (verdict t a k p = 0 → Q (trimD t a k p))
  | _, _, _ => False
abbrev N_trimmed : List Str := ["text", "at", "taken", "put"]
def r_trimmed (Ξ : Xi) : PTS :=
  (ysSeq (ysDrop (yCall φ_check_splice Ξ (ylCons (yVar 0) (ylCons (yVar 1) (ylCons (yVar 2) (ylCons (yVar 3) ylNil))))))
  (ysRet (yCall φ_cut_alike Ξ (ylCons (yVar 0) (ylCons (yVar 1) (ylCons (yVar 2) (ylCons (yVar 3) ylNil)))))))
theorem vc_trimmed (ds : List D) (Q' : D → Prop) (E' : Nat → Prop) (h : φ_trimmed ds Q' E') : r_trimmed (fun c _ => E' c) { nx := fun _ => Q' .non, rt := fun d _ => Q' d } (startE N_trimmed ds) := by
  unfold φ_trimmed at h
  split at h
  · rename_i t a k p
    obtain ⟨ok, h1, h3, h19, h0⟩ := h
    refine ⟨ok, fun e => h1 (by simp [verdict, e]), fun et => ⟨fun en => h3 (by simp [verdict, et, en]), fun en el => h19 (by simp [verdict, et, en, el]), fun en el => ?_⟩⟩
    have h := h0 (by simp [verdict, et, en, el])
    obtain ⟨l, m, A, K, hin, e⟩ := trim_in et en
    rw [e] at h
    exact ⟨l, m, A, K, hin, h⟩
  · exact h.elim
def dueD (t a k p : D) : D := match verdict t a k p with
  | 0 => .tup [.str ("told" : Str), trimD t a k p]
  | 1 => .tup [.str ("refused" : Str), .str ("BadText" : Str), .int 1]
  | 3 => .tup [.str ("refused" : Str), .str ("BadSplice" : Str), .int 1]
  | _ => .tup [.str ("refused" : Str), .str ("TooLong" : Str), .int 1]
def φ_law_due : Spec
  | [t, a, k, p], Q, _ => ok4 t a k p ∧ Q (dueD t a k p)
  | _, _, _ => False
abbrev exCs : List Nat := [0, 1, 3, 19]
def φ_law_told : Spec
  | [t, a, k, p], Q, _ => ok4 t a k p ∧ Q (dueD t a k p)
  | _, _, _ => False
abbrev N_law_told : List Str := ["text", "at", "taken", "put", "words", "told", "e"]
def r_law_told (Ξ : Xi) : PTS :=
  (ysSeq (ysAsg (yNew (ynLst ylNil)) 4)
  (ysSeq (ysTry exCs 6 (fun Ξb => (ysAsg (yCall φ_trimmed Ξb (ylCons (yVar 0) (ylCons (yVar 1) (ylCons (yVar 2) (ylCons (yVar 3) ylNil))))) 5))
  (fun a c => (ysSeq (ysAsg (yBin oAdd (yBin oAdd (yVar 4) (yBin oMulA (yNew (ynLst (ylCons (yC (.str ("BadText" : Str))) ylNil))) (yCB oInt (ylCons (yIsE 6 a c 1) ylNil)))) (yBin oMulA (yNew (ynLst (ylCons (yC (.str ("BadSplice" : Str))) ylNil))) (yCB oInt (ylCons (yIsE 6 a c 3) ylNil)))) 4)
  (ysSeq (ysAsg (yBin oAdd (yVar 4) (yBin oMulA (yNew (ynLst (ylCons (yC (.str ("TooLong" : Str))) ylNil))) (yCB oInt (ylCons (yIsE 6 a c 19) ylNil)))) 4)
  (ysRet (yTup (ylCons (yC (.str ("refused" : Str))) (ylCons (yIx (yBin oAdd (yVar 4) (yNew (ynLst (ylCons (yC (.str ("another" : Str))) ylNil)))) (yC (.int 0))) (ylCons (yCB oLen (ylCons (yVar 4) ylNil)) ylNil)))))))))
  (ysRet (yTup (ylCons (yC (.str ("told" : Str))) (ylCons (yVar 5) ylNil))))))
theorem vc_law_told (ds : List D) (Q' : D → Prop) (E' : Nat → Prop) (h : φ_law_told ds Q' E') : r_law_told (fun c _ => E' c) { nx := fun _ => Q' .non, rt := fun d _ => Q' d } (startE N_law_told ds) := by
  unfold φ_law_told at h
  split at h
  · rename_i t a k p
    obtain ⟨ok, h⟩ := h
    unfold dueD at h
    refine seq_step [some (.v t), some (.v a), some (.v k), some (.v p), some (.v (.lst [])), none, none] (fun K k => k) ?_
    refine ⟨ok, fun e => ?_, fun e => ?_, fun e => ?_, fun e => ?_⟩
    · rw [e] at h
      refine ⟨by decide, fun a => ?_⟩
      exact ⟨rfl, rfl, rfl, h⟩
    · rw [e] at h
      refine ⟨by decide, fun a => ?_⟩
      exact ⟨rfl, rfl, rfl, h⟩
    · rw [e] at h
      refine ⟨by decide, fun a => ?_⟩
      exact ⟨rfl, rfl, rfl, h⟩
    · rw [e] at h
      exact h
  · exact h.elim

end PL.K16

set_option Elab.async false
set_option linter.all false
set_option autoImplicit false
set_option maxRecDepth 100000
set_option maxHeartbeats 1000000
namespace PL.K16
open PySem PySem.Spec PyProof.Rows L2
local macro_rules | `(tactic| walk_at "y") => `(tactic| conv => whnf)
theorem numsB_eq {t a k p : D} {i j : Int} (ha : a = .int i) (hk : k = .int j) : numsB t a k p = (numB (.int i) && (numB (.int j) && (decide (i + j ≤ ((lenD t : Nat) : Int)) && textB p))) := by
  subst ha hk; rfl
abbrev N_law_due : List Str := ["text", "at", "taken", "put"]
def r_law_due (Ξ : Xi) : PTS :=
  (ysSeq (ysIf (yNot (yTru (yCall φ_law_is_text Ξ (ylCons (yVar 0) ylNil))))
  (ysRet (yTup (ylCons (yC (.str ("refused" : Str))) (ylCons (yC (.str ("BadText" : Str))) (ylCons (yC (.int 1)) ylNil)))))
  ysNext)
  (ysSeq (ysIf (yOr (yNot (yTru (yCall φ_law_is_number Ξ (ylCons (yVar 1) ylNil)))) (yOr (yNot (yTru (yCall φ_law_is_number Ξ (ylCons (yVar 2) ylNil)))) (yOr (yBinT oGt (yBin oAdd (yVar 1) (yVar 2)) (yCB oLen (ylCons (yVar 0) ylNil))) (yNot (yTru (yCall φ_law_is_text Ξ (ylCons (yVar 3) ylNil)))))))
  (ysRet (yTup (ylCons (yC (.str ("refused" : Str))) (ylCons (yC (.str ("BadSplice" : Str))) (ylCons (yC (.int 1)) ylNil)))))
  ysNext)
  (ysSeq (ysIf (yBinT oGt (yBin oAdd (yBin oSub (yCB oLen (ylCons (yVar 0) ylNil)) (yVar 2)) (yCB oLen (ylCons (yVar 3) ylNil))) (yC (.int 3000)))
  (ysRet (yTup (ylCons (yC (.str ("refused" : Str))) (ylCons (yC (.str ("TooLong" : Str))) (ylCons (yC (.int 1)) ylNil)))))
  ysNext)
  (ysRet (yTup (ylCons (yC (.str ("told" : Str))) (ylCons (yCall φ_law_trimmed Ξ (ylCons (yVar 0) (ylCons (yVar 1) (ylCons (yVar 2) (ylCons (yVar 3) ylNil))))) ylNil)))))))
theorem vc_law_due (ds : List D) (Q' : D → Prop) (E' : Nat → Prop) (h : φ_law_due ds Q' E') : r_law_due (fun c _ => E' c) { nx := fun _ => Q' .non, rt := fun d _ => Q' d } (startE N_law_due ds) := by
  unfold φ_law_due at h
  split at h
  · rename_i t a k p
    obtain ⟨ok, h⟩ := h
    have h' := h
    unfold dueD verdict at h
    refine ⟨ok.1, ?_⟩
    cases et : textB t with
    | false =>
      rw [et] at h
      exact h
    | true =>
      rw [et] at h
      have bad : numsB t a k p = false → Q' (.tup [.str ("refused" : Str), .str ("BadSplice" : Str), .int 1]) := fun e => by
        rw [e] at h
        exact h
      obtain ⟨l, rfl, hl⟩ := text_of et
      refine ⟨ok.2.1, ?_⟩
      cases ea : numB a with
      | false => exact bad (by simp [numsB, ea])
      | true =>
        refine ⟨ok.2.2.1, ?_⟩
        cases ek : numB k with
        | false => exact bad (by simp [numsB, ek])
        | true =>
          obtain ⟨i, rfl, hi⟩ := num_of ea
          obtain ⟨j, rfl, hj⟩ := num_of ek
          refine gd_of (show l.length ≤ 16777216 by omega) ?_
          walk_at "y"
          show (match decide (((l.length : Nat) : Int) < i + j) with
            | true => _
            | false => _)
          cases e1 : decide (((l.length : Nat) : Int) < i + j) with
          | true =>
            have e1 := of_decide_eq_true e1
            exact bad (by
              have : decide (i + j ≤ ((l.length : Nat) : Int)) = false := decide_eq_false (by omega)
              show (_ && (_ && (decide (i + j ≤ ((l.length : Nat) : Int)) && _))) = false
              rw [this]
              simp)
          | false =>
            have e1 := of_decide_eq_false e1
            refine ⟨ok.2.2.2, ?_⟩
            cases ep : textB p with
            | false => exact bad (by simp [numsB, ep])
            | true =>
              obtain ⟨m, rfl, hm⟩ := text_of ep
              have hn : numsB (.str (S0 l)) (.int i) (.int j) (.str (S0 m)) = true := by
                show (numB (.int i) && (numB (.int j) && (decide (i + j ≤ ((l.length : Nat) : Int)) && textB (.str (S0 m))))) = true
                rw [ea, ek, ep, decide_eq_true (show i + j ≤ ((l.length : Nat) : Int) by omega)]
                rfl
              rw [hn] at h
              refine gd_of (show l.length ≤ 16777216 by omega) ?_
              refine gd_of (show m.length ≤ 16777216 by omega) ?_
              walk_at "y"
              show (match decide ((3000 : Int) < ((l.length : Nat) : Int) - j + ((m.length : Nat) : Int)) with
                | true => _
                | false => _)
              cases e2 : decide ((3000 : Int) < ((l.length : Nat) : Int) - j + ((m.length : Nat) : Int)) with
              | true =>
                have el : longB (.str (S0 l)) (.int j) (.str (S0 m)) = true := e2
                rw [el] at h
                exact h
              | false =>
                have el : longB (.str (S0 l)) (.int j) (.str (S0 m)) = false := e2
                rw [el] at h
                obtain ⟨l', m', A, K, hin, e⟩ := trim_in et hn
                rw [e] at h
                exact ⟨l', m', A, K, hin, h⟩
  · exact h.elim
/-! ### the same -/
mutual
def plainD : Nat → D → Bool
  | 0, _ => false
  | _ + 1, .non => true
  | _ + 1, .bl _ => true
  | _ + 1, .int _ => true
  | _ + 1, .str _ => true
  | n + 1, .tup ds => decide (ds.length ≤ 1000) && plainDs n ds
  | _ + 1, _ => false
def plainDs : Nat → List D → Bool
  | _, [] => true
  | n, d :: ds => plainD n d && plainDs n ds
end
theorem plain_at : ∀ {n : Nat} {ds : List D} {i : Nat} {d : D}, plainDs n ds = true → ds[i]? = some d → plainD n d = true
  | n, [], i, d, _, h => by simp at h
  | n, x :: xs, 0, d, hp, h => by
    obtain rfl : x = d := by simpa using h
    unfold plainDs at hp
    exact (Bool.and_eq_true_iff.mp hp).1
  | n, x :: xs, i + 1, d, hp, h => by
    unfold plainDs at hp
    exact plain_at (Bool.and_eq_true_iff.mp hp).2 (by simpa using h)
def sameN (n : Nat) : Spec := fun ds Q _ => ∃ d, ds = [d, d] ∧ plainD n d = true ∧ Q (.bl true)
abbrev N_law_same : List Str := ["one", "due", "k", "key"]
def r_law_same (ψ : Spec) (Ξ : Xi) : PTS :=
  (ysSeq (ysIf (yBinT (oIsN false) (yVar 1) (yC .non))
  (ysRet (yBin (oIsN false) (yVar 0) (yC .non)))
  ysNext)
  (ysSeq (ysIf (yTru (yIs .bool (yVar 1)))
  (ysRet (yAndV (yIs .bool (yVar 0)) (yBin (oEq false) (yVar 0) (yVar 1))))
  ysNext)
  (ysSeq (ysIf (yTru (yIs .int (yVar 1)))
  (ysRet (yAndV (yIs .int (yVar 0)) (yAndV (yNotB (yIs .bool (yVar 0))) (yBin (oEq false) (yVar 0) (yVar 1)))))
  ysNext)
  (ysSeq (ysIf (yTru (yIs .str (yVar 1)))
  (ysRet (yAndV (yIs .str (yVar 0)) (yBin (oEq false) (yVar 0) (yVar 1))))
  ysNext)
  (ysSeq (ysIf (yTru (yIs .dict (yVar 1)))
  (ysSeq (ysIf (yOr (yNot (yTru (yIs .dict (yVar 0)))) (yBinT (oEq true) (yCB oLen (ylCons (yVar 0) ylNil)) (yCB oLen (ylCons (yVar 1) ylNil))))
  (ysRet (yC (.bl false)))
  ysNext)
  (ysRet (yCB oAll (ylCons (yNew (ynLc (yiSeq (yVar 1)) (gN 3) yYes (yAndV (yBin (oIn false) (yVar 3) (yVar 0)) (yCall ψ Ξ0 (ylCons (yIx (yVar 0) (yVar 3)) (ylCons (yIx (yVar 1) (yVar 3)) ylNil)))) [3])) ylNil))))
  ysNext)
  (ysSeq (ysIf (yOr (yBinT (oEq true) (yIs .list (yVar 0)) (yIs .list (yVar 1))) (yOr (yNot (yTru (yIs2 .list .tuple (yVar 0)))) (yBinT (oEq true) (yCB oLen (ylCons (yVar 0) ylNil)) (yCB oLen (ylCons (yVar 1) ylNil)))))
  (ysRet (yC (.bl false)))
  ysNext)
  (ysRet (yCB oAll (ylCons (yNew (ynLc (yiRg1 (ylCons (yCB oLen (ylCons (yVar 1) ylNil)) ylNil)) (gN 2) yYes (yCall ψ Ξ0 (ylCons (yIx (yVar 0) (yVar 2)) (ylCons (yIx (yVar 1) (yVar 2)) ylNil))) [2])) ylNil)))))))))
theorem vc_law_same {n : Nat} (ds : List D) (Q' : D → Prop) (E' : Nat → Prop) (h : (sameN (n + 1)) ds Q' E') : r_law_same (sameN n) (fun c _ => E' c) { nx := fun _ => Q' .non, rt := fun d _ => Q' d } (startE N_law_same ds) := by
  obtain ⟨d, rfl, hp, h⟩ := h
  cases d with
  | non => exact h
  | bl b =>
    show Q' (.bl (decide (b = b)))
    rw [decide_eq_true rfl]
    exact h
  | int b =>
    show Q' (.bl (decide (b = b)))
    rw [decide_eq_true rfl]
    exact h
  | str b =>
    show Q' (.bl (decide (b = b)))
    rw [decide_eq_true rfl]
    exact h
  | tup ds =>
    unfold plainD at hp
    obtain ⟨hl, hp⟩ := Bool.and_eq_true_iff.mp hp
    have hl := of_decide_eq_true hl
    walk_at "y"
    show (match !decide (((ds.length : Nat) : Int) = ((ds.length : Nat) : Int)) with
      | true => _
      | false => _)
    rw [decide_eq_true rfl]
    refine gd_of (small_by (by omega) (by omega)) ?_
    refine ⟨⟨trivial, trivial⟩, ?_, lc_map (fun _ => .bl true) (fun i d hd K N hk => ?_) ?_⟩
    · rw [rangeD_len]
      omega
    · obtain ⟨hi, rfl⟩ := rangeD_get hd
      replace hi : i < ds.length := by rw [Int.toNat_natCast] at hi; exact hi
      rw [z_add]
      refine opt_of (atI_nat (List.getElem?_eq_getElem hi)) ?_
      refine opt_of (atI_nat (List.getElem?_eq_getElem hi)) ?_
      exact ⟨_, rfl, plain_at hp (List.getElem?_eq_getElem hi), rfl, hk⟩
    · have e : ∀ xs : List D, xs.map (fun _ => D.bl true) = (xs.map fun _ => true).map D.bl := fun xs => by rw [List.map_map]; rfl
      rw [e]
      refine all_bls ?_
      rw [show ∀ xs : List D, (xs.map fun _ => true).all id = true from fun xs => by simp]
      exact h
  | _ => cases hp

end PL.K16

set_option Elab.async false
set_option linter.all false
set_option autoImplicit false
set_option maxRecDepth 100000
set_option maxHeartbeats 1000000
namespace PL.K16
open PySem PySem.Spec PyProof.Rows L2
local macro_rules | `(tactic| walk_at "y") => `(tactic| conv => whnf)
/-! ### draws -/
def φ_law_pick : Spec := φPick
def φ_law_stream : Spec := φStream
theorem int_of {xs : List Int} {i : Nat} {d : D} (h : (xs.map D.int)[i]? = some d) : ∃ x, d = .int x := by
  rw [List.getElem?_map] at h
  cases e : xs[i]? with
  | none => rw [e] at h; cases h
  | some x => rw [e] at h; exact ⟨x, (Option.some.inj h).symm⟩
theorem map_snoc {ns : List Int} {x : Int} : ns.map D.int ++ [D.int x] = (ns ++ [x]).map D.int := by simp
abbrev N_law_stream : List Str := ["script", "pool", "mixed", "cell", "rest", "k"]
def r_law_stream (Ξ : Xi) : PTS :=
  (ysSeq (ysPar 1 2 (yxN (ynLst (ylCons (yC (.int 1)) ylNil))) (yxE (yC (.int 17))))
  (ysSeq (ysFor (yiFrl (yVar 0)) (gN 3)
  (ysSeq (ysAsg (yBin oMod (yCB oInt (ylCons (yVar 3) ylNil)) (yBin oPow (yC (.int 60)) (yC (.int 60)))) 4)
  (ysSeq (ysAsg (yBin oMod (yCB oInt (ylCons (yBin oAdd (yBin oMulA (yVar 2) (yC (.int 31))) (yCB oInt (ylCons (yVar 4) ylNil))) ylNil)) (yC (.int 2147483647))) 2)
  (ysFor (yiRg1 (ylCons (yIx (yNew (ynLst (ylCons (yC (.int 2)) (ylCons (yC (.int 60)) ylNil)))) (yCB oInt (ylCons (yBin oGe (yCB oInt (ylCons (yVar 3) ylNil)) (yBin oPow (yC (.int 10)) (yC (.int 18)))) ylNil))) ylNil)) (gN 5)
  (ysSeq (ysApp 1 (yBin oMod (yCB oInt (ylCons (yVar 4) ylNil)) (yC (.int 60))))
  (ysSeq (ysAsg (yCB oInt (ylCons (yBin oFdiv (yVar 4) (yC (.int 60))) ylNil)) 4)
  (ysIf (yBinT (oEq false) (yVar 4) (yC (.int 0)))
  ysBrk
  ysNext)))))))
  (ysSeq (ysFor (yiRg1 (ylCons (yC (.int 900)) ylNil)) (gN 5)
  (ysSeq (ysAsg (yBin oMod (yCB oInt (ylCons (yBin oAdd (yBin oMulA (yVar 2) (yC (.int 48271))) (yC (.int 11))) ylNil)) (yC (.int 2147483647))) 2)
  (ysApp 1 (yBin oMod (yCB oInt (ylCons (yBin oFdiv (yVar 2) (yC (.int 97))) ylNil)) (yC (.int 60))))))
  (ysRet (yVar 1)))))
theorem vc_law_stream (ds : List D) (Q' : D → Prop) (E' : Nat → Prop) (h : φList ds Q' E') : r_law_stream (fun c _ => E' c) { nx := fun _ => Q' .non, rt := fun d _ => Q' d } (startE N_law_stream ds) := by
  unfold φList at h
  split at h
  · obtain ⟨xs, rfl, hx, h⟩ := h
    let e (ns : List Int) (mi c r k : Option S) : PEnv := [some (.v (.frl (xs.map D.int))), some (.o (((1 : Int) :: ns).map D.int)), mi, c, r, k]
    let I (i : Int) : Option S := some (.v (.int i))
    refine seq_step (e [] (I 17) none none none) (fun K k => k) ?_
    refine seq_post (fun ε => ∃ ns mi c r k, ns.length ≤ 60 * 63 ∧ ε = e ns (I mi) c r k) (fun K kk => ⟨fun i ε => ∃ ns mi c r k, ns.length ≤ 60 * i ∧ ε = e ns (I mi) c r k, ⟨[], 17, none, none, none, Nat.zero_le _, rfl⟩, fun i d ε hi hd w => ?_, fun ε ⟨ns, mi, c, r, k, hl, q⟩ => kk ε ⟨ns, mi, c, r, k, by rw [List.length_map] at hl; omega, q⟩⟩) fun ε w => ?_
    · obtain ⟨x, rfl⟩ := int_of hd
      obtain ⟨ns, mi, c, r, k, hl, rfl⟩ := w
      rw [List.length_map] at hi
      refine seq_step (e ns (I mi) (I x) (I (x % 60 ^ 60)) k) (fun K k => k) ?_
      refine seq_post (fun ε => ∃ mi, ε = e ns (I mi) (I x) (I (x % 60 ^ 60)) k) (fun K kk => gd_of (.inr ⟨by decide, by decide⟩) (kk _ ⟨_, rfl⟩)) ?_
      rintro _ ⟨mi, rfl⟩
      obtain ⟨m, hm, em⟩ : ∃ m : Nat, m ≤ 60 ∧ atI [D.int 2, D.int 60] (if decide ((10 : Int) ^ Int.toNat 18 ≤ x) = true then 1 else 0) = some (.int (m : Int)) := by
        cases decide ((10 : Int) ^ Int.toNat 18 ≤ x)
        · exact ⟨2, by decide, rfl⟩
        · exact ⟨60, by decide, rfl⟩
      refine opt_of em ?_
      refine gd_of (small_by (by omega) (by omega)) ?_
      refine ⟨fun j ε => ∃ ns r k, ns.length ≤ 60 * i + j ∧ ε = e ns (I mi) (I x) (I r) k, ⟨ns, _, k, hl, rfl⟩, fun j d ε hj hd w => ?_, fun ε w => ?_⟩
      · have hdd := rangeD_get hd
        rw [hdd.2]
        obtain ⟨ns, r, k, hl, rfl⟩ := w
        have hj : j < m := by have := hdd.1; rw [Int.toNat_natCast] at this; exact this
        refine gd_of (show (((1 : Int) :: ns).map D.int).length < 16777216 by rw [List.length_map, List.length_cons]; omega) ?_
        rw [map_snoc]
        walk_at "y"
        split
        · exact ⟨ns ++ [r % 60], _, _, _, _, by rw [List.length_append]; show ns.length + 1 ≤ 60 * (i + 1); omega, rfl⟩
        · exact ⟨ns ++ [r % 60], _, _, by rw [List.length_append]; show ns.length + 1 ≤ 60 * i + (j + 1); omega, rfl⟩
      · obtain ⟨ns, r, k, hl, rfl⟩ := w
        rw [rangeD_len, Int.toNat_natCast] at hl
        exact ⟨ns, _, _, _, _, by show ns.length ≤ 60 * (i + 1); omega, rfl⟩
    · obtain ⟨ns, mi, c, r, k, hl, rfl⟩ := w
      refine ⟨fun j ε => ∃ ns' mi k, ns'.length = ns.length + j ∧ ε = e ns' (I mi) c r k, ⟨ns, mi, k, rfl, rfl⟩, fun j d ε hj hd w => ?_, fun ε w => ?_⟩
      · have hdd := rangeD_get hd
        rw [hdd.2]
        obtain ⟨ns', mi, k, hl', rfl⟩ := w
        have hj : j < 900 := hdd.1
        refine gd_of (.inr ⟨by decide, by decide⟩) ?_
        refine gd_of (show (((1 : Int) :: ns').map D.int).length < 16777216 by rw [List.length_map, List.length_cons]; omega) ?_
        rw [map_snoc]
        exact ⟨ns' ++ [(mi * 48271 + 11) % 2147483647 / 97 % 60], _, _, by rw [List.length_append, hl']; rfl, rfl⟩
      · obtain ⟨ns', mi, k, hl', rfl⟩ := w
        rw [rangeD_len] at hl'
        replace hl' : ns'.length = ns.length + 900 := hl'
        refine h (1 :: ns') ⟨?_, ?_, 1, rfl, by decide, ?_⟩
        · show 2 ≤ ns'.length + 1; omega
        · show ns'.length + 1 ≤ _; omega
        · show (1 : Int) < ((ns'.length + 1 : Nat) : Int); omega
  · exact h.elim
def φ_law_index : Spec
  | [.pool, .int n], Q, _ => gd (0 < n) (∀ r : Int, 0 ≤ r → r < n → Q (.int r))
  | _, _, _ => False
abbrev N_law_index : List Str := ["pool", "many", "high"]
def r_law_index (Ξ : Xi) : PTS :=
  (ysSeq (ysAsg (yCall φ_law_pick Ξ (ylCons (yVar 0) (ylCons (yC (.int 60)) ylNil))) 2)
  (ysRet (yBin oMod (yCB oInt (ylCons (yBin oAdd (yBin oMulA (yVar 2) (yC (.int 60))) (yCall φ_law_pick Ξ (ylCons (yVar 0) (ylCons (yC (.int 60)) ylNil)))) ylNil)) (yVar 1))))
theorem vc_law_index (ds : List D) (Q' : D → Prop) (E' : Nat → Prop) (h : φ_law_index ds Q' E') : r_law_index (fun c _ => E' c) { nx := fun _ => Q' .non, rt := fun d _ => Q' d } (startE N_law_index ds) := by
  unfold φ_law_index at h
  split at h
  · rename_i n
    obtain ⟨hn, h2⟩ := gd_elim h
    intro k k0 k1
    refine gd_of (.inr ⟨by decide, by decide⟩) ?_
    intro r a0 a1
    refine gd_of hn ?_
    exact h2 _ (Int.emod_nonneg _ (by omega)) (Int.emod_lt_of_pos _ hn)
  · exact h.elim
/-- signs that are no percent sign -/
def clean (l : List Nat) : Prop := ∀ c ∈ l, c ≠ 37
theorem ok_str {l : List Nat} (h : clean l) (hl : l.length ≤ 100000) : okD (.str (S0 l)) = true := by
  show (decide (l.length ≤ 100000) && l.all fun c => !decide (c = 37)) = true
  rw [decide_eq_true hl, Bool.true_and, List.all_eq_true]
  intro c hc
  rw [decide_eq_false (h c hc)]
  rfl
def φ_law_word : Spec := fun ds Q _ => ∃ (g : List Nat) (n : Nat), ds = [.pool, .str (S0 g), .int (n : Int)] ∧ clean g ∧ 0 < g.length ∧ g.length ≤ 100 ∧ n ≤ 100 ∧ ∀ l, clean l → l.length ≤ n → Q (.str (S0 l))
theorem str_snoc {l : List Nat} {c : Nat} : (S0 l ++ S0 [c] : Str) = S0 (l ++ [c]) := by
  have e : (l.toArray ++ [c].toArray) = (l ++ [c]).toArray := by simp
  exact congrArg Str.mk e
abbrev N_law_word : List Str := ["pool", "signs", "most", "told", "k"]
def r_law_word (Ξ : Xi) : PTS :=
  (ysSeq (ysAsg (yC (.str ("" : Str))) 3)
  (ysSeq (ysFor (yiRg1 (ylCons (yCall φ_law_pick Ξ (ylCons (yVar 0) (ylCons (yBin oAdd (yVar 2) (yC (.int 1))) ylNil))) ylNil)) (gN 4)
  (ysAsg (yBin oAdd (yVar 3) (yIx (yVar 1) (yCall φ_law_pick Ξ (ylCons (yVar 0) (ylCons (yCB oLen (ylCons (yVar 1) ylNil)) ylNil))))) 3))
  (ysRet (yVar 3))))
theorem vc_law_word (ds : List D) (Q' : D → Prop) (E' : Nat → Prop) (h : φ_law_word ds Q' E') : r_law_word (fun c _ => E' c) { nx := fun _ => Q' .non, rt := fun d _ => Q' d } (startE N_law_word ds) := by
  obtain ⟨g, n, rfl, hg, hg0, hg1, hn, h⟩ := h
  let e (t k : Option S) : PEnv := [some (.v .pool), some (.v (.str (S0 g))), some (.v (.int (n : Int))), t, k]
  refine seq_step (e (some (.v (.str (S0 [])))) none) (fun K k => k) ?_
  refine seq_post (fun ε => ∃ l k, clean l ∧ l.length ≤ n ∧ ε = e (some (.v (.str (S0 l)))) k) (fun K kk => ?_) ?_
  · refine gd_of (show (0 : Int) < (n : Int) + 1 by omega) ?_
    intro r r0 r1
    refine gd_of (small_by (by omega) (by omega)) ?_
    refine ⟨fun i ε => ∃ l k, clean l ∧ l.length ≤ i ∧ ε = e (some (.v (.str (S0 l)))) k, ⟨[], none, (fun c hc => by cases hc), Nat.zero_le _, rfl⟩, fun i d ε hi hd w => ?_, fun ε w => ?_⟩
    · have hdd := rangeD_get hd
      rw [hdd.2]
      obtain ⟨l, k, hc, hl, rfl⟩ := w
      have hi2 : i < r.toNat := hdd.1
      refine gd_of (show g.length ≤ 16777216 by omega) ?_
      refine gd_of (show (0 : Int) < ((g.length : Nat) : Int) by omega) ?_
      intro s s0 s1
      replace s1 : s < ((g.length : Nat) : Int) := s1
      obtain ⟨j, rfl⟩ := Int.eq_ofNat_of_zero_le s0
      obtain ⟨c, hj⟩ := get_of (l := g) (n := j) (by omega)
      refine gd_of (show g.length ≤ 16777216 by omega) ?_
      refine opt_sign (l := g) (n := j) rfl hj ?_
      refine gd_of (show l.length + 1 ≤ 16777216 by omega) ?_
      refine ⟨l ++ [c], some (.v (.int (0 + (i : Int)))), ?_, by rw [List.length_append]; show l.length + 1 ≤ i + 1; omega, ?_⟩
      · intro d hd
        rcases List.mem_append.mp hd with hd | hd
        · exact hc d hd
        · rw [List.mem_singleton.mp hd]
          exact hg c (List.mem_of_getElem? hj)
      · rw [← str_snoc]
        rfl
    · rw [rangeD_len] at w
      obtain ⟨l, k, hc, hl, rfl⟩ := w
      exact kk _ ⟨l, k, hc, by omega, rfl⟩
  rintro _ ⟨l, k, hc, hl, rfl⟩
  exact h l hc hl

end PL.K16

set_option Elab.async false
set_option linter.all false
set_option autoImplicit false
set_option maxRecDepth 100000
set_option maxHeartbeats 1000000
namespace PL.K16
open PySem PySem.Spec PyProof.Rows L2
local macro_rules | `(tactic| walk_at "y") => `(tactic| conv => whnf)
/-! ### what is asked -/
theorem s_e : ("" : Str) = S0 [] := by kernel_rfl
theorem s_ab : ("ab" : Str) = S0 [97, 98] := by kernel_rfl
theorem s_abc : ("abc<> " : Str) = S0 [97, 98, 99, 60, 62, 32] := by kernel_rfl
theorem s_a : ("a" : Str) = S0 [97] := by kernel_rfl
theorem s_am : ("&;lt\n" : Str) = S0 [38, 59, 108, 116, 10] := by kernel_rfl
theorem s_abl : ("ab<" : Str) = S0 [97, 98, 60] := by kernel_rfl
theorem s_1 : ("1" : Str) = S0 [49] := by kernel_rfl
theorem s_atb : ("a\tb" : Str) = S0 [97, 9, 98] := by kernel_rfl
theorem two_of {r : Int} (h0 : 0 ≤ r) (h1 : r < 2) : r = 0 ∨ r = 1 := by omega
theorem three_of {r : Int} (h0 : 0 ≤ r) (h1 : r < 3) : r = 0 ∨ r = 1 ∨ r = 2 := by omega
theorem four_of {r : Int} (h0 : 0 ≤ r) (h1 : r < 4) : r = 0 ∨ r = 1 ∨ r = 2 ∨ r = 3 := by omega
theorem seven_of {r : Int} (h0 : 0 ≤ r) (h1 : r < 7) : r = 0 ∨ r = 1 ∨ r = 2 ∨ r = 3 ∨ r = 4 ∨ r = 5 ∨ r = 6 := by omega
theorem rep_str {l : List Nat} {n : Nat} : repS (S0 l) n = S0 ((List.replicate n l).flatten) := rfl
theorem clean_rep {l : List Nat} (h : clean l) : ∀ n : Nat, clean ((List.replicate n l).flatten) := fun n c hc => by
  obtain ⟨x, h1, h2⟩ := List.mem_flatten.mp hc
  rw [List.eq_of_mem_replicate h1] at h2
  exact h c h2
theorem rep_len {l : List Nat} {n : Nat} : ((List.replicate n l).flatten).length = n * l.length := by
  rw [List.length_flatten, List.map_replicate, List.sum_replicate_nat]
theorem clean_append {a b : List Nat} (h1 : clean a) (h2 : clean b) : clean (a ++ b) := fun c hc => by
  rcases List.mem_append.mp hc with hc | hc
  · exact h1 c hc
  · exact h2 c hc
theorem str_app {l m : List Nat} : (S0 l ++ S0 m : Str) = S0 (l ++ m) := by
  have e : (l.toArray ++ m.toArray) = (l ++ m).toArray := by simp
  exact congrArg Str.mk e
theorem cut_any {l : List Nat} (h : clean l) (lo hi : Option Int) : ∃ m, cutS (S0 l) lo hi = S0 m ∧ clean m ∧ m.length ≤ l.length := by
  refine ⟨_, rfl, fun c hc => ?_, cutS_length (S0 l) lo hi⟩
  have h1 : c ∈ (l.drop (HT.sIx (S0 l).length 0 lo)).take (HT.sIx (S0 l).length (S0 l).length hi - HT.sIx (S0 l).length 0 lo) := by
    simpa using hc
  exact h c (List.mem_of_mem_drop (List.mem_of_mem_take h1))
theorem dec_empty {l : List Nat} : decide (S0 l = S0 []) = l.isEmpty := by
  cases l with
  | nil => rfl
  | cons c l =>
    rw [decide_eq_false]
    · rfl
    · intro z
      have := congrArg (fun s : Str => s.cps.toList) z
      cases this
def φ_law_text : Spec
  | [.pool, .bl _], Q, _ => ∀ l, clean l → l.length ≤ 3000 → Q (.str (S0 l))
  | _, _, _ => False
abbrev N_law_text : List Str := ["pool", "great", "told"]
def r_law_text (Ξ : Xi) : PTS :=
  (ysSeq (ysAsg (yCall φ_law_word Ξ (ylCons (yVar 0) (ylCons (yIx (yNew (ynLst (ylCons (yC (.str ("ab" : Str))) (ylCons (yC (.str ("abc<> " : Str))) (ylCons (yC (.str ("a" : Str))) (ylCons (yC (.str ("&;lt\n" : Str))) ylNil)))))) (yCall φ_law_pick Ξ (ylCons (yVar 0) (ylCons (yC (.int 4)) ylNil)))) (ylCons (yC (.int 59)) ylNil)))) 2)
  (ysSeq (ysIf (yAnd (yTru (yVar 1)) (yBinT (oEq true) (yVar 2) (yC (.str ("" : Str)))))
  (ysRet (yBin oMulA (yVar 2) (yBin oFdiv (yC (.int 3000)) (yCB oLen (ylCons (yVar 2) ylNil)))))
  ysNext)
  (ysRet (yVar 2))))
theorem vc_law_text (ds : List D) (Q' : D → Prop) (E' : Nat → Prop) (h : φ_law_text ds Q' E') : r_law_text (fun c _ => E' c) { nx := fun _ => Q' .non, rt := fun d _ => Q' d } (startE N_law_text ds) := by
  unfold φ_law_text at h
  split at h
  · rename_i b
    delta r_law_text
    rw [s_e, s_ab, s_abc, s_a, s_am]
    refine seq_post (fun ε => ∃ l, clean l ∧ l.length ≤ 59 ∧ ε = [some (.v .pool), some (.v (.bl b)), some (.v (.str (S0 l)))]) (fun K kk => ?_) ?_
    · intro r r0 r1
      rcases four_of r0 r1 with rfl | rfl | rfl | rfl
      · exact ⟨[97, 98], 59, rfl, by unfold clean; decide, by decide, by decide, by decide, fun l h1 h2 => kk _ ⟨l, h1, h2, rfl⟩⟩
      · exact ⟨[97, 98, 99, 60, 62, 32], 59, rfl, by unfold clean; decide, by decide, by decide, by decide, fun l h1 h2 => kk _ ⟨l, h1, h2, rfl⟩⟩
      · exact ⟨[97], 59, rfl, by unfold clean; decide, by decide, by decide, by decide, fun l h1 h2 => kk _ ⟨l, h1, h2, rfl⟩⟩
      · exact ⟨[38, 59, 108, 116, 10], 59, rfl, by unfold clean; decide, by decide, by decide, by decide, fun l h1 h2 => kk _ ⟨l, h1, h2, rfl⟩⟩
    rintro _ ⟨l, hc, hl, rfl⟩
    cases b with
    | false => exact h l hc (by omega)
    | true =>
      walk_at "y"
      show (match !decide (S0 l = S0 []) with
        | true => _
        | false => _)
      rw [dec_empty]
      cases l with
      | nil => exact h [] hc (by decide)
      | cons c l =>
        refine gd_of (show (c :: l).length ≤ 16777216 by omega) ?_
        refine gd_of (show (0 : Int) < (((c :: l).length : Nat) : Int) ∧ (((c :: l).length : Nat) : Int) < 1073741824 by rw [List.length_cons]; rw [List.length_cons] at hl; omega) ?_
        have h1 : (((3000 : Int) / (((c :: l).length : Nat) : Int))).toNat * (c :: l).length ≤ 3000 := by
          have e : (3000 : Int) / (((c :: l).length : Nat) : Int) = ((3000 / (c :: l).length : Nat) : Int) := rfl
          rw [e, Int.toNat_natCast]
          exact Nat.div_mul_le_self _ _
        refine gd_of (show smallB ((3000 : Int) / (((c :: l).length : Nat) : Int)) = true ∧ (c :: l).length * ((3000 : Int) / (((c :: l).length : Nat) : Int)).toNat ≤ 16777216 from ⟨?_, ?_⟩) ?_
        · have e : (3000 : Int) / (((c :: l).length : Nat) : Int) = ((3000 / (c :: l).length : Nat) : Int) := rfl
          rw [e]
          have := Nat.div_le_self 3000 (c :: l).length
          have z : ∀ z : Nat, z ≤ 3000 → smallB (z : Int) = true := fun z hz => small_by (by omega) (by omega)
          exact z _ this
        · rw [Nat.mul_comm]; omega
        · show Q' (.str (repS (S0 (c :: l)) _))
          rw [rep_str]
          exact h _ (clean_rep hc _) (by rw [rep_len]; exact h1)
  · exact h.elim
def φ_law_new : Spec := fun ds Q _ => ∃ t o, ds = [.pool, .str (S0 t), .str (S0 o)] ∧ clean t ∧ clean o ∧ t.length ≤ 3000 ∧ o.length ≤ 3000 ∧ ∀ l, clean l → l.length ≤ 9000 → Q (.str (S0 l))
abbrev N_law_new : List Str := ["pool", "text", "old", "cut", "end", "kind"]
def r_law_new (Ξ : Xi) : PTS :=
  (ysSeq (ysAsg (yCall φ_law_index Ξ (ylCons (yVar 0) (ylCons (yBin oAdd (yCB oLen (ylCons (yVar 2) ylNil)) (yC (.int 1))) ylNil))) 3)
  (ysSeq (ysAsg (yBin oAdd (yVar 3) (yCall φ_law_index Ξ (ylCons (yVar 0) (ylCons (yBin oAdd (yBin oSub (yCB oLen (ylCons (yVar 2) ylNil)) (yVar 3)) (yC (.int 1))) ylNil)))) 4)
  (ysSeq (ysAsg (yCall φ_law_pick Ξ (ylCons (yVar 0) (ylCons (yC (.int 7)) ylNil))) 5)
  (ysSeq (ysIf (yBinT (oEq false) (yVar 5) (yC (.int 0)))
  (ysRet (yVar 2))
  ysNext)
  (ysSeq (ysIf (yBinT (oEq false) (yVar 5) (yC (.int 1)))
  (ysRet (yBin oAdd (ySlS (yVar 2) yoNone (yoSome (yVar 3))) (ySlS (yVar 2) (yoSome (yVar 4)) yoNone)))
  ysNext)
  (ysSeq (ysIf (yBinT (oEq false) (yVar 5) (yC (.int 2)))
  (ysRet (yBin oAdd (yBin oAdd (ySlS (yVar 2) yoNone (yoSome (yVar 3))) (yIx (yC (.str ("ab<" : Str))) (yCall φ_law_pick Ξ (ylCons (yVar 0) (ylCons (yC (.int 3)) ylNil))))) (ySlS (yVar 2) (yoSome (yVar 4)) yoNone)))
  ysNext)
  (ysSeq (ysIf (yBinT (oEq false) (yVar 5) (yC (.int 3)))
  (ysRet (yBin oAdd (ySlS (yVar 2) yoNone (yoSome (yVar 3))) (ySlS (yVar 2) yoNone (yoSome (yVar 4)))))
  ysNext)
  (ysSeq (ysIf (yBinT (oEq false) (yVar 5) (yC (.int 4)))
  (ysRet (ySlS (yVar 1) yoNone (yoSome (yVar 3))))
  ysNext)
  (ysRet (yCall φ_law_word Ξ (ylCons (yVar 0) (ylCons (yC (.str ("ab<" : Str))) (ylCons (yC (.int 9)) ylNil)))))))))))))
theorem vc_law_new (ds : List D) (Q' : D → Prop) (E' : Nat → Prop) (h : φ_law_new ds Q' E') : r_law_new (fun c _ => E' c) { nx := fun _ => Q' .non, rt := fun d _ => Q' d } (startE N_law_new ds) := by
  obtain ⟨t, o, rfl, ct, co, ht, ho, h⟩ := h
  delta r_law_new
  rw [s_abl]
  let e (a b c : Option S) : PEnv := [some (.v .pool), some (.v (.str (S0 t))), some (.v (.str (S0 o))), a, b, c]
  let I (i : Int) : Option S := some (.v (.int i))
  refine seq_post (fun ε => ∃ a : Int, 0 ≤ a ∧ a ≤ o.length ∧ ε = e (I a) none none) (fun K kk => ?_) ?_
  · refine gd_of (show o.length ≤ 16777216 by omega) ?_
    refine gd_of (show (0 : Int) < ((o.length : Nat) : Int) + 1 by omega) ?_
    intro a a0 a1
    replace a1 : a < ((o.length : Nat) : Int) + 1 := a1
    exact kk _ ⟨a, a0, by omega, rfl⟩
  rintro _ ⟨a, a0, a1, rfl⟩
  refine seq_post (fun ε => ∃ b : Int, ε = e (I a) (I b) none) (fun K kk => ?_) ?_
  · refine gd_of (show o.length ≤ 16777216 by omega) ?_
    refine gd_of (show (0 : Int) < ((o.length : Nat) : Int) - a + 1 by omega) ?_
    intro b b0 b1
    exact kk _ ⟨_, rfl⟩
  rintro _ ⟨b, rfl⟩
  obtain ⟨x1, e1, k1, l1⟩ := cut_any co none (some a)
  obtain ⟨x2, e2, k2, l2⟩ := cut_any co (some b) none
  obtain ⟨x3, e3, k3, l3⟩ := cut_any co none (some b)
  obtain ⟨x4, e4, k4, l4⟩ := cut_any ct none (some a)
  intro r r0 r1
  rcases seven_of r0 r1 with rfl | rfl | rfl | rfl | rfl | rfl | rfl
  · exact h o co (by omega)
  · refine gd_of (show o.length ≤ 16777216 by omega) ?_
    refine gd_of (show o.length ≤ 16777216 by omega) ?_
    refine gd_of (show (cutS (S0 o) none (some a)).length + (cutS (S0 o) (some b) none).length ≤ 16777216 by rw [e1, e2]; show x1.length + x2.length ≤ _; omega) ?_
    show Q' (.str (cutS (S0 o) none (some a) ++ cutS (S0 o) (some b) none))
    rw [e1, e2, str_app]
    exact h _ (clean_append k1 k2) (by rw [List.length_append]; omega)
  · refine gd_of (show o.length ≤ 16777216 by omega) ?_
    intro s s0 s1
    obtain ⟨c, hc, hc2⟩ : ∃ c, atI [97, 98, 60] s = some c ∧ c ≠ 37 := by
      rcases three_of s0 s1 with rfl | rfl | rfl
      · exact ⟨97, rfl, by decide⟩
      · exact ⟨98, rfl, by decide⟩
      · exact ⟨60, rfl, by decide⟩
    refine opt_of hc ?_
    refine gd_of (show (cutS (S0 o) none (some a)).length + 1 ≤ 16777216 by rw [e1]; show x1.length + 1 ≤ _; omega) ?_
    refine gd_of (show o.length ≤ 16777216 by omega) ?_
    refine gd_of (show (cutS (S0 o) none (some a) ++ S0 [c]).length + (cutS (S0 o) (some b) none).length ≤ 16777216 by rw [e1, e2, str_app]; show (x1 ++ [c]).length + x2.length ≤ _; rw [List.length_append]; show x1.length + 1 + x2.length ≤ _; omega) ?_
    show Q' (.str (cutS (S0 o) none (some a) ++ S0 [c] ++ cutS (S0 o) (some b) none))
    rw [e1, e2, str_app, str_app]
    exact h _ (clean_append (clean_append k1 (fun d hd => by rw [List.mem_singleton.mp hd]; exact hc2)) k2) (by rw [List.length_append, List.length_append]; show x1.length + 1 + x2.length ≤ _; omega)
  · refine gd_of (show o.length ≤ 16777216 by omega) ?_
    refine gd_of (show o.length ≤ 16777216 by omega) ?_
    refine gd_of (show (cutS (S0 o) none (some a)).length + (cutS (S0 o) none (some b)).length ≤ 16777216 by rw [e1, e3]; show x1.length + x3.length ≤ _; omega) ?_
    show Q' (.str (cutS (S0 o) none (some a) ++ cutS (S0 o) none (some b)))
    rw [e1, e3, str_app]
    exact h _ (clean_append k1 k3) (by rw [List.length_append]; omega)
  · refine gd_of (show t.length ≤ 16777216 by omega) ?_
    show Q' (.str (cutS (S0 t) none (some a)))
    rw [e4]
    exact h _ k4 (by omega)
  · exact ⟨[97, 98, 60], 9, rfl, by unfold clean; decide, by decide, by decide, by decide, fun l h1 h2 => h l h1 (by omega)⟩
  · exact ⟨[97, 98, 60], 9, rfl, by unfold clean; decide, by decide, by decide, by decide, fun l h1 h2 => h l h1 (by omega)⟩

end PL.K16

set_option Elab.async false
set_option linter.all false
set_option autoImplicit false
set_option maxRecDepth 100000
set_option maxHeartbeats 1000000
namespace PL.K16
open PySem PySem.Spec PyProof.Rows L2
local macro_rules | `(tactic| walk_at "y") => `(tactic| conv => whnf)
theorem nine_of {r : Int} (h0 : 0 ≤ r) (h1 : r < 9) : r = 0 ∨ r = 1 ∨ r = 2 ∨ r = 3 ∨ r = 4 ∨ r = 5 ∨ r = 6 ∨ r = 7 ∨ r = 8 := by omega
def φ_law_spoilt : Spec := fun ds Q _ => ∃ (t p : List Nat) (a k : Int), ds = [.pool, .tup [.str (S0 t), .int a, .int k, .str (S0 p)]] ∧ clean t ∧ clean p ∧ t.length ≤ 3000 ∧ p.length ≤ 9000 ∧ 0 ≤ k ∧ k ≤ 3000 ∧
  ∀ d0 d1 d2 d3, ok4 d0 d1 d2 d3 → Q (.tup [d0, d1, d2, d3])
abbrev N_law_spoilt : List Str := ["pool", "splice", "made", "turn", "k", "size", "numbers", "words"]
def r_law_spoilt (Ξ : Xi) : PTS :=
  (ysSeq (ysAsgO (ynCB oListOf (ylCons (yVar 1) ylNil)) 2)
  (ysSeq (ysIf (yBinT (oEq false) (yCall φ_law_pick Ξ (ylCons (yVar 0) (ylCons (yC (.int 3)) ylNil))) (yC (.int 0)))
  (ysSetIx 2 (yC (.int 3)) (yBin oMulA (yC (.str ("a" : Str))) (yBin oAdd (yBin oSub (yBin oAdd (yC (.int 3000)) (yCall φ_law_pick Ξ (ylCons (yVar 0) (ylCons (yC (.int 2)) ylNil)))) (yCB oLen (ylCons (yIx (yVar 2) (yC (.int 0))) ylNil))) (yIx (yVar 2) (yC (.int 2))))))
  ysNext)
  (ysSeq (ysFor (yiRg1 (ylCons (yCall φ_law_pick Ξ (ylCons (yVar 0) (ylCons (yC (.int 3)) ylNil))) ylNil)) (gN 3)
  (ysSeq (ysPar 4 5 (yxE (yCall φ_law_pick Ξ (ylCons (yVar 0) (ylCons (yC (.int 4)) ylNil)))) (yxE (yCB oLen (ylCons (yIx (yVar 1) (yC (.int 0))) ylNil))))
  (ysSeq (ysAsg (yNew (ynLst (ylCons (yNeg (yC (.int 1))) (ylCons (yVar 5) (ylCons (yBin oAdd (yVar 5) (yC (.int 1))) (ylCons (yBin oSub (yVar 5) (yIx (yVar 1) (yC (.int 1)))) (ylCons (yBin oAdd (yBin oSub (yVar 5) (yIx (yVar 1) (yC (.int 1)))) (yC (.int 1))) (ylCons (yC (.bl true)) (ylCons (yC (.bl false)) (ylCons (yC .non) (ylCons (yC (.str ("1" : Str))) (ylCons (yNew (ynLst (ylCons (yC (.int 0)) ylNil))) (ylCons (yBin oPow (yC (.int 10)) (yC (.int 30))) ylNil))))))))))))) 6)
  (ysSeq (ysAsg (yNew (ynLst (ylCons (yC .non) (ylCons (yC (.int 5)) (ylCons (yC (.str ("a\tb" : Str))) (ylCons (yBin oMulA (yC (.str ("a" : Str))) (yC (.int 3000))) (ylCons (yBin oMulA (yC (.str ("a" : Str))) (yC (.int 3001))) (ylCons (yNew (ynLst (ylCons (yC (.str ("a" : Str))) ylNil))) (ylCons (yC (.str ("" : Str))) (ylCons (yTup (ylCons (yC (.str ("a" : Str))) ylNil)) (ylCons (yC (.int 0)) ylNil))))))))))) 7)
  (ysIf (yBinT (oIn false) (yVar 4) (yNew (ynLst (ylCons (yC (.int 1)) (ylCons (yC (.int 2)) ylNil)))))
  (ysSetIx 2 (yVar 4) (yIx (yVar 6) (yCall φ_law_pick Ξ (ylCons (yVar 0) (ylCons (yC (.int 11)) ylNil)))))
  (ysSetIx 2 (yVar 4) (yIx (yVar 7) (yCall φ_law_pick Ξ (ylCons (yVar 0) (ylCons (yC (.int 9)) ylNil))))))))))
  (ysRet (yTup (ylCons (yIx (yVar 2) (yC (.int 0))) (ylCons (yIx (yVar 2) (yC (.int 1))) (ylCons (yIx (yVar 2) (yC (.int 2))) (ylCons (yIx (yVar 2) (yC (.int 3))) ylNil)))))))))
theorem vc_law_spoilt (ds : List D) (Q' : D → Prop) (E' : Nat → Prop) (h : φ_law_spoilt ds Q' E') : r_law_spoilt (fun c _ => E' c) { nx := fun _ => Q' .non, rt := fun d _ => Q' d } (startE N_law_spoilt ds) := by
  obtain ⟨t, p, a, k, rfl, ct, cp, ht, hp, k0, k1, h⟩ := h
  delta r_law_spoilt
  rw [s_e, s_a, s_1, s_atb]
  let T : Option S := some (.v (.tup [.str (S0 t), .int a, .int k, .str (S0 p)]))
  let e (m : List D) (tu kk sz nu wo : Option S) : PEnv := [some (.v .pool), T, some (.o m), tu, kk, sz, nu, wo]
  have okt : okD (.str (S0 t)) = true := ok_str ct (by omega)
  have okp : okD (.str (S0 p)) = true := ok_str cp (by omega)
  refine seq_step (e [.str (S0 t), .int a, .int k, .str (S0 p)] none none none none none) (fun K kk => kk) ?_
  refine seq_post (fun ε => ∃ d3, okD d3 = true ∧ ε = e [.str (S0 t), .int a, .int k, d3] none none none none none) (fun K kk => ?_) ?_
  · intro r r0 r1
    rcases three_of r0 r1 with rfl | rfl | rfl
    · intro s s0 s1
      refine gd_of (show t.length ≤ 16777216 by omega) ?_
      have hn : smallB (3000 + s - ((t.length : Nat) : Int) + k) = true ∧ (S0 [97]).length * (3000 + s - ((t.length : Nat) : Int) + k).toNat ≤ 16777216 := by
        refine ⟨small_by (by omega) (by omega), ?_⟩
        show 1 * (3000 + s - ((t.length : Nat) : Int) + k).toNat ≤ 16777216
        omega
      refine gd_of hn ?_
      refine kk _ ⟨.str (repS (S0 [97]) (3000 + s - ((t.length : Nat) : Int) + k).toNat), ?_, rfl⟩
      rw [rep_str]
      refine ok_str (clean_rep (by unfold clean; decide) _) ?_
      rw [rep_len]
      show (3000 + s - ((t.length : Nat) : Int) + k).toNat * 1 ≤ 100000
      omega
    · exact kk _ ⟨_, okp, rfl⟩
    · exact kk _ ⟨_, okp, rfl⟩
  rintro _ ⟨d3, ok3, rfl⟩
  refine seq_post (fun ε => ∃ d0 d1 d2 d3 tu kk sz nu wo, ok4 d0 d1 d2 d3 ∧ ε = e [d0, d1, d2, d3] tu kk sz nu wo) (fun K kk => ?_) ?_
  · intro r r0 r1
    refine gd_of (small_by (by omega) (by omega)) ?_
    refine ⟨fun i ε => ∃ d0 d1 d2 d3 tu kk sz nu wo, ok4 d0 d1 d2 d3 ∧ ε = e [d0, d1, d2, d3] tu kk sz nu wo, ⟨_, _, _, _, _, _, _, _, _, ⟨okt, rfl, rfl, ok3⟩, rfl⟩, fun i d ε hi hd w => ?_, fun ε w => kk ε w⟩
    have hdd := rangeD_get hd
    rw [hdd.2]
    generalize D.int (0 + (i : Int)) = tu'
    obtain ⟨d0, d1, d2, d3, tu, kk', sz, nu, wo, ok, rfl⟩ := w
    let I (i : Int) : Option S := some (.v (.int i))
    refine seq_post (fun ε => ∃ r : Int, 0 ≤ r ∧ r < 4 ∧ ε = e [d0, d1, d2, d3] (some (.v tu')) (I r) (I (t.length : Nat)) nu wo) (fun K kk => fun r r0 r1 => gd_of (show t.length ≤ 16777216 by omega) (kk _ ⟨r, r0, r1, rfl⟩)) ?_
    rintro _ ⟨r, r0, r1, rfl⟩
    refine seq_post (fun ε => ∃ ns : List D, ns.length = 11 ∧ (∀ d ∈ ns, okD d = true) ∧ ε = e [d0, d1, d2, d3] (some (.v tu')) (I r) (I (t.length : Nat)) (some (.v (.lst ns))) wo) (fun K kk => ?_) ?_
    · refine kk _ ⟨[.int (-1), .int ((t.length : Nat) : Int), .int (((t.length : Nat) : Int) + 1), .int (((t.length : Nat) : Int) - a), .int (((t.length : Nat) : Int) - a + 1), .bl true, .bl false, .non, .str (S0 [49]), .lst [.int 0], .int (10 ^ Int.toNat 30)], rfl, ?_, rfl⟩
      repeat' (first | exact List.forall_mem_nil _ | refine List.forall_mem_cons.2 ⟨rfl, ?_⟩)
    rintro _ ⟨ns, hns, okn, rfl⟩
    refine seq_post (fun ε => ∃ ws : List D, ws.length = 9 ∧ (∀ d ∈ ws, okD d = true) ∧ ε = e [d0, d1, d2, d3] (some (.v tu')) (I r) (I (t.length : Nat)) (some (.v (.lst ns))) (some (.v (.lst ws)))) (fun K kk => ?_) ?_
    · have q : ∀ n : Nat, n ≤ 3001 → okD (.str (repS (S0 [97]) n)) = true := fun n hn => by
        rw [rep_str]
        refine ok_str (clean_rep (by unfold clean; decide) _) ?_
        rw [rep_len]
        show n * 1 ≤ 100000
        omega
      refine kk _ ⟨[.non, .int 5, .str (S0 [97, 9, 98]), .str (repS (S0 [97]) (Int.toNat 3000)), .str (repS (S0 [97]) (Int.toNat 3001)), .lst [.str (S0 [97])], .str (S0 []), .tup [.str (S0 [97])], .int 0], rfl, ?_, rfl⟩
      repeat' (first | exact List.forall_mem_nil _ | refine List.forall_mem_cons.2 ⟨by first | rfl | exact q _ (by decide), ?_⟩)
    rintro _ ⟨ws, hws, okw, rfl⟩
    rcases four_of r0 r1 with rfl | rfl | rfl | rfl
    · intro s s0 s1
      exact pick_of s0 (by rw [hws]; exact s1) fun d hd => ⟨_, _, _, _, _, _, _, _, _, ⟨okw d hd, ok.2.1, ok.2.2.1, ok.2.2.2⟩, rfl⟩
    · intro s s0 s1
      exact pick_of s0 (by rw [hns]; exact s1) fun d hd => ⟨_, _, _, _, _, _, _, _, _, ⟨ok.1, okn d hd, ok.2.2.1, ok.2.2.2⟩, rfl⟩
    · intro s s0 s1
      exact pick_of s0 (by rw [hns]; exact s1) fun d hd => ⟨_, _, _, _, _, _, _, _, _, ⟨ok.1, ok.2.1, okn d hd, ok.2.2.2⟩, rfl⟩
    · intro s s0 s1
      exact pick_of s0 (by rw [hws]; exact s1) fun d hd => ⟨_, _, _, _, _, _, _, _, _, ⟨ok.1, ok.2.1, ok.2.2.1, okw d hd⟩, rfl⟩
  rintro _ ⟨d0, d1, d2, d3, tu, kk, sz, nu, wo, ok, rfl⟩
  exact h d0 d1 d2 d3 ok

end PL.K16

set_option Elab.async false
set_option linter.all false
set_option autoImplicit false
set_option maxRecDepth 100000
set_option maxHeartbeats 1000000
namespace PL.K16
open PySem PySem.Spec PyProof.Rows L2
local macro_rules | `(tactic| walk_at "y") => `(tactic| conv => whnf)
def φ_law_same : Spec := sameN 3
theorem plain_due (t a k p : D) : plainD 3 (dueD t a k p) = true := by
  unfold dueD
  split
  · unfold trimD
    split <;> rfl
  · rfl
  · rfl
  · rfl
def okQ (q : D) : Prop := ∃ t a k p, q = .tup [t, a, k, p] ∧ ok4 t a k p
def φ_law : Spec := φLaw
theorem gtup4 {i j k l : Nat} {d1 d2 d3 d4 : D} {ε : PEnv} {Q : PEnv → Prop} (h : Q ((((ε.set i (some (.v d1))).set j (some (.v d2))).set k (some (.v d3))).set l (some (.v d4)))) : gTupY 4 [gN i, gN j, gN k, gN l] (.tup [d1, d2, d3, d4]) ε Q := h
abbrev N_law : List Str := ["script", "pool", "great", "asked", "turn", "text", "at", "taken", "splice", "put"]
def r_law (Ξ : Xi) : PTS :=
  (ysSeq (ysAsg (yCall φ_law_stream Ξ (ylCons (yVar 0) ylNil)) 1)
  (ysSeq (ysPar 2 3 (yxE (yBin (oEq false) (yCall φ_law_pick Ξ (ylCons (yVar 1) (ylCons (yC (.int 30)) ylNil))) (yC (.int 0)))) (yxN (ynLst ylNil)))
  (ysSeq (ysFor (yiRg1 (ylCons (yC (.int 8)) ylNil)) (gN 4)
  (ysSeq (ysAsg (yCall φ_law_text Ξ (ylCons (yVar 1) (ylCons (yAndV (yVar 2) (yBin oLt (yVar 4) (yC (.int 2)))) ylNil))) 5)
  (ysSeq (ysAsg (yCall φ_law_index Ξ (ylCons (yVar 1) (ylCons (yBin oAdd (yCB oLen (ylCons (yVar 5) ylNil)) (yC (.int 1))) ylNil))) 6)
  (ysSeq (ysAsg (yCall φ_law_index Ξ (ylCons (yVar 1) (ylCons (yBin oAdd (yBin oSub (yCB oLen (ylCons (yVar 5) ylNil)) (yVar 6)) (yC (.int 1))) ylNil))) 7)
  (ysSeq (ysIf (yBinT (oEq false) (yCall φ_law_pick Ξ (ylCons (yVar 1) (ylCons (yC (.int 4)) ylNil))) (yC (.int 0)))
  (ysPar 6 7 (yxE (yC (.int 0))) (yxE (yCB oLen (ylCons (yVar 5) ylNil))))
  ysNext)
  (ysSeq (ysAsg (yTup (ylCons (yVar 5) (ylCons (yVar 6) (ylCons (yVar 7) (ylCons (yCall φ_law_new Ξ (ylCons (yVar 1) (ylCons (yVar 5) (ylCons (ySlS (yVar 5) (yoSome (yVar 6)) (yoSome (yBin oAdd (yVar 6) (yVar 7)))) ylNil)))) ylNil))))) 8)
  (ysSeq (ysApp 3 (yVar 8))
  (ysIf (yBinT oGt (yVar 4) (yC (.int 3)))
  (ysApp 3 (yCall φ_law_spoilt Ξ (ylCons (yVar 1) (ylCons (yVar 8) ylNil))))
  ysNext))))))))
  (ysSeq (ysFor (yiSeq (yBin oAdd (yVar 3) (yNew (ynRev (yVar 3))))) (gTupY 4 [(gN 5), (gN 6), (gN 7), (gN 9)])
  (ysIf (yNot (yTru (yCall φ_law_same Ξ (ylCons (yCall φ_law_told Ξ (ylCons (yVar 5) (ylCons (yVar 6) (ylCons (yVar 7) (ylCons (yVar 9) ylNil))))) (ylCons (yCall φ_law_due Ξ (ylCons (yVar 5) (ylCons (yVar 6) (ylCons (yVar 7) (ylCons (yVar 9) ylNil))))) ylNil)))))
  (ysRet (yC (.bl false)))
  ysNext))
  (ysRet (yC (.bl true)))))))
theorem vc_law (ds : List D) (Q' : D → Prop) (E' : Nat → Prop) (h : φ_law ds Q' E') : r_law (fun c _ => E' c) { nx := fun _ => Q' .non, rt := fun d _ => Q' d } (startE N_law ds) := by
  unfold φ_law φLaw at h
  split at h
  · obtain ⟨xs, rfl, hx, h⟩ := h
    let e (g : Bool) (qs : List D) (tu te at_ ta sp pu : Option S) : PEnv := [some (.v (.frl (xs.map D.int))), some (.v .pool), some (.v (.bl g)), some (.o qs), tu, te, at_, ta, sp, pu]
    let I (i : Int) : Option S := some (.v (.int i))
    refine seq_step [some (.v (.frl (xs.map D.int))), some (.v .pool), none, none, none, none, none, none, none, none] (fun K k => ⟨⟨xs, rfl, hx⟩, k⟩) ?_
    refine seq_post (fun ε => ∃ g, ε = e g [] none none none none none none) (fun K kk => fun r r0 r1 => kk _ ⟨_, rfl⟩) ?_
    rintro _ ⟨g, rfl⟩
    refine seq_post (fun ε => ∃ qs tu te at_ ta sp pu, (∀ q ∈ qs, okQ q) ∧ qs.length ≤ 16 ∧ ε = e g qs tu te at_ ta sp pu) (fun K kk => ⟨fun i ε => ∃ qs tu te at_ ta sp pu, (∀ q ∈ qs, okQ q) ∧ qs.length ≤ 2 * i ∧ ε = e g qs tu te at_ ta sp pu, ⟨[], _, _, _, _, _, _, (fun q hq => by cases hq), Nat.zero_le _, rfl⟩, fun i d ε hi hd w => ?_, fun ε w => kk ε w⟩) ?_
    · have hdd := rangeD_get hd
      obtain ⟨qs, tu, te, at_, ta, sp, pu, hq, hql, rfl⟩ := w
      have hi8 : i < 8 := hdd.1
      rw [hdd.2]
      refine seq_post (fun ε => ∃ l, clean l ∧ l.length ≤ 3000 ∧ ε = e g qs (I (0 + (i : Int))) (some (.v (.str (S0 l)))) at_ ta sp pu) (fun K kk => ?_) ?_
      · cases g with
        | false => exact fun l h1 h2 => kk _ ⟨l, h1, h2, rfl⟩
        | true => exact fun l h1 h2 => kk _ ⟨l, h1, h2, rfl⟩
      rintro _ ⟨l, hc, hl, rfl⟩
      refine seq_post (fun ε => ∃ a : Int, 0 ≤ a ∧ a ≤ ((l.length : Nat) : Int) ∧ ε = e g qs (I (0 + (i : Int))) (some (.v (.str (S0 l)))) (I a) ta sp pu) (fun K kk => ?_) ?_
      · refine gd_of (show l.length ≤ 16777216 by omega) ?_
        refine gd_of (show (0 : Int) < ((l.length : Nat) : Int) + 1 by omega) ?_
        intro a a0 a1
        replace a1 : a < ((l.length : Nat) : Int) + 1 := a1
        exact kk _ ⟨a, a0, by omega, rfl⟩
      rintro _ ⟨a, a0, a1, rfl⟩
      refine seq_post (fun ε => ∃ k : Int, 0 ≤ k ∧ a + k ≤ ((l.length : Nat) : Int) ∧ ε = e g qs (I (0 + (i : Int))) (some (.v (.str (S0 l)))) (I a) (I k) sp pu) (fun K kk => ?_) ?_
      · refine gd_of (show l.length ≤ 16777216 by omega) ?_
        refine gd_of (show (0 : Int) < ((l.length : Nat) : Int) - a + 1 by omega) ?_
        intro k k0 k1
        replace k1 : k < ((l.length : Nat) : Int) - a + 1 := k1
        exact kk _ ⟨k, k0, by omega, rfl⟩
      rintro _ ⟨k, k0, k1, rfl⟩
      refine seq_post (fun ε => ∃ a k : Int, 0 ≤ a ∧ 0 ≤ k ∧ a + k ≤ ((l.length : Nat) : Int) ∧ ε = e g qs (I (0 + (i : Int))) (some (.v (.str (S0 l)))) (I a) (I k) sp pu) (fun K kk => ?_) ?_
      · intro r r0 r1
        rcases four_of r0 r1 with rfl | rfl | rfl | rfl
        · exact gd_of (show l.length ≤ 16777216 by omega) (kk _ ⟨0, ((l.length : Nat) : Int), by omega, by omega, by omega, rfl⟩)
        · exact kk _ ⟨a, k, a0, k0, k1, rfl⟩
        · exact kk _ ⟨a, k, a0, k0, k1, rfl⟩
        · exact kk _ ⟨a, k, a0, k0, k1, rfl⟩
      rintro _ ⟨a, k, a0, k0, k1, rfl⟩
      obtain ⟨o, eo, co, lo⟩ := cut_any hc (some a) (some (a + k))
      refine seq_post (fun ε => ∃ p, clean p ∧ p.length ≤ 9000 ∧ ε = e g qs (I (0 + (i : Int))) (some (.v (.str (S0 l)))) (I a) (I k) (some (.v (.tup [.str (S0 l), .int a, .int k, .str (S0 p)]))) pu) (fun K kk => ?_) ?_
      · refine gd_of (show l.length ≤ 16777216 by omega) ?_
        refine ⟨l, o, ?_, hc, co, hl, by omega, fun p hp hpl => kk _ ⟨p, hp, hpl, rfl⟩⟩
        rw [← eo]
      rintro _ ⟨p, cp, hp, rfl⟩
      have okq : okQ (.tup [.str (S0 l), .int a, .int k, .str (S0 p)]) := ⟨_, _, _, _, rfl, ok_str hc (by omega), rfl, rfl, ok_str cp (by omega)⟩
      refine seq_step (e g (qs ++ [D.tup [.str (S0 l), .int a, .int k, .str (S0 p)]]) (I (0 + (i : Int))) (some (.v (.str (S0 l)))) (I a) (I k) (some (.v (.tup [.str (S0 l), .int a, .int k, .str (S0 p)]))) pu) (fun K kk => gd_of (show qs.length < 16777216 by omega) kk) ?_
      have hq1 : ∀ q ∈ qs ++ [D.tup [.str (S0 l), .int a, .int k, .str (S0 p)]], okQ q := fun q hm => by
        rcases List.mem_append.mp hm with hm | hm
        · exact hq q hm
        · rw [List.mem_singleton.mp hm]; exact okq
      have hl1 : (qs ++ [D.tup [.str (S0 l), .int a, .int k, .str (S0 p)]]).length = qs.length + 1 := by rw [List.length_append]; rfl
      generalize qs ++ [D.tup [.str (S0 l), .int a, .int k, .str (S0 p)]] = qs1 at hq1 hl1
      walk_at "y"
      split
      · refine ⟨l, p, a, k, rfl, hc, cp, hl, hp, k0, by omega, fun d0 d1 d2 d3 ok => ?_⟩
        refine gd_of (show qs1.length < 16777216 by omega) ?_
        refine ⟨_, _, _, _, _, _, _, fun q hm => ?_, ?_, rfl⟩
        · rcases List.mem_append.mp hm with hm | hm
          · exact hq1 q hm
          · rw [List.mem_singleton.mp hm]; exact ⟨_, _, _, _, rfl, ok⟩
        · rw [List.length_append, hl1]
          show qs.length + 1 + 1 ≤ 2 * (i + 1)
          omega
      · exact ⟨qs1, _, _, _, _, _, _, hq1, by rw [hl1]; omega, rfl⟩
    rintro _ ⟨qs, tu, te, at_, ta, sp, pu, hq, hql, rfl⟩
    refine seq_post (fun ε => True) (fun K kk => ?_) fun ε _ => h
    refine gd_of (show qs.length + qs.reverse.length ≤ 16777216 by rw [List.length_reverse]; omega) ?_
    refine ⟨fun i ε => ∃ tu te at_ ta sp pu, ∃ s : S, ε = [some (.v (.frl (xs.map D.int))), some (.v .pool), some (.v (.bl g)), some s, tu, te, at_, ta, sp, pu], ⟨_, _, _, _, _, _, _, rfl⟩, fun i d ε hi hd w => ?_, fun ε w => kk ε trivial⟩
    have hm := List.mem_of_getElem? hd
    have okd : okQ d := by
      rcases List.mem_append.mp hm with hm | hm
      · exact hq d hm
      · exact hq d (List.mem_reverse.mp hm)
    obtain ⟨t, a, k, p, rfl, ok⟩ := okd
    obtain ⟨tu, te, at_, ta, sp, pu, s, rfl⟩ := w
    refine gtup4 ?_
    refine ⟨ok, ok, dueD t a k p, rfl, plain_due t a k p, ?_⟩
    exact ⟨_, _, _, _, _, _, _, rfl⟩
  · exact h.elim
theorem len_cut_alike (ds : List D) (Q : D → Prop) (E : Nat → Prop) (h : φ_cut_alike ds Q E) : ds.length = 4 := by
  obtain ⟨l, m, A, K, ⟨rfl, _⟩, _⟩ := h
  rfl
theorem len_law_trimmed (ds : List D) (Q : D → Prop) (E : Nat → Prop) (h : φ_law_trimmed ds Q E) : ds.length = 4 := by
  obtain ⟨l, m, A, K, ⟨rfl, _⟩, _⟩ := h
  rfl
theorem len_law_word (ds : List D) (Q : D → Prop) (E : Nat → Prop) (h : φ_law_word ds Q E) : ds.length = 3 := by
  obtain ⟨g, n, rfl, _⟩ := h
  rfl
theorem len_law_new (ds : List D) (Q : D → Prop) (E : Nat → Prop) (h : φ_law_new ds Q E) : ds.length = 3 := by
  obtain ⟨t, o, rfl, _⟩ := h
  rfl
theorem len_law_spoilt (ds : List D) (Q : D → Prop) (E : Nat → Prop) (h : φ_law_spoilt ds Q E) : ds.length = 2 := by
  obtain ⟨t, p, a, k, rfl, _⟩ := h
  rfl
theorem len_same (n : Nat) (ds : List D) (Q : D → Prop) (E : Nat → Prop) (h : sameN n ds Q E) : ds.length = 2 := by
  obtain ⟨d, rfl, _⟩ := h
  rfl
theorem zero_law_same (ds : List D) (Q : D → Prop) (E : Nat → Prop) (h : sameN 0 ds Q E) : False := by
  obtain ⟨d, rfl, hp, _⟩ := h
  unfold plainD at hp
  cases hp

end PL.K16

set_option Elab.async false
set_option linter.all false
set_option autoImplicit false
set_option maxRecDepth 100000
set_option maxHeartbeats 2000000
namespace PL.K16
open PySem PySem.Spec PyProof.Rows L2
def topS (i : Nat) : Stmt := PySem.Challenge.pw_pageseen_k16_trimmed_splices.main.body.getD i (.Pass ⟨0, 0, 0, 0⟩)
abbrev s_is_told : Stmt := topS 8
abbrev s_are_told : Stmt := topS 9
abbrev s_is_text : Stmt := topS 10
abbrev s_is_number : Stmt := topS 12
abbrev s_check_splice : Stmt := topS 15
abbrev s_check_numbers : Stmt := topS 16
abbrev s_cut_alike : Stmt := topS 17
abbrev s_trimmed : Stmt := topS 18
abbrev s_law_stream : Stmt := topS 20
abbrev s_law_pick : Stmt := topS 21
abbrev s_law_index : Stmt := topS 22
abbrev s_law_word : Stmt := topS 23
abbrev s_law_same : Stmt := topS 24
abbrev s_law_is_text : Stmt := topS 25
abbrev s_law_trimmed : Stmt := topS 26
abbrev s_law_text : Stmt := topS 27
abbrev s_law_is_number : Stmt := topS 28
abbrev s_law_due : Stmt := topS 29
abbrev s_law_told : Stmt := topS 30
abbrev s_law_new : Stmt := topS 31
abbrev s_law_spoilt : Stmt := topS 32
abbrev s_law : Stmt := topS 33
/-- what the head tells -/
structure Txt (K : PySem.W.Frag) (mg : Str → Option Value) : Prop where
  g_is_told : mg "is_told" = some (.ref (He.ga K "is_told"))
  d_is_told : ∃ fd, FunD K "is_told" "is_told" (defArgs s_is_told) (defBody s_is_told) (defScope s_is_told) [] [] (He.ga K "is_told") fd
  g_are_told : mg "are_told" = some (.ref (He.ga K "are_told"))
  d_are_told : ∃ fd, FunD K "are_told" "are_told" (defArgs s_are_told) (defBody s_are_told) (defScope s_are_told) [] [] (He.ga K "are_told") fd
  g_is_text : mg "is_text" = some (.ref (He.ga K "is_text"))
  d_is_text : ∃ fd, FunD K "is_text" "is_text" (defArgs s_is_text) (defBody s_is_text) (defScope s_is_text) [] [] (He.ga K "is_text") fd
  g_is_number : mg "is_number" = some (.ref (He.ga K "is_number"))
  d_is_number : ∃ fd, FunD K "is_number" "is_number" (defArgs s_is_number) (defBody s_is_number) (defScope s_is_number) [] [] (He.ga K "is_number") fd
  g_check_splice : mg "check_splice" = some (.ref (He.ga K "check_splice"))
  d_check_splice : ∃ fd, FunD K "check_splice" "check_splice" (defArgs s_check_splice) (defBody s_check_splice) (defScope s_check_splice) [] [] (He.ga K "check_splice") fd
  g_check_numbers : mg "check_numbers" = some (.ref (He.ga K "check_numbers"))
  d_check_numbers : ∃ fd, FunD K "check_numbers" "check_numbers" (defArgs s_check_numbers) (defBody s_check_numbers) (defScope s_check_numbers) [] [] (He.ga K "check_numbers") fd
  g_cut_alike : mg "cut_alike" = some (.ref (He.ga K "cut_alike"))
  d_cut_alike : ∃ fd, FunD K "cut_alike" "cut_alike" (defArgs s_cut_alike) (defBody s_cut_alike) (defScope s_cut_alike) [] [] (He.ga K "cut_alike") fd
  g_trimmed : mg "trimmed" = some (.ref (He.ga K "trimmed"))
  d_trimmed : ∃ fd, FunD K "trimmed" "trimmed" (defArgs s_trimmed) (defBody s_trimmed) (defScope s_trimmed) [] [] (He.ga K "trimmed") fd
  g_law_stream : mg "_law_stream" = some (.ref (He.ga K "_law_stream"))
  d_law_stream : ∃ fd, FunD K "_law_stream" "_law_stream" (defArgs s_law_stream) (defBody s_law_stream) (defScope s_law_stream) [] [] (He.ga K "_law_stream") fd
  g_law_pick : mg "_law_pick" = some (.ref (He.ga K "_law_pick"))
  d_law_pick : ∃ fd, FunD K "_law_pick" "_law_pick" (defArgs s_law_pick) (defBody s_law_pick) (defScope s_law_pick) [] [] (He.ga K "_law_pick") fd
  g_law_index : mg "_law_index" = some (.ref (He.ga K "_law_index"))
  d_law_index : ∃ fd, FunD K "_law_index" "_law_index" (defArgs s_law_index) (defBody s_law_index) (defScope s_law_index) [] [] (He.ga K "_law_index") fd
  g_law_word : mg "_law_word" = some (.ref (He.ga K "_law_word"))
  d_law_word : ∃ fd, FunD K "_law_word" "_law_word" (defArgs s_law_word) (defBody s_law_word) (defScope s_law_word) [] [] (He.ga K "_law_word") fd
  g_law_same : mg "_law_same" = some (.ref (He.ga K "_law_same"))
  d_law_same : ∃ fd, FunD K "_law_same" "_law_same" (defArgs s_law_same) (defBody s_law_same) (defScope s_law_same) [] [] (He.ga K "_law_same") fd
  g_law_is_text : mg "_law_is_text" = some (.ref (He.ga K "_law_is_text"))
  d_law_is_text : ∃ fd, FunD K "_law_is_text" "_law_is_text" (defArgs s_law_is_text) (defBody s_law_is_text) (defScope s_law_is_text) [] [] (He.ga K "_law_is_text") fd
  g_law_trimmed : mg "_law_trimmed" = some (.ref (He.ga K "_law_trimmed"))
  d_law_trimmed : ∃ fd, FunD K "_law_trimmed" "_law_trimmed" (defArgs s_law_trimmed) (defBody s_law_trimmed) (defScope s_law_trimmed) [] [] (He.ga K "_law_trimmed") fd
  g_law_text : mg "_law_text" = some (.ref (He.ga K "_law_text"))
  d_law_text : ∃ fd, FunD K "_law_text" "_law_text" (defArgs s_law_text) (defBody s_law_text) (defScope s_law_text) [] [] (He.ga K "_law_text") fd
  g_law_is_number : mg "_law_is_number" = some (.ref (He.ga K "_law_is_number"))
  d_law_is_number : ∃ fd, FunD K "_law_is_number" "_law_is_number" (defArgs s_law_is_number) (defBody s_law_is_number) (defScope s_law_is_number) [] [] (He.ga K "_law_is_number") fd
  g_law_due : mg "_law_due" = some (.ref (He.ga K "_law_due"))
  d_law_due : ∃ fd, FunD K "_law_due" "_law_due" (defArgs s_law_due) (defBody s_law_due) (defScope s_law_due) [] [] (He.ga K "_law_due") fd
  g_law_told : mg "_law_told" = some (.ref (He.ga K "_law_told"))
  d_law_told : ∃ fd, FunD K "_law_told" "_law_told" (defArgs s_law_told) (defBody s_law_told) (defScope s_law_told) [] [] (He.ga K "_law_told") fd
  g_law_new : mg "_law_new" = some (.ref (He.ga K "_law_new"))
  d_law_new : ∃ fd, FunD K "_law_new" "_law_new" (defArgs s_law_new) (defBody s_law_new) (defScope s_law_new) [] [] (He.ga K "_law_new") fd
  g_law_spoilt : mg "_law_spoilt" = some (.ref (He.ga K "_law_spoilt"))
  d_law_spoilt : ∃ fd, FunD K "_law_spoilt" "_law_spoilt" (defArgs s_law_spoilt) (defBody s_law_spoilt) (defScope s_law_spoilt) [] [] (He.ga K "_law_spoilt") fd
  g_law : mg "law" = some (.ref (He.ga K "law"))
  d_law : ∃ fd, FunD K "law" "law" (defArgs s_law) (defBody s_law) (defScope s_law) [] [] (He.ga K "law") fd
  n_all : mg "all" = none
  n_bool : mg "bool" = none
  n_dict : mg "dict" = none
  n_int : mg "int" = none
  n_isinstance : mg "isinstance" = none
  n_len : mg "len" = none
  n_list : mg "list" = none
  n_min : mg "min" = none
  n_ord : mg "ord" = none
  n_range : mg "range" = none
  n_str : mg "str" = none
  n_tuple : mg "tuple" = none
  c_MOST_SIGNS_marks : GlI mg "MOST_SIGNS_marks" 3000
  c_MOST_SIGNS_splices : GlI mg "MOST_SIGNS_splices" 3000
  c_PERCENT : GlI mg "PERCENT" 37
  g_PageError : mg "PageError" = some (.ref (He.ga K "PageError"))
  g_BadText : mg "BadText" = some (.ref (He.ga K "BadText"))
  g_BadSplice : mg "BadSplice" = some (.ref (He.ga K "BadSplice"))
  g_TooLong : mg "TooLong" = some (.ref (He.ga K "TooLong"))
  x_PageError : PySem.W.excIn K (He.ga K "PageError") exBase "Exception.__new__" = true
  k_PageError : PySem.W.keepIn K (.ref (He.ga K "PageError")) = true
  s_PageError : PySem.W.subIn K (.ref (He.ga K "PageError")) (.type "BaseException") = some true
  t_PageError : PySem.W.typeIn K (.ref (He.ga K "PageError")) = some (.type "type")
  x_BadText : PySem.W.excIn K (He.ga K "BadText") exBase "Exception.__new__" = true
  k_BadText : PySem.W.keepIn K (.ref (He.ga K "BadText")) = true
  s_BadText : PySem.W.subIn K (.ref (He.ga K "BadText")) (.type "BaseException") = some true
  t_BadText : PySem.W.typeIn K (.ref (He.ga K "BadText")) = some (.type "type")
  x_BadSplice : PySem.W.excIn K (He.ga K "BadSplice") exBase "Exception.__new__" = true
  k_BadSplice : PySem.W.keepIn K (.ref (He.ga K "BadSplice")) = true
  s_BadSplice : PySem.W.subIn K (.ref (He.ga K "BadSplice")) (.type "BaseException") = some true
  t_BadSplice : PySem.W.typeIn K (.ref (He.ga K "BadSplice")) = some (.type "type")
  x_TooLong : PySem.W.excIn K (He.ga K "TooLong") exBase "Exception.__new__" = true
  k_TooLong : PySem.W.keepIn K (.ref (He.ga K "TooLong")) = true
  s_TooLong : PySem.W.subIn K (.ref (He.ga K "TooLong")) (.type "BaseException") = some true
  t_TooLong : PySem.W.typeIn K (.ref (He.ga K "TooLong")) = some (.type "type")
  xk : ExK K exCs

section
variable {P : Program} {w : World} {K : PySem.W.Frag} {mg : Str → Option Value} {base : Heap}
abbrev N_law_pick : List Str := ["pool", "many", "place"]
abbrev P_law_pick : List Str := ["pool", "many"]
theorem sc_law_pick : FnScope N_law_pick P_law_pick (defScope s_law_pick) := ⟨rfl, rfl, rfl, by decide +kernel, rfl, by decide +kernel, by decide +kernel⟩
theorem ok_law_pick (T : Txt K mg) : CallOk P w K mg base 1 "_law_pick" P_law_pick φ_law_pick := by
  obtain ⟨fd, F⟩ := T.d_law_pick
  refine ⟨⟨fd, pick_close (F.ok sc_law_pick (fun vs H Q E h => ?_) (fun cdv A outer s H vs Q E hr h => ?_)), funLook F, F.bindsA fun _ _ _ _ _ _ us hl => match us, hl with | [_, _], _ => rfl⟩, F.kp, T.g_law_pick⟩
  · obtain ⟨p, n, ns, rfl, _⟩ := h
    rfl
  · refine ⟨_, PSs.nox (pss_cons (ps_set (i := 2) sc_law_pick.nd rfl (Or.inl rfl) (pe_ix ix_list (pv 0) pe_int (fun _ _ => rfl)))
      (pss_cons (ps_asg (pe_op op_add (pv 2) pe_int) (pg_sub (pv 0) pe_int set_list))
      (pss_cons (ps_if (pt_cmpR op_eq (pe_ix ix_list (pv 0) pe_int (fun _ _ => rfl)) (pe_callB call_len rfl T.n_len PySem.boot_len (pa_cons (pv 0) pa_nil)) (nomark _))
        (pss_one (ps_asg pe_int (pg_sub (pv 0) pe_int set_list))) pss_nil)
      (pss_one (ps_ret (pe_op op_mod (pe_callTy call_int1 rfl T.n_int boot_int (pa_cons (pe_ix ix_list (pv 0) (pv 2) (fun _ _ => rfl)) pa_nil)) (pv 1))))))), ?_⟩
    exact pick_pure h

abbrev P_is_told : List Str := ["sign"]
theorem sc_is_told : FnScope N_is_told P_is_told (defScope s_is_told) := ⟨rfl, rfl, rfl, by decide +kernel, rfl, by decide +kernel, by decide +kernel⟩
theorem ok_is_told (T : Txt K mg) (vc : ∀ (ds : List D) (Q' : D → Prop) (E' : Nat → Prop), φ_is_told ds Q' E' → r_is_told (fun c _ => E' c) { nx := fun _ => Q' .non, rt := fun d _ => Q' d } (startE N_is_told ds)) (len : ∀ ds Q E, φ_is_told ds Q E → ds.length = 1) :
    CallOk P w K mg base 1 "is_told" P_is_told φ_is_told := by
  obtain ⟨fd, F⟩ := T.d_is_told
  refine ⟨⟨fd, fun_ok F sc_is_told len r_is_told (fun cdv A outer s H E Ξ hr => ?_) vc, funLook F, F.bindsA fun _ _ _ _ _ _ us hl => match us, hl with | [_], _ => rfl⟩, F.kp, T.g_is_told⟩
  exact (yss_one (ys_ret (ye_or (ye_cmp (oy_eq hr.units) (ye_var 0) ye_str) (ye_one (ye_and (ye_chain oy_leA oy_leA ye_str (ye_var 0) ye_str) (ye_one (ye_cmp (oy_ne hr.units) (ye_callB cy_ord (by rfl) T.n_ord boot_ord (yl_cons (ye_var 0) yl_nil)) (yeGlI T.c_PERCENT))))))))
abbrev P_are_told : List Str := ["value"]
theorem sc_are_told : FnScope N_are_told P_are_told (defScope s_are_told) := ⟨rfl, rfl, rfl, by decide +kernel, rfl, by decide +kernel, by decide +kernel⟩
theorem ok_are_told (T : Txt K mg) (C_is_told : CallOk P w K mg base 1 "is_told" P_is_told φ_is_told) (vc : ∀ (ds : List D) (Q' : D → Prop) (E' : Nat → Prop), φ_are_told ds Q' E' → r_are_told (fun c _ => E' c) { nx := fun _ => Q' .non, rt := fun d _ => Q' d } (startE N_are_told ds)) (len : ∀ ds Q E, φ_are_told ds Q E → ds.length = 1) :
    CallOk P w K mg base 2 "are_told" P_are_told φ_are_told := by
  obtain ⟨fd, F⟩ := T.d_are_told
  refine ⟨⟨fd, fun_ok F sc_are_told len r_are_told (fun cdv A outer s H E Ξ hr => ?_) vc, funLook F, F.bindsA fun _ _ _ _ _ _ us hl => match us, hl with | [_], _ => rfl⟩, F.kp, T.g_are_told⟩
  exact (yss_one (ys_ret (ye_and (ye_isA .str (ye_var 0) (peTy T.n_str boot_str) (by rfl) T.n_isinstance) (ye_one (ye_callB (cy_all rfl) (by rfl) T.n_all boot_all (yl_cons (yn_lc (own := [(("sign" : Str), 1)]) rfl sc_are_told.nd (yi_str (ye_var 0)) (blkOk_by (by rfl)) (fun _ _ _ _ _ => (ygN 1 sc_are_told.nd)) (fun _ _ _ _ _ => yts_nil) (fun _ _ _ _ _ => (yeCall C_is_told takes0 (hr.mono (by decide)) (yl_cons (ye_var 1) yl_nil)))).ye yl_nil))))))
abbrev P_is_text : List Str := ["value"]
theorem sc_is_text : FnScope N_is_text P_is_text (defScope s_is_text) := ⟨rfl, rfl, rfl, by decide +kernel, rfl, by decide +kernel, by decide +kernel⟩
theorem ok_is_text (T : Txt K mg) (C_are_told : CallOk P w K mg base 2 "are_told" P_are_told φ_are_told) (vc : ∀ (ds : List D) (Q' : D → Prop) (E' : Nat → Prop), φ_is_text ds Q' E' → r_is_text (fun c _ => E' c) { nx := fun _ => Q' .non, rt := fun d _ => Q' d } (startE N_is_text ds)) (len : ∀ ds Q E, φ_is_text ds Q E → ds.length = 1) :
    CallOk P w K mg base 3 "is_text" P_is_text φ_is_text := by
  obtain ⟨fd, F⟩ := T.d_is_text
  refine ⟨⟨fd, fun_ok F sc_is_text len r_is_text (fun cdv A outer s H E Ξ hr => ?_) vc, funLook F, F.bindsA fun _ _ _ _ _ _ us hl => match us, hl with | [_], _ => rfl⟩, F.kp, T.g_is_text⟩
  exact (yss_one (ys_ret (ye_and (ye_isA .str (ye_var 0) (peTy T.n_str boot_str) (by rfl) T.n_isinstance) (ye_and (ye_cmp oy_leA (ye_callB cy_len (by rfl) T.n_len PySem.boot_len (yl_cons (ye_var 0) yl_nil)) (yeGlI T.c_MOST_SIGNS_marks)) (ye_one (yeCall C_are_told (takes_of rfl rfl rfl rfl) (hr.mono (by decide)) (yl_cons (ye_var 0) yl_nil)))))))
abbrev P_is_number : List Str := ["value", "low", "high"]
theorem sc_is_number : FnScope N_is_number P_is_number (defScope s_is_number) := ⟨rfl, rfl, rfl, by decide +kernel, rfl, by decide +kernel, by decide +kernel⟩
theorem ok_is_number (T : Txt K mg) (vc : ∀ (ds : List D) (Q' : D → Prop) (E' : Nat → Prop), φ_is_number ds Q' E' → r_is_number (fun c _ => E' c) { nx := fun _ => Q' .non, rt := fun d _ => Q' d } (startE N_is_number ds)) (len : ∀ ds Q E, φ_is_number ds Q E → ds.length = 3) :
    CallOk P w K mg base 1 "is_number" P_is_number φ_is_number := by
  obtain ⟨fd, F⟩ := T.d_is_number
  refine ⟨⟨fd, fun_ok F sc_is_number len r_is_number (fun cdv A outer s H E Ξ hr => ?_) vc, funLook F, F.bindsA fun _ _ _ _ _ _ us hl => match us, hl with | [_, _, _], _ => rfl⟩, F.kp, T.g_is_number⟩
  exact (yss_cons (ys_if (YW.yt (yw_or (yt_tru (ye_isA .bool (ye_var 0) (peTy T.n_bool boot_bool) (by rfl) T.n_isinstance)) (yw_or1 (yt_not (yt_tru (ye_isA .int (ye_var 0) (peTy T.n_int boot_int) (by rfl) T.n_isinstance))))))
  (yss_one (ys_ret ye_bl))
  yss_nil)
  (yss_one (ys_ret (ye_and (ye_cmp oy_leA (ye_var 1) (ye_var 0)) (ye_one (ye_or (ye_cmp oy_isN (ye_var 2) ye_non) (ye_one (ye_cmp oy_leA (ye_var 0) (ye_var 2)))))))))
abbrev P_check_numbers : List Str := ["text", "at", "taken", "put"]
theorem sc_check_numbers : FnScope N_check_numbers P_check_numbers (defScope s_check_numbers) := ⟨rfl, rfl, rfl, by decide +kernel, rfl, by decide +kernel, by decide +kernel⟩
theorem ok_check_numbers (T : Txt K mg) (C_is_number : CallOk P w K mg base 1 "is_number" P_is_number φ_is_number) (C_is_text : CallOk P w K mg base 3 "is_text" P_is_text φ_is_text) (vc : ∀ (ds : List D) (Q' : D → Prop) (E' : Nat → Prop), φ_check_numbers ds Q' E' → r_check_numbers (fun c _ => E' c) { nx := fun _ => Q' .non, rt := fun d _ => Q' d } (startE N_check_numbers ds)) (len : ∀ ds Q E, φ_check_numbers ds Q E → ds.length = 4) :
    CallOk P w K mg base 4 "check_numbers" P_check_numbers φ_check_numbers := by
  obtain ⟨fd, F⟩ := T.d_check_numbers
  refine ⟨⟨fd, fun_ok F sc_check_numbers len r_check_numbers (fun cdv A outer s H E Ξ hr => ?_) vc, funLook F, F.bindsA fun _ _ _ _ _ _ us hl => match us, hl with | [_, _, _, _], _ => rfl⟩, F.kp, T.g_check_numbers⟩
  exact (yss_cons (ys_if (YW.yt (yw_or (yt_not (yt_tru (yeCall C_is_number (takes_of rfl rfl rfl rfl) (hr.mono (by decide)) (yl_cons (ye_var 1) (yl_cons ye_int (yl_cons ye_non yl_nil)))))) (yw_or (yt_not (yt_tru (yeCall C_is_number (takes_of rfl rfl rfl rfl) (hr.mono (by decide)) (yl_cons (ye_var 2) (yl_cons ye_int (yl_cons ye_non yl_nil)))))) (yw_or (yt_cmp oy_gt (ye_bin oy_add (ye_var 1) (ye_var 2)) (ye_callB cy_len (by rfl) T.n_len PySem.boot_len (yl_cons (ye_var 0) yl_nil))) (yw_or1 (yt_not (yt_tru (yeCall C_is_text (takes_of rfl rfl rfl rfl) (hr.mono (by decide)) (yl_cons (ye_var 3) yl_nil)))))))))
  (yss_one (ys_raise 3 rfl (takes_of rfl rfl rfl rfl) PySem.F.excBase_Exception T.x_BadSplice T.g_BadSplice T.k_BadSplice (raises_own T.s_BadSplice T.t_BadSplice) rfl (by rfl)))
  yss_nil)
  (yss_one (ys_if (yt_cmp oy_gt (ye_bin oy_add (ye_bin oy_sub (ye_callB cy_len (by rfl) T.n_len PySem.boot_len (yl_cons (ye_var 0) yl_nil)) (ye_var 2)) (ye_callB cy_len (by rfl) T.n_len PySem.boot_len (yl_cons (ye_var 3) yl_nil))) (yeGlI T.c_MOST_SIGNS_splices))
  (yss_one (ys_raise 19 rfl (takes_of rfl rfl rfl rfl) PySem.F.excBase_Exception T.x_TooLong T.g_TooLong T.k_TooLong (raises_own T.s_TooLong T.t_TooLong) rfl (by rfl)))
  yss_nil)))
abbrev P_check_splice : List Str := ["text", "at", "taken", "put"]
theorem sc_check_splice : FnScope N_check_splice P_check_splice (defScope s_check_splice) := ⟨rfl, rfl, rfl, by decide +kernel, rfl, by decide +kernel, by decide +kernel⟩
theorem ok_check_splice (T : Txt K mg) (C_is_text : CallOk P w K mg base 3 "is_text" P_is_text φ_is_text) (C_check_numbers : CallOk P w K mg base 4 "check_numbers" P_check_numbers φ_check_numbers) (vc : ∀ (ds : List D) (Q' : D → Prop) (E' : Nat → Prop), φ_check_splice ds Q' E' → r_check_splice (fun c _ => E' c) { nx := fun _ => Q' .non, rt := fun d _ => Q' d } (startE N_check_splice ds)) (len : ∀ ds Q E, φ_check_splice ds Q E → ds.length = 4) :
    CallOk P w K mg base 5 "check_splice" P_check_splice φ_check_splice := by
  obtain ⟨fd, F⟩ := T.d_check_splice
  refine ⟨⟨fd, fun_ok F sc_check_splice len r_check_splice (fun cdv A outer s H E Ξ hr => ?_) vc, funLook F, F.bindsA fun _ _ _ _ _ _ us hl => match us, hl with | [_, _, _, _], _ => rfl⟩, F.kp, T.g_check_splice⟩
  exact (yss_cons (ys_if (yt_not (yt_tru (yeCall C_is_text (takes_of rfl rfl rfl rfl) (hr.mono (by decide)) (yl_cons (ye_var 0) yl_nil))))
  (yss_one (ys_raise 1 rfl (takes_of rfl rfl rfl rfl) PySem.F.excBase_Exception T.x_BadText T.g_BadText T.k_BadText (raises_own T.s_BadText T.t_BadText) rfl (by rfl)))
  yss_nil)
  (yss_one (ys_expr (yeCall C_check_numbers (takes_of rfl rfl rfl rfl) (hr.mono (by decide)) (yl_cons (ye_var 0) (yl_cons (ye_var 1) (yl_cons (ye_var 2) (yl_cons (ye_var 3) yl_nil))))))))
abbrev P_cut_alike : List Str := ["text", "at", "taken", "put"]
theorem sc_cut_alike : FnScope N_cut_alike P_cut_alike (defScope s_cut_alike) := ⟨rfl, rfl, rfl, by decide +kernel, rfl, by decide +kernel, by decide +kernel⟩
theorem ok_cut_alike (T : Txt K mg) (vc : ∀ (ds : List D) (Q' : D → Prop) (E' : Nat → Prop), φ_cut_alike ds Q' E' → r_cut_alike (fun c _ => E' c) { nx := fun _ => Q' .non, rt := fun d _ => Q' d } (startE N_cut_alike ds)) (len : ∀ ds Q E, φ_cut_alike ds Q E → ds.length = 4) :
    CallOk P w K mg base 1 "cut_alike" P_cut_alike φ_cut_alike := by
  obtain ⟨fd, F⟩ := T.d_cut_alike
  refine ⟨⟨fd, fun_ok F sc_cut_alike len r_cut_alike (fun cdv A outer s H E Ξ hr => ?_) vc, funLook F, F.bindsA fun _ _ _ _ _ _ us hl => match us, hl with | [_, _, _, _], _ => rfl⟩, F.kp, T.g_cut_alike⟩
  exact (yss_cons (ysSet 4 sc_cut_alike.nd ye_int)
  (yss_cons (ys_while (passes_of rfl) (YW.yt (yw_and (yt_cmp oy_lt (ye_var 4) (ye_var 2)) (yw_and (yt_cmp oy_lt (ye_var 4) (ye_callB cy_len (by rfl) T.n_len PySem.boot_len (yl_cons (ye_var 3) yl_nil))) (yw_and1 (yt_cmp (oy_eq hr.units) (ye_ix (ye_var 0) (ye_bin oy_add (ye_var 1) (ye_var 4))) (ye_ix (ye_var 3) (ye_var 4)))))))
  (yss_one (ys_augAdd 4 sc_cut_alike.nd (by rfl) (by first | exact Or.inl rfl | exact Or.inr rfl) ye_int)))
  (yss_cons (ys_par3 1 2 3 rfl sc_cut_alike.nd (by rfl) (by rfl) (by rfl) (by decide) (by decide) (by decide) rfl rfl rfl (yl_cons (ye_bin oy_add (ye_var 1) (ye_var 4)) (yl_cons (ye_bin oy_sub (ye_var 2) (ye_var 4)) (yl_cons (ye_slS (ye_var 3) (yo_some (ye_var 4)) yo_none) yl_nil))))
  (yss_cons (ysSet 5 sc_cut_alike.nd ye_int)
  (yss_cons (ys_while (passes_of rfl) (YW.yt (yw_and (yt_cmp oy_lt (ye_var 5) (ye_var 2)) (yw_and (yt_cmp oy_lt (ye_var 5) (ye_callB cy_len (by rfl) T.n_len PySem.boot_len (yl_cons (ye_var 3) yl_nil))) (yw_and1 (yt_cmp (oy_eq hr.units) (ye_ix (ye_var 0) (ye_bin oy_sub (ye_bin oy_sub (ye_bin oy_add (ye_var 1) (ye_var 2)) ye_int) (ye_var 5))) (ye_ix (ye_var 3) (ye_bin oy_sub (ye_bin oy_sub (ye_callB cy_len (by rfl) T.n_len PySem.boot_len (yl_cons (ye_var 3) yl_nil)) ye_int) (ye_var 5))))))))
  (yss_one (ys_augAdd 5 sc_cut_alike.nd (by rfl) (by first | exact Or.inl rfl | exact Or.inr rfl) ye_int)))
  (yss_one (ys_ret (ye_tup (yl_cons (ye_var 1) (yl_cons (ye_bin oy_sub (ye_var 2) (ye_var 5)) (yl_cons (ye_slS (ye_var 3) yo_none (yo_some (ye_bin oy_sub (ye_callB cy_len (by rfl) T.n_len PySem.boot_len (yl_cons (ye_var 3) yl_nil)) (ye_var 5)))) yl_nil)))))))))))
abbrev P_trimmed : List Str := ["text", "at", "taken", "put"]
theorem sc_trimmed : FnScope N_trimmed P_trimmed (defScope s_trimmed) := ⟨rfl, rfl, rfl, by decide +kernel, rfl, by decide +kernel, by decide +kernel⟩
theorem ok_trimmed (T : Txt K mg) (C_check_splice : CallOk P w K mg base 5 "check_splice" P_check_splice φ_check_splice) (C_cut_alike : CallOk P w K mg base 1 "cut_alike" P_cut_alike φ_cut_alike) (vc : ∀ (ds : List D) (Q' : D → Prop) (E' : Nat → Prop), φ_trimmed ds Q' E' → r_trimmed (fun c _ => E' c) { nx := fun _ => Q' .non, rt := fun d _ => Q' d } (startE N_trimmed ds)) (len : ∀ ds Q E, φ_trimmed ds Q E → ds.length = 4) :
    CallOk P w K mg base 6 "trimmed" P_trimmed φ_trimmed := by
  obtain ⟨fd, F⟩ := T.d_trimmed
  refine ⟨⟨fd, fun_ok F sc_trimmed len r_trimmed (fun cdv A outer s H E Ξ hr => ?_) vc, funLook F, F.bindsA fun _ _ _ _ _ _ us hl => match us, hl with | [_, _, _, _], _ => rfl⟩, F.kp, T.g_trimmed⟩
  exact (yss_cons (ys_expr (yeCall C_check_splice (takes_of rfl rfl rfl rfl) (hr.mono (by decide)) (yl_cons (ye_var 0) (yl_cons (ye_var 1) (yl_cons (ye_var 2) (yl_cons (ye_var 3) yl_nil))))))
  (yss_one (ys_ret (yeCall C_cut_alike (takes_of rfl rfl rfl rfl) (hr.mono (by decide)) (yl_cons (ye_var 0) (yl_cons (ye_var 1) (yl_cons (ye_var 2) (yl_cons (ye_var 3) yl_nil))))))))
abbrev P_law_stream : List Str := ["script"]
theorem sc_law_stream : FnScope N_law_stream P_law_stream (defScope s_law_stream) := ⟨rfl, rfl, rfl, by decide +kernel, rfl, by decide +kernel, by decide +kernel⟩
theorem ok_law_stream (T : Txt K mg) (vc : ∀ (ds : List D) (Q' : D → Prop) (E' : Nat → Prop), φList ds Q' E' → r_law_stream (fun c _ => E' c) { nx := fun _ => Q' .non, rt := fun d _ => Q' d } (startE N_law_stream ds)) (len : ∀ ds Q E, φList ds Q E → ds.length = 1) :
    CallOk P w K mg base 1 "_law_stream" P_law_stream φList := by
  obtain ⟨fd, F⟩ := T.d_law_stream
  refine ⟨⟨fd, fun_ok F sc_law_stream len r_law_stream (fun cdv A outer s H E Ξ hr => ?_) vc, funLook F, F.bindsA fun _ _ _ _ _ _ us hl => match us, hl with | [_], _ => rfl⟩, F.kp, T.g_law_stream⟩
  exact (yss_cons (ys_par 1 2 rfl sc_law_stream.nd (by rfl) (by rfl) (by decide) rfl rfl (yx_n (yn_lst (yl_cons ye_int yl_nil))) (yx_e ye_int))
  (yss_cons (ys_for (passes_of rfl) rfl (yi_frl (ye_var 0)) (ygN 3 sc_law_stream.nd)
  (yss_cons (ysSet 4 sc_law_stream.nd (ye_bin oy_mod (ye_callTy cy_int (by rfl) T.n_int boot_int (yl_cons (ye_var 3) yl_nil)) (ye_bin oy_pow ye_int ye_int)))
  (yss_cons (ysSet 2 sc_law_stream.nd (ye_bin oy_mod (ye_callTy cy_int (by rfl) T.n_int boot_int (yl_cons (ye_bin oy_add (ye_bin oy_mulA (ye_var 2) ye_int) (ye_callTy cy_int (by rfl) T.n_int boot_int (yl_cons (ye_var 4) yl_nil))) yl_nil)) ye_int))
  (yss_one (ys_for (passes_of rfl) rfl (yi_range1 (by rfl) T.n_range (yl_cons (ye_ix (yn_lst (yl_cons ye_int (yl_cons ye_int yl_nil))).ye (ye_callTy cy_int (by rfl) T.n_int boot_int (yl_cons (ye_cmp oy_ge (ye_callTy cy_int (by rfl) T.n_int boot_int (yl_cons (ye_var 3) yl_nil)) (ye_bin oy_pow ye_int ye_int)) yl_nil))) yl_nil)) (ygN 5 sc_law_stream.nd)
  (yss_cons (ysApp' 1 (ye_bin oy_mod (ye_callTy cy_int (by rfl) T.n_int boot_int (yl_cons (ye_var 4) yl_nil)) ye_int))
  (yss_cons (ysSet 4 sc_law_stream.nd (ye_callTy cy_int (by rfl) T.n_int boot_int (yl_cons (ye_bin oy_fdiv (ye_var 4) ye_int) yl_nil)))
  (yss_one (ys_if (yt_cmp (oy_eq hr.units) (ye_var 4) ye_int)
  (yss_one ys_break)
  yss_nil)))))))))
  (yss_cons (ys_for (passes_of rfl) rfl (yi_range1 (by rfl) T.n_range (yl_cons ye_int yl_nil)) (ygN 5 sc_law_stream.nd)
  (yss_cons (ysSet 2 sc_law_stream.nd (ye_bin oy_mod (ye_callTy cy_int (by rfl) T.n_int boot_int (yl_cons (ye_bin oy_add (ye_bin oy_mulA (ye_var 2) ye_int) ye_int) yl_nil)) ye_int))
  (yss_one (ysApp' 1 (ye_bin oy_mod (ye_callTy cy_int (by rfl) T.n_int boot_int (yl_cons (ye_bin oy_fdiv (ye_var 2) ye_int) yl_nil)) ye_int)))))
  (yss_one (ys_ret (ye_var 1))))))
abbrev P_law_index : List Str := ["pool", "many"]
theorem sc_law_index : FnScope N_law_index P_law_index (defScope s_law_index) := ⟨rfl, rfl, rfl, by decide +kernel, rfl, by decide +kernel, by decide +kernel⟩
theorem ok_law_index (T : Txt K mg) (C_law_pick : CallOk P w K mg base 1 "_law_pick" P_law_pick φ_law_pick) (vc : ∀ (ds : List D) (Q' : D → Prop) (E' : Nat → Prop), φ_law_index ds Q' E' → r_law_index (fun c _ => E' c) { nx := fun _ => Q' .non, rt := fun d _ => Q' d } (startE N_law_index ds)) (len : ∀ ds Q E, φ_law_index ds Q E → ds.length = 2) :
    CallOk P w K mg base 2 "_law_index" P_law_index φ_law_index := by
  obtain ⟨fd, F⟩ := T.d_law_index
  refine ⟨⟨fd, fun_ok F sc_law_index len r_law_index (fun cdv A outer s H E Ξ hr => ?_) vc, funLook F, F.bindsA fun _ _ _ _ _ _ us hl => match us, hl with | [_, _], _ => rfl⟩, F.kp, T.g_law_index⟩
  exact (yss_cons (ysSet 2 sc_law_index.nd (yeCall C_law_pick (takes_of rfl rfl rfl rfl) (hr.mono (by decide)) (yl_cons (ye_var 0) (yl_cons ye_int yl_nil))))
  (yss_one (ys_ret (ye_bin oy_mod (ye_callTy cy_int (by rfl) T.n_int boot_int (yl_cons (ye_bin oy_add (ye_bin oy_mulA (ye_var 2) ye_int) (yeCall C_law_pick (takes_of rfl rfl rfl rfl) (hr.mono (by decide)) (yl_cons (ye_var 0) (yl_cons ye_int yl_nil)))) yl_nil)) (ye_var 1)))))
abbrev P_law_word : List Str := ["pool", "signs", "most"]
theorem sc_law_word : FnScope N_law_word P_law_word (defScope s_law_word) := ⟨rfl, rfl, rfl, by decide +kernel, rfl, by decide +kernel, by decide +kernel⟩
theorem ok_law_word (T : Txt K mg) (C_law_pick : CallOk P w K mg base 1 "_law_pick" P_law_pick φ_law_pick) (vc : ∀ (ds : List D) (Q' : D → Prop) (E' : Nat → Prop), φ_law_word ds Q' E' → r_law_word (fun c _ => E' c) { nx := fun _ => Q' .non, rt := fun d _ => Q' d } (startE N_law_word ds)) (len : ∀ ds Q E, φ_law_word ds Q E → ds.length = 3) :
    CallOk P w K mg base 2 "_law_word" P_law_word φ_law_word := by
  obtain ⟨fd, F⟩ := T.d_law_word
  refine ⟨⟨fd, fun_ok F sc_law_word len r_law_word (fun cdv A outer s H E Ξ hr => ?_) vc, funLook F, F.bindsA fun _ _ _ _ _ _ us hl => match us, hl with | [_, _, _], _ => rfl⟩, F.kp, T.g_law_word⟩
  exact (yss_cons (ysSet 3 sc_law_word.nd ye_str)
  (yss_cons (ys_for (passes_of rfl) rfl (yi_range1 (by rfl) T.n_range (yl_cons (yeCall C_law_pick (takes_of rfl rfl rfl rfl) (hr.mono (by decide)) (yl_cons (ye_var 0) (yl_cons (ye_bin oy_add (ye_var 2) ye_int) yl_nil))) yl_nil)) (ygN 4 sc_law_word.nd)
  (yss_one (ysSet 3 sc_law_word.nd (ye_bin oy_add (ye_var 3) (ye_ix (ye_var 1) (yeCall C_law_pick (takes_of rfl rfl rfl rfl) (hr.mono (by decide)) (yl_cons (ye_var 0) (yl_cons (ye_callB cy_len (by rfl) T.n_len PySem.boot_len (yl_cons (ye_var 1) yl_nil)) yl_nil))))))))
  (yss_one (ys_ret (ye_var 3)))))
abbrev P_law_same : List Str := ["one", "due"]
theorem sc_law_same : FnScope N_law_same P_law_same (defScope s_law_same) := ⟨rfl, rfl, rfl, by decide +kernel, rfl, by decide +kernel, by decide +kernel⟩
theorem ok_law_same {k0 : Nat} {ψ φ : Spec} (T : Txt K mg) (C_law_same : CallOk P w K mg base k0 "_law_same" P_law_same ψ) (vc : ∀ (ds : List D) (Q' : D → Prop) (E' : Nat → Prop), φ ds Q' E' → r_law_same ψ (fun c _ => E' c) { nx := fun _ => Q' .non, rt := fun d _ => Q' d } (startE N_law_same ds)) (len : ∀ ds Q E, φ ds Q E → ds.length = 2) :
    CallOk P w K mg base (k0 + 1) "_law_same" P_law_same φ := by
  obtain ⟨fd, F⟩ := T.d_law_same
  refine ⟨⟨fd, fun_ok F sc_law_same len (r_law_same ψ) (fun cdv A outer s H E Ξ hr => ?_) vc, funLook F, F.bindsA fun _ _ _ _ _ _ us hl => match us, hl with | [_, _], _ => rfl⟩, F.kp, T.g_law_same⟩
  exact (yss_cons (ys_if (yt_cmp oy_isN (ye_var 1) ye_non)
  (yss_one (ys_ret (ye_cmp oy_isN (ye_var 0) ye_non)))
  yss_nil)
  (yss_cons (ys_if (yt_tru (ye_isA .bool (ye_var 1) (peTy T.n_bool boot_bool) (by rfl) T.n_isinstance))
  (yss_one (ys_ret (ye_and (ye_isA .bool (ye_var 0) (peTy T.n_bool boot_bool) (by rfl) T.n_isinstance) (ye_one (ye_cmp (oy_eq hr.units) (ye_var 0) (ye_var 1))))))
  yss_nil)
  (yss_cons (ys_if (yt_tru (ye_isA .int (ye_var 1) (peTy T.n_int boot_int) (by rfl) T.n_isinstance))
  (yss_one (ys_ret (ye_and (ye_isA .int (ye_var 0) (peTy T.n_int boot_int) (by rfl) T.n_isinstance) (ye_and (ye_not (ye_isA .bool (ye_var 0) (peTy T.n_bool boot_bool) (by rfl) T.n_isinstance)) (ye_one (ye_cmp (oy_eq hr.units) (ye_var 0) (ye_var 1)))))))
  yss_nil)
  (yss_cons (ys_if (yt_tru (ye_isA .str (ye_var 1) (peTy T.n_str boot_str) (by rfl) T.n_isinstance))
  (yss_one (ys_ret (ye_and (ye_isA .str (ye_var 0) (peTy T.n_str boot_str) (by rfl) T.n_isinstance) (ye_one (ye_cmp (oy_eq hr.units) (ye_var 0) (ye_var 1))))))
  yss_nil)
  (yss_cons (ys_if (yt_tru (ye_isA .dict (ye_var 1) (peTy T.n_dict boot_dict) (by rfl) T.n_isinstance))
  (yss_cons (ys_if (YW.yt (yw_or (yt_not (yt_tru (ye_isA .dict (ye_var 0) (peTy T.n_dict boot_dict) (by rfl) T.n_isinstance))) (yw_or1 (yt_cmp (oy_ne hr.units) (ye_callB cy_len (by rfl) T.n_len PySem.boot_len (yl_cons (ye_var 0) yl_nil)) (ye_callB cy_len (by rfl) T.n_len PySem.boot_len (yl_cons (ye_var 1) yl_nil))))))
  (yss_one (ys_ret ye_bl))
  yss_nil)
  (yss_one (ys_ret (ye_callB (cy_all rfl) (by rfl) T.n_all boot_all (yl_cons (yn_lc (own := [(("key" : Str), 3)]) rfl sc_law_same.nd (yi_seq (ye_var 1)) (blkOk_by (by rfl)) (fun _ _ _ _ _ => (ygN 3 sc_law_same.nd)) (fun _ _ _ _ _ => yts_nil) (fun _ _ _ _ _ => (ye_and (ye_cmp oy_in (ye_var 3) (ye_var 0)) (ye_one (yeCall C_law_same takes0 hr (yl_cons (ye_ix (ye_var 0) (ye_var 3)) (yl_cons (ye_ix (ye_var 1) (ye_var 3)) yl_nil))))))).ye yl_nil)))))
  yss_nil)
  (yss_cons (ys_if (YW.yt (yw_or (yt_cmp (oy_ne hr.units) (ye_isA .list (ye_var 0) (peTy T.n_list boot_list) (by rfl) T.n_isinstance) (ye_isA .list (ye_var 1) (peTy T.n_list boot_list) (by rfl) T.n_isinstance)) (yw_or (yt_not (yt_tru (ye_isA2 .list .tuple (ye_var 0) (peTy T.n_list boot_list) (peTy T.n_tuple boot_tuple) (by rfl) T.n_isinstance))) (yw_or1 (yt_cmp (oy_ne hr.units) (ye_callB cy_len (by rfl) T.n_len PySem.boot_len (yl_cons (ye_var 0) yl_nil)) (ye_callB cy_len (by rfl) T.n_len PySem.boot_len (yl_cons (ye_var 1) yl_nil)))))))
  (yss_one (ys_ret ye_bl))
  yss_nil)
  (yss_one (ys_ret (ye_callB (cy_all rfl) (by rfl) T.n_all boot_all (yl_cons (yn_lc (own := [(("k" : Str), 2)]) rfl sc_law_same.nd (yi_range1 (by rfl) T.n_range (yl_cons (ye_callB cy_len (by rfl) T.n_len PySem.boot_len (yl_cons (ye_var 1) yl_nil)) yl_nil)) (blkOk_by (by rfl)) (fun _ _ _ _ _ => (ygN 2 sc_law_same.nd)) (fun _ _ _ _ _ => yts_nil) (fun _ _ _ _ _ => (yeCall C_law_same takes0 hr (yl_cons (ye_ix (ye_var 0) (ye_var 2)) (yl_cons (ye_ix (ye_var 1) (ye_var 2)) yl_nil))))).ye yl_nil))))))))))
abbrev P_law_is_text : List Str := ["value"]
theorem sc_law_is_text : FnScope N_law_is_text P_law_is_text (defScope s_law_is_text) := ⟨rfl, rfl, rfl, by decide +kernel, rfl, by decide +kernel, by decide +kernel⟩
theorem ok_law_is_text (T : Txt K mg) (vc : ∀ (ds : List D) (Q' : D → Prop) (E' : Nat → Prop), φ_law_is_text ds Q' E' → r_law_is_text (fun c _ => E' c) { nx := fun _ => Q' .non, rt := fun d _ => Q' d } (startE N_law_is_text ds)) (len : ∀ ds Q E, φ_law_is_text ds Q E → ds.length = 1) :
    CallOk P w K mg base 1 "_law_is_text" P_law_is_text φ_law_is_text := by
  obtain ⟨fd, F⟩ := T.d_law_is_text
  refine ⟨⟨fd, fun_ok F sc_law_is_text len r_law_is_text (fun cdv A outer s H E Ξ hr => ?_) vc, funLook F, F.bindsA fun _ _ _ _ _ _ us hl => match us, hl with | [_], _ => rfl⟩, F.kp, T.g_law_is_text⟩
  exact (yss_cons (ys_if (YW.yt (yw_or (yt_not (yt_tru (ye_isA .str (ye_var 0) (peTy T.n_str boot_str) (by rfl) T.n_isinstance))) (yw_or1 (yt_cmp oy_gt (ye_callB cy_len (by rfl) T.n_len PySem.boot_len (yl_cons (ye_var 0) yl_nil)) ye_int))))
  (yss_one (ys_ret ye_bl))
  yss_nil)
  (yss_one (ys_ret (ye_callB (cy_all rfl) (by rfl) T.n_all boot_all (yl_cons (yn_lc (own := [(("sign" : Str), 1)]) rfl sc_law_is_text.nd (yi_str (ye_var 0)) (blkOk_by (by rfl)) (fun _ _ _ _ _ => (ygN 1 sc_law_is_text.nd)) (fun _ _ _ _ _ => yts_nil) (fun _ _ _ _ _ => (ye_or (ye_cmp (oy_eq hr.units) (ye_var 1) ye_str) (ye_one (ye_and (ye_cmp oy_leA ye_str (ye_var 1)) (ye_one (ye_cmp oy_leA (ye_var 1) ye_str))))))).ye yl_nil)))))
abbrev P_law_trimmed : List Str := ["text", "at", "taken", "put"]
theorem sc_law_trimmed : FnScope N_law_trimmed P_law_trimmed (defScope s_law_trimmed) := ⟨rfl, rfl, rfl, by decide +kernel, rfl, by decide +kernel, by decide +kernel⟩
theorem ok_law_trimmed (T : Txt K mg) (vc : ∀ (ds : List D) (Q' : D → Prop) (E' : Nat → Prop), φ_law_trimmed ds Q' E' → r_law_trimmed (fun c _ => E' c) { nx := fun _ => Q' .non, rt := fun d _ => Q' d } (startE N_law_trimmed ds)) (len : ∀ ds Q E, φ_law_trimmed ds Q E → ds.length = 4) :
    CallOk P w K mg base 1 "_law_trimmed" P_law_trimmed φ_law_trimmed := by
  obtain ⟨fd, F⟩ := T.d_law_trimmed
  refine ⟨⟨fd, fun_ok F sc_law_trimmed len r_law_trimmed (fun cdv A outer s H E Ξ hr => ?_) vc, funLook F, F.bindsA fun _ _ _ _ _ _ us hl => match us, hl with | [_, _, _, _], _ => rfl⟩, F.kp, T.g_law_trimmed⟩
  exact (yss_cons (ys_par3 4 5 6 rfl sc_law_trimmed.nd (by rfl) (by rfl) (by rfl) (by decide) (by decide) (by decide) rfl rfl rfl (yl_cons (ye_slS (ye_var 0) (yo_some (ye_var 1)) (yo_some (ye_bin oy_add (ye_var 1) (ye_var 2)))) (yl_cons ye_int (yl_cons ye_int yl_nil))))
  (yss_cons (ys_for (passes_of rfl) rfl (yi_range1 (by rfl) T.n_range (yl_cons (ye_callB (cy_min2 rfl) (by rfl) T.n_min boot_min (yl_cons (ye_callB cy_len (by rfl) T.n_len PySem.boot_len (yl_cons (ye_var 4) yl_nil)) (yl_cons (ye_callB cy_len (by rfl) T.n_len PySem.boot_len (yl_cons (ye_var 3) yl_nil)) yl_nil))) yl_nil)) (ygN 7 sc_law_trimmed.nd)
  (yss_cons (ys_if (yt_cmp (oy_ne hr.units) (ye_ix (ye_var 4) (ye_var 7)) (ye_ix (ye_var 3) (ye_var 7)))
  (yss_one ys_break)
  yss_nil)
  (yss_one (ysSet 5 sc_law_trimmed.nd (ye_bin oy_add (ye_var 7) ye_int)))))
  (yss_cons (ys_par 4 3 rfl sc_law_trimmed.nd (by rfl) (by rfl) (by decide) rfl rfl (yx_e (ye_slS (ye_var 4) (yo_some (ye_var 5)) yo_none)) (yx_e (ye_slS (ye_var 3) (yo_some (ye_var 5)) yo_none)))
  (yss_cons (ys_for (passes_of rfl) rfl (yi_range2 (by rfl) T.n_range (yl_cons ye_int (yl_cons (ye_bin oy_add (ye_callB (cy_min2 rfl) (by rfl) T.n_min boot_min (yl_cons (ye_callB cy_len (by rfl) T.n_len PySem.boot_len (yl_cons (ye_var 4) yl_nil)) (yl_cons (ye_callB cy_len (by rfl) T.n_len PySem.boot_len (yl_cons (ye_var 3) yl_nil)) yl_nil))) ye_int) yl_nil))) (ygN 7 sc_law_trimmed.nd)
  (yss_cons (ys_if (yt_cmp (oy_ne hr.units) (ye_ix (ye_var 4) (ye_bin oy_sub (ye_callB cy_len (by rfl) T.n_len PySem.boot_len (yl_cons (ye_var 4) yl_nil)) (ye_var 7))) (ye_ix (ye_var 3) (ye_bin oy_sub (ye_callB cy_len (by rfl) T.n_len PySem.boot_len (yl_cons (ye_var 3) yl_nil)) (ye_var 7))))
  (yss_one ys_break)
  yss_nil)
  (yss_one (ysSet 6 sc_law_trimmed.nd (ye_var 7)))))
  (yss_one (ys_ret (ye_tup (yl_cons (ye_bin oy_add (ye_var 1) (ye_var 5)) (yl_cons (ye_bin oy_sub (ye_callB cy_len (by rfl) T.n_len PySem.boot_len (yl_cons (ye_var 4) yl_nil)) (ye_var 6)) (yl_cons (ye_slS (ye_var 3) yo_none (yo_some (ye_bin oy_sub (ye_callB cy_len (by rfl) T.n_len PySem.boot_len (yl_cons (ye_var 3) yl_nil)) (ye_var 6)))) yl_nil))))))))))
abbrev P_law_text : List Str := ["pool", "great"]
theorem sc_law_text : FnScope N_law_text P_law_text (defScope s_law_text) := ⟨rfl, rfl, rfl, by decide +kernel, rfl, by decide +kernel, by decide +kernel⟩
theorem ok_law_text (T : Txt K mg) (C_law_word : CallOk P w K mg base 2 "_law_word" P_law_word φ_law_word) (C_law_pick : CallOk P w K mg base 1 "_law_pick" P_law_pick φ_law_pick) (vc : ∀ (ds : List D) (Q' : D → Prop) (E' : Nat → Prop), φ_law_text ds Q' E' → r_law_text (fun c _ => E' c) { nx := fun _ => Q' .non, rt := fun d _ => Q' d } (startE N_law_text ds)) (len : ∀ ds Q E, φ_law_text ds Q E → ds.length = 2) :
    CallOk P w K mg base 3 "_law_text" P_law_text φ_law_text := by
  obtain ⟨fd, F⟩ := T.d_law_text
  refine ⟨⟨fd, fun_ok F sc_law_text len r_law_text (fun cdv A outer s H E Ξ hr => ?_) vc, funLook F, F.bindsA fun _ _ _ _ _ _ us hl => match us, hl with | [_, _], _ => rfl⟩, F.kp, T.g_law_text⟩
  exact (yss_cons (ysSet 2 sc_law_text.nd (yeCall C_law_word (takes_of rfl rfl rfl rfl) (hr.mono (by decide)) (yl_cons (ye_var 0) (yl_cons (ye_ix (yn_lst (yl_cons ye_str (yl_cons ye_str (yl_cons ye_str (yl_cons ye_str yl_nil))))).ye (yeCall C_law_pick (takes_of rfl rfl rfl rfl) (hr.mono (by decide)) (yl_cons (ye_var 0) (yl_cons ye_int yl_nil)))) (yl_cons ye_int yl_nil)))))
  (yss_cons (ys_if (YW.yt (yw_and (yt_tru (ye_var 1)) (yw_and1 (yt_cmp (oy_ne hr.units) (ye_var 2) ye_str))))
  (yss_one (ys_ret (ye_bin oy_mulA (ye_var 2) (ye_bin oy_fdiv ye_int (ye_callB cy_len (by rfl) T.n_len PySem.boot_len (yl_cons (ye_var 2) yl_nil))))))
  yss_nil)
  (yss_one (ys_ret (ye_var 2)))))
abbrev P_law_is_number : List Str := ["value"]
theorem sc_law_is_number : FnScope N_law_is_number P_law_is_number (defScope s_law_is_number) := ⟨rfl, rfl, rfl, by decide +kernel, rfl, by decide +kernel, by decide +kernel⟩
theorem ok_law_is_number (T : Txt K mg) (vc : ∀ (ds : List D) (Q' : D → Prop) (E' : Nat → Prop), φ_law_is_number ds Q' E' → r_law_is_number (fun c _ => E' c) { nx := fun _ => Q' .non, rt := fun d _ => Q' d } (startE N_law_is_number ds)) (len : ∀ ds Q E, φ_law_is_number ds Q E → ds.length = 1) :
    CallOk P w K mg base 1 "_law_is_number" P_law_is_number φ_law_is_number := by
  obtain ⟨fd, F⟩ := T.d_law_is_number
  refine ⟨⟨fd, fun_ok F sc_law_is_number len r_law_is_number (fun cdv A outer s H E Ξ hr => ?_) vc, funLook F, F.bindsA fun _ _ _ _ _ _ us hl => match us, hl with | [_], _ => rfl⟩, F.kp, T.g_law_is_number⟩
  exact (yss_one (ys_ret (ye_and (ye_isA .int (ye_var 0) (peTy T.n_int boot_int) (by rfl) T.n_isinstance) (ye_and (ye_not (ye_isA .bool (ye_var 0) (peTy T.n_bool boot_bool) (by rfl) T.n_isinstance)) (ye_one (ye_cmp oy_ge (ye_var 0) ye_int))))))
abbrev P_law_due : List Str := ["text", "at", "taken", "put"]
theorem sc_law_due : FnScope N_law_due P_law_due (defScope s_law_due) := ⟨rfl, rfl, rfl, by decide +kernel, rfl, by decide +kernel, by decide +kernel⟩
theorem ok_law_due (T : Txt K mg) (C_law_is_text : CallOk P w K mg base 1 "_law_is_text" P_law_is_text φ_law_is_text) (C_law_is_number : CallOk P w K mg base 1 "_law_is_number" P_law_is_number φ_law_is_number) (C_law_trimmed : CallOk P w K mg base 1 "_law_trimmed" P_law_trimmed φ_law_trimmed) (vc : ∀ (ds : List D) (Q' : D → Prop) (E' : Nat → Prop), φ_law_due ds Q' E' → r_law_due (fun c _ => E' c) { nx := fun _ => Q' .non, rt := fun d _ => Q' d } (startE N_law_due ds)) (len : ∀ ds Q E, φ_law_due ds Q E → ds.length = 4) :
    CallOk P w K mg base 2 "_law_due" P_law_due φ_law_due := by
  obtain ⟨fd, F⟩ := T.d_law_due
  refine ⟨⟨fd, fun_ok F sc_law_due len r_law_due (fun cdv A outer s H E Ξ hr => ?_) vc, funLook F, F.bindsA fun _ _ _ _ _ _ us hl => match us, hl with | [_, _, _, _], _ => rfl⟩, F.kp, T.g_law_due⟩
  exact (yss_cons (ys_if (yt_not (yt_tru (yeCall C_law_is_text (takes_of rfl rfl rfl rfl) (hr.mono (by decide)) (yl_cons (ye_var 0) yl_nil))))
  (yss_one (ys_ret (ye_tup (yl_cons ye_str (yl_cons ye_str (yl_cons ye_int yl_nil))))))
  yss_nil)
  (yss_cons (ys_if (YW.yt (yw_or (yt_not (yt_tru (yeCall C_law_is_number (takes_of rfl rfl rfl rfl) (hr.mono (by decide)) (yl_cons (ye_var 1) yl_nil)))) (yw_or (yt_not (yt_tru (yeCall C_law_is_number (takes_of rfl rfl rfl rfl) (hr.mono (by decide)) (yl_cons (ye_var 2) yl_nil)))) (yw_or (yt_cmp oy_gt (ye_bin oy_add (ye_var 1) (ye_var 2)) (ye_callB cy_len (by rfl) T.n_len PySem.boot_len (yl_cons (ye_var 0) yl_nil))) (yw_or1 (yt_not (yt_tru (yeCall C_law_is_text (takes_of rfl rfl rfl rfl) (hr.mono (by decide)) (yl_cons (ye_var 3) yl_nil)))))))))
  (yss_one (ys_ret (ye_tup (yl_cons ye_str (yl_cons ye_str (yl_cons ye_int yl_nil))))))
  yss_nil)
  (yss_cons (ys_if (yt_cmp oy_gt (ye_bin oy_add (ye_bin oy_sub (ye_callB cy_len (by rfl) T.n_len PySem.boot_len (yl_cons (ye_var 0) yl_nil)) (ye_var 2)) (ye_callB cy_len (by rfl) T.n_len PySem.boot_len (yl_cons (ye_var 3) yl_nil))) ye_int)
  (yss_one (ys_ret (ye_tup (yl_cons ye_str (yl_cons ye_str (yl_cons ye_int yl_nil))))))
  yss_nil)
  (yss_one (ys_ret (ye_tup (yl_cons ye_str (yl_cons (yeCall C_law_trimmed (takes_of rfl rfl rfl rfl) (hr.mono (by decide)) (yl_cons (ye_var 0) (yl_cons (ye_var 1) (yl_cons (ye_var 2) (yl_cons (ye_var 3) yl_nil))))) yl_nil))))))))
abbrev P_law_told : List Str := ["text", "at", "taken", "put"]
theorem sc_law_told : FnScope N_law_told P_law_told (defScope s_law_told) := ⟨rfl, rfl, rfl, by decide +kernel, rfl, by decide +kernel, by decide +kernel⟩
theorem ok_law_told (T : Txt K mg) (C_trimmed : CallOk P w K mg base 6 "trimmed" P_trimmed φ_trimmed) (vc : ∀ (ds : List D) (Q' : D → Prop) (E' : Nat → Prop), φ_law_told ds Q' E' → r_law_told (fun c _ => E' c) { nx := fun _ => Q' .non, rt := fun d _ => Q' d } (startE N_law_told ds)) (len : ∀ ds Q E, φ_law_told ds Q E → ds.length = 4) :
    CallOk P w K mg base 7 "_law_told" P_law_told φ_law_told := by
  obtain ⟨fd, F⟩ := T.d_law_told
  refine ⟨⟨fd, fun_ok F sc_law_told len r_law_told (fun cdv A outer s H E Ξ hr => ?_) vc, funLook F, F.bindsA fun _ _ _ _ _ _ us hl => match us, hl with | [_, _, _, _], _ => rfl⟩, F.kp, T.g_law_told⟩
  exact (yss_cons (ysSet 4 sc_law_told.nd (yn_lst yl_nil).ye)
  (yss_cons (ys_try (cs := exCs) 6 T.xk rfl rfl sc_law_told.nd (by rfl) rfl rfl ⟨by rfl, by decide, .inl T.g_PageError⟩ (takes_of rfl rfl rfl rfl)
  (rb := fun Ξb => (ysAsg (yCall φ_trimmed Ξb (ylCons (yVar 0) (ylCons (yVar 1) (ylCons (yVar 2) (ylCons (yVar 3) ylNil))))) 5)) (rs := fun a c => (ysSeq (ysAsg (yBin oAdd (yBin oAdd (yVar 4) (yBin oMulA (yNew (ynLst (ylCons (yC (.str ("BadText" : Str))) ylNil))) (yCB oInt (ylCons (yIsE 6 a c 1) ylNil)))) (yBin oMulA (yNew (ynLst (ylCons (yC (.str ("BadSplice" : Str))) ylNil))) (yCB oInt (ylCons (yIsE 6 a c 3) ylNil)))) 4)
  (ysSeq (ysAsg (yBin oAdd (yVar 4) (yBin oMulA (yNew (ynLst (ylCons (yC (.str ("TooLong" : Str))) ylNil))) (yCB oInt (ylCons (yIsE 6 a c 19) ylNil)))) 4)
  (ysRet (yTup (ylCons (yC (.str ("refused" : Str))) (ylCons (yIx (yBin oAdd (yVar 4) (yNew (ynLst (ylCons (yC (.str ("another" : Str))) ylNil)))) (yC (.int 0))) (ylCons (yCB oLen (ylCons (yVar 4) ylNil)) ylNil))))))))
  (fun Wb Ξb pn xe tkb po => (yss_one (ysSet 5 sc_law_told.nd (yeCall C_trimmed tkb (hr.mono (by decide)) (yl_cons (ye_var 0) (yl_cons (ye_var 1) (yl_cons (ye_var 2) (yl_cons (ye_var 3) yl_nil))))))))
  (fun c a oe pn hc xc hz hf => (yss_cons (ysSet 4 sc_law_told.nd (ye_bin oy_add (ye_bin oy_add (ye_var 4) (ye_bin oy_mulA (yn_lst (yl_cons ye_str yl_nil)).ye (ye_callTy cy_int (by rfl) T.n_int boot_int (yl_cons (ye_isE c 1 6 T.xk hc (by decide) hz hf (by rfl) T.n_isinstance (by rfl) (by first | exact Or.inl rfl | exact Or.inr rfl) (by rfl) (by rfl) T.g_BadText) yl_nil)))) (ye_bin oy_mulA (yn_lst (yl_cons ye_str yl_nil)).ye (ye_callTy cy_int (by rfl) T.n_int boot_int (yl_cons (ye_isE c 3 6 T.xk hc (by decide) hz hf (by rfl) T.n_isinstance (by rfl) (by first | exact Or.inl rfl | exact Or.inr rfl) (by rfl) (by rfl) T.g_BadSplice) yl_nil)))))
  (yss_cons (ysSet 4 sc_law_told.nd (ye_bin oy_add (ye_var 4) (ye_bin oy_mulA (yn_lst (yl_cons ye_str yl_nil)).ye (ye_callTy cy_int (by rfl) T.n_int boot_int (yl_cons (ye_isE c 19 6 T.xk hc (by decide) hz hf (by rfl) T.n_isinstance (by rfl) (by first | exact Or.inl rfl | exact Or.inr rfl) (by rfl) (by rfl) T.g_TooLong) yl_nil)))))
  (yss_one (ys_ret (ye_tup (yl_cons ye_str (yl_cons (ye_ix (ye_bin oy_add (ye_var 4) (yn_lst (yl_cons ye_str yl_nil)).ye) ye_int) (yl_cons (ye_callB cy_len (by rfl) T.n_len PySem.boot_len (yl_cons (ye_var 4) yl_nil)) yl_nil))))))))))
  (yss_one (ys_ret (ye_tup (yl_cons ye_str (yl_cons (ye_var 5) yl_nil)))))))
abbrev P_law_new : List Str := ["pool", "text", "old"]
theorem sc_law_new : FnScope N_law_new P_law_new (defScope s_law_new) := ⟨rfl, rfl, rfl, by decide +kernel, rfl, by decide +kernel, by decide +kernel⟩
theorem ok_law_new (T : Txt K mg) (C_law_index : CallOk P w K mg base 2 "_law_index" P_law_index φ_law_index) (C_law_pick : CallOk P w K mg base 1 "_law_pick" P_law_pick φ_law_pick) (C_law_word : CallOk P w K mg base 2 "_law_word" P_law_word φ_law_word) (vc : ∀ (ds : List D) (Q' : D → Prop) (E' : Nat → Prop), φ_law_new ds Q' E' → r_law_new (fun c _ => E' c) { nx := fun _ => Q' .non, rt := fun d _ => Q' d } (startE N_law_new ds)) (len : ∀ ds Q E, φ_law_new ds Q E → ds.length = 3) :
    CallOk P w K mg base 3 "_law_new" P_law_new φ_law_new := by
  obtain ⟨fd, F⟩ := T.d_law_new
  refine ⟨⟨fd, fun_ok F sc_law_new len r_law_new (fun cdv A outer s H E Ξ hr => ?_) vc, funLook F, F.bindsA fun _ _ _ _ _ _ us hl => match us, hl with | [_, _, _], _ => rfl⟩, F.kp, T.g_law_new⟩
  exact (yss_cons (ysSet 3 sc_law_new.nd (yeCall C_law_index (takes_of rfl rfl rfl rfl) (hr.mono (by decide)) (yl_cons (ye_var 0) (yl_cons (ye_bin oy_add (ye_callB cy_len (by rfl) T.n_len PySem.boot_len (yl_cons (ye_var 2) yl_nil)) ye_int) yl_nil))))
  (yss_cons (ysSet 4 sc_law_new.nd (ye_bin oy_add (ye_var 3) (yeCall C_law_index (takes_of rfl rfl rfl rfl) (hr.mono (by decide)) (yl_cons (ye_var 0) (yl_cons (ye_bin oy_add (ye_bin oy_sub (ye_callB cy_len (by rfl) T.n_len PySem.boot_len (yl_cons (ye_var 2) yl_nil)) (ye_var 3)) ye_int) yl_nil)))))
  (yss_cons (ysSet 5 sc_law_new.nd (yeCall C_law_pick (takes_of rfl rfl rfl rfl) (hr.mono (by decide)) (yl_cons (ye_var 0) (yl_cons ye_int yl_nil))))
  (yss_cons (ys_if (yt_cmp (oy_eq hr.units) (ye_var 5) ye_int)
  (yss_one (ys_ret (ye_var 2)))
  yss_nil)
  (yss_cons (ys_if (yt_cmp (oy_eq hr.units) (ye_var 5) ye_int)
  (yss_one (ys_ret (ye_bin oy_add (ye_slS (ye_var 2) yo_none (yo_some (ye_var 3))) (ye_slS (ye_var 2) (yo_some (ye_var 4)) yo_none))))
  yss_nil)
  (yss_cons (ys_if (yt_cmp (oy_eq hr.units) (ye_var 5) ye_int)
  (yss_one (ys_ret (ye_bin oy_add (ye_bin oy_add (ye_slS (ye_var 2) yo_none (yo_some (ye_var 3))) (ye_ix ye_str (yeCall C_law_pick (takes_of rfl rfl rfl rfl) (hr.mono (by decide)) (yl_cons (ye_var 0) (yl_cons ye_int yl_nil))))) (ye_slS (ye_var 2) (yo_some (ye_var 4)) yo_none))))
  yss_nil)
  (yss_cons (ys_if (yt_cmp (oy_eq hr.units) (ye_var 5) ye_int)
  (yss_one (ys_ret (ye_bin oy_add (ye_slS (ye_var 2) yo_none (yo_some (ye_var 3))) (ye_slS (ye_var 2) yo_none (yo_some (ye_var 4))))))
  yss_nil)
  (yss_cons (ys_if (yt_cmp (oy_eq hr.units) (ye_var 5) ye_int)
  (yss_one (ys_ret (ye_slS (ye_var 1) yo_none (yo_some (ye_var 3)))))
  yss_nil)
  (yss_one (ys_ret (yeCall C_law_word (takes_of rfl rfl rfl rfl) (hr.mono (by decide)) (yl_cons (ye_var 0) (yl_cons ye_str (yl_cons ye_int yl_nil))))))))))))))
abbrev P_law_spoilt : List Str := ["pool", "splice"]
theorem sc_law_spoilt : FnScope N_law_spoilt P_law_spoilt (defScope s_law_spoilt) := ⟨rfl, rfl, rfl, by decide +kernel, rfl, by decide +kernel, by decide +kernel⟩
theorem ok_law_spoilt (T : Txt K mg) (C_law_pick : CallOk P w K mg base 1 "_law_pick" P_law_pick φ_law_pick) (vc : ∀ (ds : List D) (Q' : D → Prop) (E' : Nat → Prop), φ_law_spoilt ds Q' E' → r_law_spoilt (fun c _ => E' c) { nx := fun _ => Q' .non, rt := fun d _ => Q' d } (startE N_law_spoilt ds)) (len : ∀ ds Q E, φ_law_spoilt ds Q E → ds.length = 2) :
    CallOk P w K mg base 2 "_law_spoilt" P_law_spoilt φ_law_spoilt := by
  obtain ⟨fd, F⟩ := T.d_law_spoilt
  refine ⟨⟨fd, fun_ok F sc_law_spoilt len r_law_spoilt (fun cdv A outer s H E Ξ hr => ?_) vc, funLook F, F.bindsA fun _ _ _ _ _ _ us hl => match us, hl with | [_, _], _ => rfl⟩, F.kp, T.g_law_spoilt⟩
  exact (yss_cons (ysSetO 2 sc_law_spoilt.nd (yn_callTy cn_list (by rfl) T.n_list boot_list (yl_cons (ye_var 1) yl_nil)))
  (yss_cons (ys_if (yt_cmp (oy_eq hr.units) (yeCall C_law_pick (takes_of rfl rfl rfl rfl) (hr.mono (by decide)) (yl_cons (ye_var 0) (yl_cons ye_int yl_nil))) ye_int)
  (yss_one (ys_setIx 2 (by rfl) (by first | exact Or.inl rfl | exact Or.inr (Or.inl rfl)) ye_int (ye_bin oy_mulA ye_str (ye_bin oy_add (ye_bin oy_sub (ye_bin oy_add ye_int (yeCall C_law_pick (takes_of rfl rfl rfl rfl) (hr.mono (by decide)) (yl_cons (ye_var 0) (yl_cons ye_int yl_nil)))) (ye_callB cy_len (by rfl) T.n_len PySem.boot_len (yl_cons (ye_ix (ye_var 2) ye_int) yl_nil))) (ye_ix (ye_var 2) ye_int)))))
  yss_nil)
  (yss_cons (ys_for (passes_of rfl) rfl (yi_range1 (by rfl) T.n_range (yl_cons (yeCall C_law_pick (takes_of rfl rfl rfl rfl) (hr.mono (by decide)) (yl_cons (ye_var 0) (yl_cons ye_int yl_nil))) yl_nil)) (ygN 3 sc_law_spoilt.nd)
  (yss_cons (ys_par 4 5 rfl sc_law_spoilt.nd (by rfl) (by rfl) (by decide) rfl rfl (yx_e (yeCall C_law_pick (takes_of rfl rfl rfl rfl) (hr.mono (by decide)) (yl_cons (ye_var 0) (yl_cons ye_int yl_nil)))) (yx_e (ye_callB cy_len (by rfl) T.n_len PySem.boot_len (yl_cons (ye_ix (ye_var 1) ye_int) yl_nil))))
  (yss_cons (ysSet 6 sc_law_spoilt.nd (yn_lst (yl_cons (ye_neg ye_int) (yl_cons (ye_var 5) (yl_cons (ye_bin oy_add (ye_var 5) ye_int) (yl_cons (ye_bin oy_sub (ye_var 5) (ye_ix (ye_var 1) ye_int)) (yl_cons (ye_bin oy_add (ye_bin oy_sub (ye_var 5) (ye_ix (ye_var 1) ye_int)) ye_int) (yl_cons ye_bl (yl_cons ye_bl (yl_cons ye_non (yl_cons ye_str (yl_cons (yn_lst (yl_cons ye_int yl_nil)).ye (yl_cons (ye_bin oy_pow ye_int ye_int) yl_nil)))))))))))).ye)
  (yss_cons (ysSet 7 sc_law_spoilt.nd (yn_lst (yl_cons ye_non (yl_cons ye_int (yl_cons ye_str (yl_cons (ye_bin oy_mulA ye_str ye_int) (yl_cons (ye_bin oy_mulA ye_str ye_int) (yl_cons (yn_lst (yl_cons ye_str yl_nil)).ye (yl_cons ye_str (yl_cons (ye_tup (yl_cons ye_str yl_nil)) (yl_cons ye_int yl_nil)))))))))).ye)
  (yss_one (ys_if (yt_cmp oy_in (ye_var 4) (yn_lst (yl_cons ye_int (yl_cons ye_int yl_nil))).ye)
  (yss_one (ys_setIx 2 (by rfl) (by first | exact Or.inl rfl | exact Or.inr (Or.inl rfl)) (ye_var 4) (ye_ix (ye_var 6) (yeCall C_law_pick (takes_of rfl rfl rfl rfl) (hr.mono (by decide)) (yl_cons (ye_var 0) (yl_cons ye_int yl_nil))))))
  (yss_one (ys_setIx 2 (by rfl) (by first | exact Or.inl rfl | exact Or.inr (Or.inl rfl)) (ye_var 4) (ye_ix (ye_var 7) (yeCall C_law_pick (takes_of rfl rfl rfl rfl) (hr.mono (by decide)) (yl_cons (ye_var 0) (yl_cons ye_int yl_nil))))))))))))
  (yss_one (ys_ret (ye_tup (yl_cons (ye_ix (ye_var 2) ye_int) (yl_cons (ye_ix (ye_var 2) ye_int) (yl_cons (ye_ix (ye_var 2) ye_int) (yl_cons (ye_ix (ye_var 2) ye_int) yl_nil))))))))))
abbrev P_law : List Str := ["script"]
theorem sc_law : FnScope N_law P_law (defScope s_law) := ⟨rfl, rfl, rfl, by decide +kernel, rfl, by decide +kernel, by decide +kernel⟩
theorem ok_law (T : Txt K mg) (C_law_stream : CallOk P w K mg base 1 "_law_stream" P_law_stream φ_law_stream) (C_law_pick : CallOk P w K mg base 1 "_law_pick" P_law_pick φ_law_pick) (C_law_text : CallOk P w K mg base 3 "_law_text" P_law_text φ_law_text) (C_law_index : CallOk P w K mg base 2 "_law_index" P_law_index φ_law_index) (C_law_new : CallOk P w K mg base 3 "_law_new" P_law_new φ_law_new) (C_law_spoilt : CallOk P w K mg base 2 "_law_spoilt" P_law_spoilt φ_law_spoilt) (C_law_same : CallOk P w K mg base 3 "_law_same" P_law_same φ_law_same) (C_law_due : CallOk P w K mg base 2 "_law_due" P_law_due φ_law_due) (C_law_told : CallOk P w K mg base 7 "_law_told" P_law_told φ_law_told) (vc : ∀ (ds : List D) (Q' : D → Prop) (E' : Nat → Prop), φ_law ds Q' E' → r_law (fun c _ => E' c) { nx := fun _ => Q' .non, rt := fun d _ => Q' d } (startE N_law ds)) (len : ∀ ds Q E, φ_law ds Q E → ds.length = 1) :
    CallOk P w K mg base 8 "law" P_law φ_law := by
  obtain ⟨fd, F⟩ := T.d_law
  refine ⟨⟨fd, fun_ok F sc_law len r_law (fun cdv A outer s H E Ξ hr => ?_) vc, funLook F, F.bindsA fun _ _ _ _ _ _ us hl => match us, hl with | [_], _ => rfl⟩, F.kp, T.g_law⟩
  exact (yss_cons (ysSet 1 sc_law.nd (yeCall C_law_stream (takes_of rfl rfl rfl rfl) (hr.mono (by decide)) (yl_cons (ye_var 0) yl_nil)))
  (yss_cons (ys_par 2 3 rfl sc_law.nd (by rfl) (by rfl) (by decide) rfl rfl (yx_e (ye_cmp (oy_eq hr.units) (yeCall C_law_pick (takes_of rfl rfl rfl rfl) (hr.mono (by decide)) (yl_cons (ye_var 1) (yl_cons ye_int yl_nil))) ye_int)) (yx_n (yn_lst yl_nil)))
  (yss_cons (ys_for (passes_of rfl) rfl (yi_range1 (by rfl) T.n_range (yl_cons ye_int yl_nil)) (ygN 4 sc_law.nd)
  (yss_cons (ysSet 5 sc_law.nd (yeCall C_law_text (takes_of rfl rfl rfl rfl) (hr.mono (by decide)) (yl_cons (ye_var 1) (yl_cons (ye_and (ye_var 2) (ye_one (ye_cmp oy_lt (ye_var 4) ye_int))) yl_nil))))
  (yss_cons (ysSet 6 sc_law.nd (yeCall C_law_index (takes_of rfl rfl rfl rfl) (hr.mono (by decide)) (yl_cons (ye_var 1) (yl_cons (ye_bin oy_add (ye_callB cy_len (by rfl) T.n_len PySem.boot_len (yl_cons (ye_var 5) yl_nil)) ye_int) yl_nil))))
  (yss_cons (ysSet 7 sc_law.nd (yeCall C_law_index (takes_of rfl rfl rfl rfl) (hr.mono (by decide)) (yl_cons (ye_var 1) (yl_cons (ye_bin oy_add (ye_bin oy_sub (ye_callB cy_len (by rfl) T.n_len PySem.boot_len (yl_cons (ye_var 5) yl_nil)) (ye_var 6)) ye_int) yl_nil))))
  (yss_cons (ys_if (yt_cmp (oy_eq hr.units) (yeCall C_law_pick (takes_of rfl rfl rfl rfl) (hr.mono (by decide)) (yl_cons (ye_var 1) (yl_cons ye_int yl_nil))) ye_int)
  (yss_one (ys_par 6 7 rfl sc_law.nd (by rfl) (by rfl) (by decide) rfl rfl (yx_e ye_int) (yx_e (ye_callB cy_len (by rfl) T.n_len PySem.boot_len (yl_cons (ye_var 5) yl_nil)))))
  yss_nil)
  (yss_cons (ysSet 8 sc_law.nd (ye_tup (yl_cons (ye_var 5) (yl_cons (ye_var 6) (yl_cons (ye_var 7) (yl_cons (yeCall C_law_new (takes_of rfl rfl rfl rfl) (hr.mono (by decide)) (yl_cons (ye_var 1) (yl_cons (ye_var 5) (yl_cons (ye_slS (ye_var 5) (yo_some (ye_var 6)) (yo_some (ye_bin oy_add (ye_var 6) (ye_var 7)))) yl_nil)))) yl_nil))))))
  (yss_cons (ysApp' 3 (ye_var 8))
  (yss_one (ys_if (yt_cmp oy_gt (ye_var 4) ye_int)
  (yss_one (ysApp' 3 (yeCall C_law_spoilt (takes_of rfl rfl rfl rfl) (hr.mono (by decide)) (yl_cons (ye_var 1) (yl_cons (ye_var 8) yl_nil)))))
  yss_nil)))))))))
  (yss_cons (ys_for (passes_of rfl) rfl (yi_seq (ye_bin oy_add (ye_var 3) (yn_rev (ye_var 3)).ye)) (yg_tup rfl (ygs_cons (ygN 5 sc_law.nd) (ygs_cons (ygN 6 sc_law.nd) (ygs_cons (ygN 7 sc_law.nd) (ygs_cons (ygN 9 sc_law.nd) ygs_nil)))))
  (yss_one (ys_if (yt_not (yt_tru (yeCall C_law_same (takes_of rfl rfl rfl rfl) (hr.mono (by decide)) (yl_cons (yeCall C_law_told (takes_of rfl rfl rfl rfl) (hr.mono (by decide)) (yl_cons (ye_var 5) (yl_cons (ye_var 6) (yl_cons (ye_var 7) (yl_cons (ye_var 9) yl_nil))))) (yl_cons (yeCall C_law_due (takes_of rfl rfl rfl rfl) (hr.mono (by decide)) (yl_cons (ye_var 5) (yl_cons (ye_var 6) (yl_cons (ye_var 7) (yl_cons (ye_var 9) yl_nil))))) yl_nil)))))
  (yss_one (ys_ret ye_bl))
  yss_nil)))
  (yss_one (ys_ret ye_bl))))))
end
end PL.K16

set_option Elab.async false
set_option linter.all false
set_option autoImplicit false
set_option maxRecDepth 100000
set_option maxHeartbeats 2000000
namespace PL.K16
open PySem PySem.Spec PyProof.Rows L2
def fa : List He.Fa := [.glo "is_told",
  .glo "are_told",
  .glo "is_text",
  .glo "is_number",
  .glo "check_splice",
  .glo "check_numbers",
  .glo "cut_alike",
  .glo "trimmed",
  .glo "_law_stream",
  .glo "_law_pick",
  .glo "_law_index",
  .glo "_law_word",
  .glo "_law_same",
  .glo "_law_is_text",
  .glo "_law_trimmed",
  .glo "_law_text",
  .glo "_law_is_number",
  .glo "_law_due",
  .glo "_law_told",
  .glo "_law_new",
  .glo "_law_spoilt",
  .glo "law",
  .free "all",
  .free "bool",
  .free "dict",
  .free "int",
  .free "isinstance",
  .free "len",
  .free "list",
  .free "min",
  .free "ord",
  .free "range",
  .free "str",
  .free "tuple",
  .int "MOST_SIGNS_marks" 3000,
  .int "MOST_SIGNS_splices" 3000,
  .int "PERCENT" 37,
  .glo "PageError",
  .glo "BadText",
  .glo "BadSplice",
  .glo "TooLong"]
def fn : List He.DefD := [⟨("is_told", none), "is_told", "is_told", defArgs s_is_told, defBody s_is_told, defScope s_is_told, [], []⟩,
  ⟨("are_told", none), "are_told", "are_told", defArgs s_are_told, defBody s_are_told, defScope s_are_told, [], []⟩,
  ⟨("is_text", none), "is_text", "is_text", defArgs s_is_text, defBody s_is_text, defScope s_is_text, [], []⟩,
  ⟨("is_number", none), "is_number", "is_number", defArgs s_is_number, defBody s_is_number, defScope s_is_number, [], []⟩,
  ⟨("check_splice", none), "check_splice", "check_splice", defArgs s_check_splice, defBody s_check_splice, defScope s_check_splice, [], []⟩,
  ⟨("check_numbers", none), "check_numbers", "check_numbers", defArgs s_check_numbers, defBody s_check_numbers, defScope s_check_numbers, [], []⟩,
  ⟨("cut_alike", none), "cut_alike", "cut_alike", defArgs s_cut_alike, defBody s_cut_alike, defScope s_cut_alike, [], []⟩,
  ⟨("trimmed", none), "trimmed", "trimmed", defArgs s_trimmed, defBody s_trimmed, defScope s_trimmed, [], []⟩,
  ⟨("_law_stream", none), "_law_stream", "_law_stream", defArgs s_law_stream, defBody s_law_stream, defScope s_law_stream, [], []⟩,
  ⟨("_law_pick", none), "_law_pick", "_law_pick", defArgs s_law_pick, defBody s_law_pick, defScope s_law_pick, [], []⟩,
  ⟨("_law_index", none), "_law_index", "_law_index", defArgs s_law_index, defBody s_law_index, defScope s_law_index, [], []⟩,
  ⟨("_law_word", none), "_law_word", "_law_word", defArgs s_law_word, defBody s_law_word, defScope s_law_word, [], []⟩,
  ⟨("_law_same", none), "_law_same", "_law_same", defArgs s_law_same, defBody s_law_same, defScope s_law_same, [], []⟩,
  ⟨("_law_is_text", none), "_law_is_text", "_law_is_text", defArgs s_law_is_text, defBody s_law_is_text, defScope s_law_is_text, [], []⟩,
  ⟨("_law_trimmed", none), "_law_trimmed", "_law_trimmed", defArgs s_law_trimmed, defBody s_law_trimmed, defScope s_law_trimmed, [], []⟩,
  ⟨("_law_text", none), "_law_text", "_law_text", defArgs s_law_text, defBody s_law_text, defScope s_law_text, [], []⟩,
  ⟨("_law_is_number", none), "_law_is_number", "_law_is_number", defArgs s_law_is_number, defBody s_law_is_number, defScope s_law_is_number, [], []⟩,
  ⟨("_law_due", none), "_law_due", "_law_due", defArgs s_law_due, defBody s_law_due, defScope s_law_due, [], []⟩,
  ⟨("_law_told", none), "_law_told", "_law_told", defArgs s_law_told, defBody s_law_told, defScope s_law_told, [], []⟩,
  ⟨("_law_new", none), "_law_new", "_law_new", defArgs s_law_new, defBody s_law_new, defScope s_law_new, [], []⟩,
  ⟨("_law_spoilt", none), "_law_spoilt", "_law_spoilt", defArgs s_law_spoilt, defBody s_law_spoilt, defScope s_law_spoilt, [], []⟩,
  ⟨("law", none), "law", "law", defArgs s_law, defBody s_law, defScope s_law, [], []⟩]
def loose : List Str := ["PageError",
  "BadText",
  "BadSplice",
  "TooLong",
  "MOST_SIGNS_marks",
  "PERCENT",
  "is_told",
  "are_told",
  "is_text",
  "is_number",
  "MOST_SIGNS_splices",
  "check_splice",
  "check_numbers",
  "cut_alike",
  "trimmed",
  "_law_stream",
  "_law_pick",
  "_law_index",
  "_law_word",
  "_law_same",
  "_law_is_text",
  "_law_trimmed",
  "_law_text",
  "_law_is_number",
  "_law_due",
  "_law_told",
  "_law_new",
  "_law_spoilt"]
abbrev R : PySem.W.OpenRow := PySem.W.OpenLaw.row PySem.Challenge.rw_pageseen_k16_trimmed_splices
abbrev hk : PySem.W.Hook := He.hookX 4 fa fn [] [] (exB exCs)
def ob (s : PySem.W.SharedT) : He.AlX := He.obsX 4 fa fn [] [] (exB exCs) (HandSHeadRun.getT s)
theorem ob_eq (s : PySem.W.SharedT) : ob s = hk.obs s.abs := He.obsX_eq (HandSHeadRun.getT_eq s)
set_option maxHeartbeats 0
theorem run (w : World) : HandSHeadRun.RunEq R (PySem.W.view R.prog [33]) hk ob 4000 loose w := by
  intro os
  kernel_rfl
theorem txt {K : PySem.W.Frag} {h h' : Heap} {mg : Str → Option Value} {w : World} (X : K.In h) (G : h.Ns mainGlobals mg) (c : He.SaysX fa fn [] [] (exB exCs) w h' K) : Txt K mg where
  g_is_told := He.glo_ok X G (c.t.d.fact 0 (f := .glo "is_told") rfl)
  d_is_told := c.t.d.def_ 0 rfl
  g_are_told := He.glo_ok X G (c.t.d.fact 1 (f := .glo "are_told") rfl)
  d_are_told := c.t.d.def_ 1 rfl
  g_is_text := He.glo_ok X G (c.t.d.fact 2 (f := .glo "is_text") rfl)
  d_is_text := c.t.d.def_ 2 rfl
  g_is_number := He.glo_ok X G (c.t.d.fact 3 (f := .glo "is_number") rfl)
  d_is_number := c.t.d.def_ 3 rfl
  g_check_splice := He.glo_ok X G (c.t.d.fact 4 (f := .glo "check_splice") rfl)
  d_check_splice := c.t.d.def_ 4 rfl
  g_check_numbers := He.glo_ok X G (c.t.d.fact 5 (f := .glo "check_numbers") rfl)
  d_check_numbers := c.t.d.def_ 5 rfl
  g_cut_alike := He.glo_ok X G (c.t.d.fact 6 (f := .glo "cut_alike") rfl)
  d_cut_alike := c.t.d.def_ 6 rfl
  g_trimmed := He.glo_ok X G (c.t.d.fact 7 (f := .glo "trimmed") rfl)
  d_trimmed := c.t.d.def_ 7 rfl
  g_law_stream := He.glo_ok X G (c.t.d.fact 8 (f := .glo "_law_stream") rfl)
  d_law_stream := c.t.d.def_ 8 rfl
  g_law_pick := He.glo_ok X G (c.t.d.fact 9 (f := .glo "_law_pick") rfl)
  d_law_pick := c.t.d.def_ 9 rfl
  g_law_index := He.glo_ok X G (c.t.d.fact 10 (f := .glo "_law_index") rfl)
  d_law_index := c.t.d.def_ 10 rfl
  g_law_word := He.glo_ok X G (c.t.d.fact 11 (f := .glo "_law_word") rfl)
  d_law_word := c.t.d.def_ 11 rfl
  g_law_same := He.glo_ok X G (c.t.d.fact 12 (f := .glo "_law_same") rfl)
  d_law_same := c.t.d.def_ 12 rfl
  g_law_is_text := He.glo_ok X G (c.t.d.fact 13 (f := .glo "_law_is_text") rfl)
  d_law_is_text := c.t.d.def_ 13 rfl
  g_law_trimmed := He.glo_ok X G (c.t.d.fact 14 (f := .glo "_law_trimmed") rfl)
  d_law_trimmed := c.t.d.def_ 14 rfl
  g_law_text := He.glo_ok X G (c.t.d.fact 15 (f := .glo "_law_text") rfl)
  d_law_text := c.t.d.def_ 15 rfl
  g_law_is_number := He.glo_ok X G (c.t.d.fact 16 (f := .glo "_law_is_number") rfl)
  d_law_is_number := c.t.d.def_ 16 rfl
  g_law_due := He.glo_ok X G (c.t.d.fact 17 (f := .glo "_law_due") rfl)
  d_law_due := c.t.d.def_ 17 rfl
  g_law_told := He.glo_ok X G (c.t.d.fact 18 (f := .glo "_law_told") rfl)
  d_law_told := c.t.d.def_ 18 rfl
  g_law_new := He.glo_ok X G (c.t.d.fact 19 (f := .glo "_law_new") rfl)
  d_law_new := c.t.d.def_ 19 rfl
  g_law_spoilt := He.glo_ok X G (c.t.d.fact 20 (f := .glo "_law_spoilt") rfl)
  d_law_spoilt := c.t.d.def_ 20 rfl
  g_law := He.glo_ok X G (c.t.d.fact 21 (f := .glo "law") rfl)
  d_law := c.t.d.def_ 21 rfl
  n_all := He.free_ok X G (c.t.d.fact 22 (f := .free "all") rfl)
  n_bool := He.free_ok X G (c.t.d.fact 23 (f := .free "bool") rfl)
  n_dict := He.free_ok X G (c.t.d.fact 24 (f := .free "dict") rfl)
  n_int := He.free_ok X G (c.t.d.fact 25 (f := .free "int") rfl)
  n_isinstance := He.free_ok X G (c.t.d.fact 26 (f := .free "isinstance") rfl)
  n_len := He.free_ok X G (c.t.d.fact 27 (f := .free "len") rfl)
  n_list := He.free_ok X G (c.t.d.fact 28 (f := .free "list") rfl)
  n_min := He.free_ok X G (c.t.d.fact 29 (f := .free "min") rfl)
  n_ord := He.free_ok X G (c.t.d.fact 30 (f := .free "ord") rfl)
  n_range := He.free_ok X G (c.t.d.fact 31 (f := .free "range") rfl)
  n_str := He.free_ok X G (c.t.d.fact 32 (f := .free "str") rfl)
  n_tuple := He.free_ok X G (c.t.d.fact 33 (f := .free "tuple") rfl)
  c_MOST_SIGNS_marks := ⟨He.int_ok X G (c.t.d.fact 34 (f := .int "MOST_SIGNS_marks" 3000) rfl)⟩
  c_MOST_SIGNS_splices := ⟨He.int_ok X G (c.t.d.fact 35 (f := .int "MOST_SIGNS_splices" 3000) rfl)⟩
  c_PERCENT := ⟨He.int_ok X G (c.t.d.fact 36 (f := .int "PERCENT" 37) rfl)⟩
  g_PageError := He.glo_ok X G (c.t.d.fact 37 (f := .glo "PageError") rfl)
  g_BadText := He.glo_ok X G (c.t.d.fact 38 (f := .glo "BadText") rfl)
  g_BadSplice := He.glo_ok X G (c.t.d.fact 39 (f := .glo "BadSplice") rfl)
  g_TooLong := He.glo_ok X G (c.t.d.fact 40 (f := .glo "TooLong") rfl)
  x_PageError := (exB_at c.more (c := 0) (by decide)).1.x
  k_PageError := (exB_at c.more (c := 0) (by decide)).1.k
  s_PageError := (exB_at c.more (c := 0) (by decide)).1.s
  t_PageError := (exB_at c.more (c := 0) (by decide)).1.t
  x_BadText := (exB_at c.more (c := 1) (by decide)).1.x
  k_BadText := (exB_at c.more (c := 1) (by decide)).1.k
  s_BadText := (exB_at c.more (c := 1) (by decide)).1.s
  t_BadText := (exB_at c.more (c := 1) (by decide)).1.t
  x_BadSplice := (exB_at c.more (c := 3) (by decide)).1.x
  k_BadSplice := (exB_at c.more (c := 3) (by decide)).1.k
  s_BadSplice := (exB_at c.more (c := 3) (by decide)).1.s
  t_BadSplice := (exB_at c.more (c := 3) (by decide)).1.t
  x_TooLong := (exB_at c.more (c := 19) (by decide)).1.x
  k_TooLong := (exB_at c.more (c := 19) (by decide)).1.k
  s_TooLong := (exB_at c.more (c := 19) (by decide)).1.s
  t_TooLong := (exB_at c.more (c := 19) (by decide)).1.t
  xk := exB_k c.more
/-! how many -/
theorem len_is_told (ds : List D) (Q : D → Prop) (E : Nat → Prop) (h : φ_is_told ds Q E) : ds.length = 1 := by
  unfold φ_is_told at h
  split at h <;> first | rfl | exact h.elim
theorem len_are_told (ds : List D) (Q : D → Prop) (E : Nat → Prop) (h : φ_are_told ds Q E) : ds.length = 1 := by
  unfold φ_are_told at h
  split at h <;> first | rfl | exact h.elim
theorem len_is_text (ds : List D) (Q : D → Prop) (E : Nat → Prop) (h : φ_is_text ds Q E) : ds.length = 1 := by
  unfold φ_is_text at h
  split at h <;> first | rfl | exact h.elim
theorem len_is_number (ds : List D) (Q : D → Prop) (E : Nat → Prop) (h : φ_is_number ds Q E) : ds.length = 3 := by
  unfold φ_is_number at h
  split at h <;> first | rfl | exact h.elim
theorem len_check_numbers (ds : List D) (Q : D → Prop) (E : Nat → Prop) (h : φ_check_numbers ds Q E) : ds.length = 4 := by
  unfold φ_check_numbers at h
  split at h <;> first | rfl | exact h.elim
theorem len_check_splice (ds : List D) (Q : D → Prop) (E : Nat → Prop) (h : φ_check_splice ds Q E) : ds.length = 4 := by
  unfold φ_check_splice at h
  split at h <;> first | rfl | exact h.elim
theorem len_trimmed (ds : List D) (Q : D → Prop) (E : Nat → Prop) (h : φ_trimmed ds Q E) : ds.length = 4 := by
  unfold φ_trimmed at h
  split at h <;> first | rfl | exact h.elim
theorem len_law_stream (ds : List D) (Q : D → Prop) (E : Nat → Prop) (h : φList ds Q E) : ds.length = 1 := by
  unfold φList at h
  split at h <;> first | rfl | exact h.elim
theorem len_law_index (ds : List D) (Q : D → Prop) (E : Nat → Prop) (h : φ_law_index ds Q E) : ds.length = 2 := by
  unfold φ_law_index at h
  split at h <;> first | rfl | exact h.elim
theorem len_law_is_text (ds : List D) (Q : D → Prop) (E : Nat → Prop) (h : φ_law_is_text ds Q E) : ds.length = 1 := by
  unfold φ_law_is_text at h
  split at h <;> first | rfl | exact h.elim
theorem len_law_text (ds : List D) (Q : D → Prop) (E : Nat → Prop) (h : φ_law_text ds Q E) : ds.length = 2 := by
  unfold φ_law_text at h
  split at h <;> first | rfl | exact h.elim
theorem len_law_is_number (ds : List D) (Q : D → Prop) (E : Nat → Prop) (h : φ_law_is_number ds Q E) : ds.length = 1 := by
  unfold φ_law_is_number at h
  split at h <;> first | rfl | exact h.elim
theorem len_law_due (ds : List D) (Q : D → Prop) (E : Nat → Prop) (h : φ_law_due ds Q E) : ds.length = 4 := by
  unfold φ_law_due at h
  split at h <;> first | rfl | exact h.elim
theorem len_law_told (ds : List D) (Q : D → Prop) (E : Nat → Prop) (h : φ_law_told ds Q E) : ds.length = 4 := by
  unfold φ_law_told at h
  split at h <;> first | rfl | exact h.elim
theorem len_law (ds : List D) (Q : D → Prop) (E : Nat → Prop) (h : φ_law ds Q E) : ds.length = 1 := by
  unfold φ_law φLaw at h
  split at h <;> first | rfl | exact h.elim
theorem base_law_same {P : Program} {w : World} {K : PySem.W.Frag} {mg : Str → Option Value} {base : Heap} (T : Txt K mg) : CallOk P w K mg base 0 "_law_same" P_law_same (sameN 0) := by
  obtain ⟨fd, F⟩ := T.d_law_same
  refine ⟨⟨fd, ⟨fun vs H Q E h => ?_, fun A outer s H args us vs Q E hr e0 hb hv h => ?_⟩, funLook F, F.bindsA fun _ _ _ _ _ _ us hl => match us, hl with | [_, _], _ => rfl⟩, F.kp, T.g_law_same⟩
  · obtain ⟨_, _, _, _, _, _, z, _⟩ := h
    exact (zero_law_same _ _ _ z).elim
  · obtain ⟨_, _, _, _, _, _, z, _⟩ := h
    exact (zero_law_same _ _ _ z).elim
theorem all {P : Program} {w : World} {K : PySem.W.Frag} {mg : Str → Option Value} (T : Txt K mg) (base : Heap) : CallOk P w K mg base 8 "law" ["script"] φLaw := by
  have C_law_pick := ok_law_pick (P := P) (w := w) (base := base) T
  have C_is_told := ok_is_told (P := P) (w := w) (base := base) T vc_is_told len_is_told
  have C_are_told := ok_are_told (P := P) (w := w) (base := base) T C_is_told vc_are_told len_are_told
  have C_is_text := ok_is_text (P := P) (w := w) (base := base) T C_are_told vc_is_text len_is_text
  have C_is_number := ok_is_number (P := P) (w := w) (base := base) T vc_is_number len_is_number
  have C_check_numbers := ok_check_numbers (P := P) (w := w) (base := base) T C_is_number C_is_text vc_check_numbers len_check_numbers
  have C_check_splice := ok_check_splice (P := P) (w := w) (base := base) T C_is_text C_check_numbers vc_check_splice len_check_splice
  have C_cut_alike := ok_cut_alike (P := P) (w := w) (base := base) T vc_cut_alike len_cut_alike
  have C_trimmed := ok_trimmed (P := P) (w := w) (base := base) T C_check_splice C_cut_alike vc_trimmed len_trimmed
  have C_law_stream := ok_law_stream (P := P) (w := w) (base := base) T vc_law_stream len_law_stream
  have C_law_stream := C_law_stream.stream
  have C_law_index := ok_law_index (P := P) (w := w) (base := base) T C_law_pick vc_law_index len_law_index
  have C_law_word := ok_law_word (P := P) (w := w) (base := base) T C_law_pick vc_law_word len_law_word
  have R_law_same := base_law_same (P := P) (w := w) (base := base) T
  have R_law_same := ok_law_same (φ := sameN 1) T R_law_same (vc_law_same (n := 0)) (len_same 1)
  have R_law_same := ok_law_same (φ := sameN 2) T R_law_same (vc_law_same (n := 1)) (len_same 2)
  have R_law_same := ok_law_same (φ := sameN 3) T R_law_same (vc_law_same (n := 2)) (len_same 3)
  have C_law_same := R_law_same
  have C_law_is_text := ok_law_is_text (P := P) (w := w) (base := base) T vc_law_is_text len_law_is_text
  have C_law_trimmed := ok_law_trimmed (P := P) (w := w) (base := base) T vc_law_trimmed len_law_trimmed
  have C_law_text := ok_law_text (P := P) (w := w) (base := base) T C_law_word C_law_pick vc_law_text len_law_text
  have C_law_is_number := ok_law_is_number (P := P) (w := w) (base := base) T vc_law_is_number len_law_is_number
  have C_law_due := ok_law_due (P := P) (w := w) (base := base) T C_law_is_text C_law_is_number C_law_trimmed vc_law_due len_law_due
  have C_law_told := ok_law_told (P := P) (w := w) (base := base) T C_trimmed vc_law_told len_law_told
  have C_law_new := ok_law_new (P := P) (w := w) (base := base) T C_law_index C_law_pick C_law_word vc_law_new len_law_new
  have C_law_spoilt := ok_law_spoilt (P := P) (w := w) (base := base) T C_law_pick vc_law_spoilt len_law_spoilt
  have C_law := ok_law (P := P) (w := w) (base := base) T C_law_stream C_law_pick C_law_text C_law_index C_law_new C_law_spoilt C_law_same C_law_due C_law_told vc_law len_law
  exact C_law
end PL.K16
open PySem PySem.W PySem.Calls PyProof.Rows
set_option maxHeartbeats 0
theorem PySem.Challenge.cw_pageseen_k16_trimmed_splices_holds : PySem.Challenge.rw_pageseen_k16_trimmed_splices.Holds := by
  w_on; o_law
  refine HandSHeadRun.head_any (r := OpenLaw.row PySem.Challenge.rw_pageseen_k16_trimmed_splices) (q := view (OpenLaw.row PySem.Challenge.rw_pageseen_k16_trimmed_splices).prog [33]) (H := PL.K16.hk) (ob := PL.K16.ob) (M := 4000) (loose := PL.K16.loose) (d := HandSHeadRun.topDef (OpenLaw.row PySem.Challenge.rw_pageseen_k16_trimmed_splices).prog 33) (kwd := []) PL.K16.ob_eq
    (by kernel_rfl) (fun s => by kernel_rfl) PL.K16.run (by kernel_rfl) (by kernel_rfl) (by kernel_rfl) (by rfl) (by first | assumption | decide +kernel) (by decide +kernel) ⟨rfl, rfl, rfl, rfl, rfl, by decide +kernel⟩ ?hw ?hc
  case hw => w_witness2
  case hc =>
    refine PL.walk_ofP (l := PySem.Challenge.rw_pageseen_k16_trimmed_splices) (k := 8) rfl (by kernel_rfl) ⟨rfl, by decide, by decide⟩ ?F
    intro w mg h Y G
    obtain ⟨K, KX, c⟩ := Y
    have T := PL.K16.txt KX G c
    have e : (HandSHeadRun.topDef (OpenLaw.row PySem.Challenge.rw_pageseen_k16_trimmed_splices).prog 33).name = ("law" : PySem.Str) := by kernel_rfl
    exact ⟨K, KX, by rw [e]; exact T.g_law, fun base => PL.K16.all T base⟩
