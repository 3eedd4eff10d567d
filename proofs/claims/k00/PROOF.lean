import PyProof.Rows.All
import Wide.All
import OpenK.AllK
import Wide.FinOn
import HandS.Dict
import HandS.Evl
import HandS.ExcField
import HandS.ExcInit
import HandS.ExcIs
import HandS.ExcSuper
import HandS.ExcValue
import HandS.ForExc
import HandS.ForMost
import HandS.Head0
import HandS.Head1
import HandS.Head2
import HandS.HeadEnd
import HandS.HeadHook2
import HandS.HeadHook3
import HandS.HeadHook4
import HandS.HeadWalk
import HandS.IsInst
import HandS.Iter
import HandS.SortInts
import HandS.Style
import HandS.Text
import KE.KExcIs
import KE.KExcSuper
import KE.KSuper
import PySem.Challenge.RW_pageseen_k00_errors_stand_apart
set_option Elab.async false
set_option linter.all false
set_option autoImplicit false
set_option maxRecDepth 100000
set_option maxHeartbeats 2000000
/-! A layer of plain data over the hand layer: a value is told as a datum D, the heap is out of sight. -/
namespace PL
open PySem PySem.Spec PyProof.Rows L2
open Evl (Ex)
abbrev St := L2.St

/-- the program's classes of errors, by number -/
def exN : List Str := ["PageError", "BadText", "BadTree", "BadSplice", "BadDeed", "BadPlace", "BadSelector", "BadName", "BadValue", "BadPieces", "BadList", "BadMarks", "BadParts", "BadCell", "BadRow", "NoNode", "NoBox", "NoPage", "NotPlain", "TooLong", "TooManyNodes", "BadKey", "BadQuestion",
  "TooManyActions", "NothingToUndo", "NothingToRedo", "NothingBack", "NothingForward", "BadState"]
def exS (c : Nat) : Str := exN.getD c "PageError"
def exA (K : PySem.W.Frag) (c : Nat) : Addr := He.ga K (exS c)
/-- a datum: what a value is, all the way down. frl: a list that is only read -/
inductive D where
  | non | bl (b : Bool) | int (i : Int) | str (x : Str)
  | lst (xs : List D) | tup (xs : List D)
  | dic (kvs : List (Key × D))
  | frl (xs : List D)
  | vl (v : V)
  | pool
  /-- an error object of class c, what its attribute key holds -/
  | err (c : Nat) (k : Option Str)
/-- a datum, or the list (the dict) that the name in slot i owns -/
inductive T where
  | d (d : D)
  | l (i : Nat)

/-- the stream of numbers: a list of ints whose first one is a place in it -/
def PoolOk (ns : List Int) : Prop := 2 ≤ ns.length ∧ ns.length ≤ 1000000 ∧ ∃ c, ns[0]? = some c ∧ 1 ≤ c ∧ c < (ns.length : Int)
def PoolAt (a : Addr) : Heap → Prop := fun h => ∃ (its : List Value) (n : Nat) (ns : List Int), h.get? a = some { cls := .type "list", data := .seq its.toArray n } ∧ Vals (ns.map V.int) its ∧ PoolOk ns

/-- a list that is only read: locked, or of the written part -/
def FrL (K : PySem.W.Frag) (H : Hp) (a : Addr) (xs : List V) : Prop := (∃ o, H a = some (.frz o (.lst xs))) ∨
  ∃ (o : Obj) (its : Array Value) (n : Nat), K.lookup a = some o ∧ o.cls = .type "list" ∧ o.dict = none ∧ o.data = .seq its n ∧ its.size ≤ sizeLine ∧ Vals xs its.toList
theorem FrL.sq {K : PySem.W.Frag} {H : Hp} {a : Addr} {xs : List V} (h : FrL K H a xs) : SqL K H a xs := by
  rcases h with ⟨o, h⟩ | h
  · exact .inl (.inr ⟨o, h⟩)
  · exact .inr h
theorem FrL.mono {K : PySem.W.Frag} {H H' : Hp} {a : Addr} {xs : List V} (e : Ex H H') (h : FrL K H a xs) : FrL K H' a xs := by
  rcases h with ⟨o, h⟩ | h
  · exact .inl ⟨o, e _ _ h⟩
  · exact .inr h
/-- an error object that lies at a -/
def ErrAt (K : PySem.W.Frag) (H : Hp) (a : Addr) (c : Nat) : Option Str → Prop
  | none => H a = some (exo a (exA K c) none)
  | some x => ∃ d, H a = some (exo a (exA K c) (some d)) ∧ H d = some (exd d [(("key" : Str), V.str x)])
theorem ErrAt.mono {K : PySem.W.Frag} {H H' : Hp} {a : Addr} {c : Nat} (e : Ex H H') : ∀ {k : Option Str}, ErrAt K H a c k → ErrAt K H' a c k
  | none, h => e _ _ h
  | some _, ⟨d, h1, h2⟩ => ⟨d, e _ _ h1, e _ _ h2⟩
mutual
inductive Rep (K : PySem.W.Frag) (H : Hp) : V → D → Prop
  | non : Rep K H .non .non
  | bl (b : Bool) : Rep K H (.bl b) (.bl b)
  | int (i : Int) : Rep K H (.int i) (.int i)
  | str (x : Str) : Rep K H (.str x) (.str x)
  | lst {a : Addr} {xs : List V} {ds : List D} : H a = some (.lst xs) → Reps K H xs ds → Rep K H (.ref a) (.lst ds)
  | frl {a : Addr} {xs : List V} {ds : List D} : FrL K H a xs → Reps K H xs ds → Rep K H (.ref a) (.frl ds)
  | tup {a : Addr} {xs : List V} {ds : List D} : SqT K H a xs → Reps K H xs ds → Rep K H (.ref a) (.tup ds)
  | dic {a : Addr} {kvs : List (Key × V)} {ds : List (Key × D)} : H a = some (.dK kvs) → kvs.map (·.1) = ds.map (·.1) → Reps K H (kvs.map (·.2)) (ds.map (·.2)) → Rep K H (.ref a) (.dic ds)
  | vl (v : V) : Rep K H v (.vl v)
  | pool {a : Addr} : H a = some (.ext (PoolAt a)) → Rep K H (.ref a) .pool
  | err {a : Addr} {c : Nat} {k : Option Str} : ErrAt K H a c k → Rep K H (.ref a) (.err c k)
inductive Reps (K : PySem.W.Frag) (H : Hp) : List V → List D → Prop
  | nil : Reps K H [] []
  | cons {v : V} {vs : List V} {d : D} {ds : List D} : Rep K H v d → Reps K H vs ds → Reps K H (v :: vs) (d :: ds)
end

section
variable {K : PySem.W.Frag} {H H' : Hp}
mutual
theorem Rep.mono (e : Ex H H') : ∀ {v : V} {d : D}, Rep K H v d → Rep K H' v d
  | _, _, .non => .non
  | _, _, .bl b => .bl b
  | _, _, .int i => .int i
  | _, _, .str x => .str x
  | _, _, .lst h r => .lst (e _ _ h) (Reps.mono e r)
  | _, _, .frl h r => .frl (h.mono e) (Reps.mono e r)
  | _, _, .tup h r => .tup (Evl.ex_t e h) (Reps.mono e r)
  | _, _, .dic h k r => .dic (e _ _ h) k (Reps.mono e r)
  | _, _, .vl v => .vl v
  | _, _, .pool h => .pool (e _ _ h)
  | _, _, .err h => .err (h.mono e)
theorem Reps.mono (e : Ex H H') : ∀ {vs : List V} {ds : List D}, Reps K H vs ds → Reps K H' vs ds
  | _, _, .nil => .nil
  | _, _, .cons r t => .cons (Rep.mono e r) (Reps.mono e t)
end
theorem Reps.len : ∀ {vs : List V} {ds : List D}, Reps K H vs ds → vs.length = ds.length
  | _, _, .nil => rfl
  | _, _, .cons _ t => by rw [List.length_cons, List.length_cons, Reps.len t]
theorem Reps.get : ∀ {vs : List V} {ds : List D} {i : Nat} {d : D}, Reps K H vs ds → ds[i]? = some d → ∃ v, vs[i]? = some v ∧ Rep K H v d
  | _, _, _, _, .nil, e => by simp at e
  | _, _, 0, _, .cons r _, e => by
    have e2 := Option.some.inj e
    subst e2
    exact ⟨_, rfl, r⟩
  | _, _, i + 1, d, .cons _ t, e => by
    obtain ⟨v, h1, h2⟩ := Reps.get (i := i) (d := d) t (by simpa using e)
    exact ⟨v, by simpa using h1, h2⟩
theorem Reps.getV : ∀ {vs : List V} {ds : List D} {i : Nat} {v : V}, Reps K H vs ds → vs[i]? = some v → ∃ d, ds[i]? = some d ∧ Rep K H v d
  | _, _, _, _, .nil, e => by simp at e
  | _, _, 0, _, .cons r _, e => by
    have e2 := Option.some.inj e
    subst e2
    exact ⟨_, rfl, r⟩
  | _, _, i + 1, d, .cons _ t, e => by
    obtain ⟨v, h1, h2⟩ := Reps.getV (i := i) (v := d) t (by simpa using e)
    exact ⟨v, by simpa using h1, h2⟩
theorem Reps.append : ∀ {vs ws : List V} {ds es : List D}, Reps K H vs ds → Reps K H ws es → Reps K H (vs ++ ws) (ds ++ es)
  | _, _, _, _, .nil, s => s
  | _, _, _, _, .cons r t, s => .cons r (Reps.append t s)
theorem Reps.take : ∀ {vs : List V} {ds : List D} (n : Nat), Reps K H vs ds → Reps K H (vs.take n) (ds.take n)
  | _, _, 0, _ => .nil
  | _, _, _ + 1, .nil => .nil
  | _, _, n + 1, .cons r t => .cons r (Reps.take n t)
theorem Reps.drop : ∀ {vs : List V} {ds : List D} (n : Nat), Reps K H vs ds → Reps K H (vs.drop n) (ds.drop n)
  | _, _, 0, r => r
  | _, _, _ + 1, .nil => .nil
  | _, _, n + 1, .cons _ t => Reps.drop n t
theorem Reps.set {v : V} {d : D} (r : Rep K H v d) : ∀ {vs : List V} {ds : List D} (i : Nat), Reps K H vs ds → Reps K H (vs.set i v) (ds.set i d)
  | _, _, _, .nil => .nil
  | _, _, 0, .cons _ t => .cons r t
  | _, _, i + 1, .cons q t => .cons q (Reps.set r i t)
theorem Reps.reverse : ∀ {vs : List V} {ds : List D}, Reps K H vs ds → Reps K H vs.reverse ds.reverse
  | _, _, .nil => .nil
  | _, _, .cons r t => by
    rw [List.reverse_cons, List.reverse_cons]
    exact Reps.append (Reps.reverse t) (.cons r .nil)
theorem Reps.ints : ∀ (ns : List Int), Reps K H (ns.map V.int) (ns.map D.int)
  | [] => .nil
  | n :: r => .cons (.int n) (Reps.ints r)
theorem Reps.bls : ∀ (ns : List Bool), Reps K H (ns.map V.bl) (ns.map D.bl)
  | [] => .nil
  | n :: r => .cons (.bl n) (Reps.bls r)
theorem Reps.strs : ∀ (ns : List Str), Reps K H (ns.map V.str) (ns.map D.str)
  | [] => .nil
  | n :: r => .cons (.str n) (Reps.strs r)
theorem Reps.inv_ints : ∀ {vs : List V} {ns : List Int}, Reps K H vs (ns.map D.int) → vs = ns.map V.int
  | _, [], .nil => rfl
  | _, n :: r, .cons h t => by
    cases h
    rw [Reps.inv_ints t] <;> rfl
theorem Reps.inv_bls : ∀ {vs : List V} {ns : List Bool}, Reps K H vs (ns.map D.bl) → vs = ns.map V.bl
  | _, [], .nil => rfl
  | _, n :: r, .cons h t => by
    cases h
    rw [Reps.inv_bls t] <;> rfl
theorem Reps.inv_strs : ∀ {vs : List V} {ns : List Str}, Reps K H vs (ns.map D.str) → vs = ns.map V.str
  | _, [], .nil => rfl
  | _, n :: r, .cons h t => by
    cases h
    rw [Reps.inv_strs t] <;> rfl
end

/-- what a name's slot holds: a datum, or a list (a dict) of its own -/
inductive S where
  | v (d : D)
  | o (xs : List D)
  | od (kvs : List (Key × D))
def S.own : S → Bool
  | .v _ => false
  | _ => true
abbrev PEnv := List (Option S)

def SlotOk (K : PySem.W.Frag) (F Hs : Hp) (σ : St) (H : Hp) (i : Nat) : S → Prop
  | .v d => ∃ v, σ[i]? = some (some v) ∧ Rep K Hs v d
  | .o ds => ∃ p vs, σ[i]? = some (some (.ref p)) ∧ Hs p = none ∧ F p = none ∧ H p = some (.lst vs) ∧ Reps K Hs vs ds
  | .od ds => ∃ p kvs, σ[i]? = some (some (.ref p)) ∧ Hs p = none ∧ F p = none ∧ H p = some (.dK kvs) ∧ kvs.map (·.1) = ds.map (·.1) ∧ Reps K Hs (kvs.map (·.2)) (ds.map (·.2))

/-- the state: F what others own, Hs what stands still, σ the slots, H the heap, ε what the slots hold -/
structure RelS (K : PySem.W.Frag) (F Hs : Hp) (σ : St) (H : Hp) (ε : PEnv) : Prop where
  ex : Ex Hs H
  fr : ∀ (p : Addr) (o : HO), F p = some o → H p = some o ∧ Hs p = none
  len : σ.length = ε.length
  sl : ∀ (i : Nat) (s : S), ε[i]? = some (some s) → SlotOk K F Hs σ H i s
  ds : ∀ (i j : Nat) (s t : S), i ≠ j → ε[i]? = some (some s) → ε[j]? = some (some t) → s.own = true → t.own = true → σ[i]? ≠ σ[j]?

/-- a value on the way: a datum, or a name's own -/
def RepT (K : PySem.W.Frag) (Hs : Hp) (σ : St) (v : V) : T → Prop
  | .d d => Rep K Hs v d
  | .l i => σ[i]? = some (some v)
theorem RepT.mono {K : PySem.W.Frag} {Hs Hs' : Hp} {σ : St} {v : V} : ∀ {t : T}, Ex Hs Hs' → RepT K Hs σ v t → RepT K Hs' σ v t
  | .d _, e, h => Rep.mono e h
  | .l _, _, h => h

/-- what is seen of a value: its own list, the items stand still -/
inductive RepV (K : PySem.W.Frag) (Hs H : Hp) : V → D → Prop
  | sc {v : V} {d : D} : Rep K Hs v d → RepV K Hs H v d
  | lst {a : Addr} {xs : List V} {ds : List D} : H a = some (.lst xs) → Reps K Hs xs ds → RepV K Hs H (.ref a) (.lst ds)
  | dic {a : Addr} {kvs : List (Key × V)} {ds : List (Key × D)} : H a = some (.dK kvs) → kvs.map (·.1) = ds.map (·.1) → Reps K Hs (kvs.map (·.2)) (ds.map (·.2)) → RepV K Hs H (.ref a) (.dic ds)

/-- what is there, for a look -/
def res (ε : PEnv) : T → (D → Prop) → Prop
  | .d d, Q => Q d
  | .l i, Q => match ε[i]? with
    | some (some (.v d)) => Q d
    | some (some (.o ds)) => Q (.lst ds)
    | some (some (.od ds)) => Q (.dic ds)
    | _ => False
/-- what is there, to be handed on: a name's own stands still from now on -/
def out (ε : PEnv) : T → (D → PEnv → Prop) → Prop
  | .d d, Q => Q d ε
  | .l i, Q => match ε[i]? with
    | some (some (.v d)) => Q d ε
    | some (some (.o ds)) => Q (.lst ds) (ε.set i (some (.v (.lst ds))))
    | some (some (.od ds)) => Q (.dic ds) (ε.set i (some (.v (.dic ds))))
    | _ => False

section
variable {K : PySem.W.Frag} {F Hs H : Hp} {σ : St} {ε : PEnv} {v : V} {d : D}
theorem RelS.res {t : T} {Q : D → Prop} (R : RelS K F Hs σ H ε) (h : RepT K Hs σ v t) (q : res ε t Q) : ∃ d, RepV K Hs H v d ∧ Q d := by
  cases t with
  | d d => exact ⟨d, .sc h, q⟩
  | l i =>
    have h : σ[i]? = some (some v) := h
    unfold PL.res at q
    dsimp only at q
    split at q
    · rename_i d e
      obtain ⟨w, h1, h2⟩ := R.sl i _ e
      rw [h] at h1
      cases h1
      exact ⟨_, .sc h2, q⟩
    · rename_i ds e
      obtain ⟨p, vs, h1, _, _, h2, h3⟩ := R.sl i _ e
      rw [h] at h1
      cases h1
      exact ⟨_, .lst h2 h3, q⟩
    · rename_i ds e
      obtain ⟨p, vs, h1, _, _, h2, h3, h4⟩ := R.sl i _ e
      rw [h] at h1
      cases h1
      exact ⟨_, .dic h2 h3 h4, q⟩
    · exact q.elim
theorem RepV.lst' {ds : List D} (h : RepV K Hs H v (.lst ds)) (ex : Ex Hs H) : ∃ a xs, v = .ref a ∧ H a = some (.lst xs) ∧ Reps K Hs xs ds := by
  cases h with
  | sc h =>
    cases h with
    | lst h r => exact ⟨_, _, rfl, ex _ _ h, r⟩
  | lst h r => exact ⟨_, _, rfl, h, r⟩
theorem RepV.frl' {ds : List D} (h : RepV K Hs H v (.frl ds)) (ex : Ex Hs H) : ∃ a xs, v = .ref a ∧ SqL K H a xs ∧ Reps K Hs xs ds := by
  cases h with
  | sc h =>
    cases h with
    | frl h r => exact ⟨_, _, rfl, Evl.ex_l ex h.sq, r⟩
theorem RepV.tup' {ds : List D} (h : RepV K Hs H v (.tup ds)) (ex : Ex Hs H) : ∃ a xs, v = .ref a ∧ SqT K H a xs ∧ Reps K Hs xs ds := by
  cases h with
  | sc h =>
    cases h with
    | tup h r => exact ⟨_, _, rfl, Evl.ex_t ex h, r⟩
theorem RepV.dic' {ds : List (Key × D)} (h : RepV K Hs H v (.dic ds)) (ex : Ex Hs H) : ∃ a kvs, v = .ref a ∧ H a = some (.dK kvs) ∧ kvs.map (·.1) = ds.map (·.1) ∧ Reps K Hs (kvs.map (·.2)) (ds.map (·.2)) := by
  cases h with
  | sc h =>
    cases h with
    | dic h k r => exact ⟨_, _, rfl, ex _ _ h, k, r⟩
  | dic h k r => exact ⟨_, _, rfl, h, k, r⟩
theorem RepV.int' {i : Int} (h : RepV K Hs H v (.int i)) : v = .int i := by
  cases h with
  | sc h => cases h; rfl
theorem RepV.str' {x : Str} (h : RepV K Hs H v (.str x)) : v = .str x := by
  cases h with
  | sc h => cases h; rfl
theorem RepV.bl' {b : Bool} (h : RepV K Hs H v (.bl b)) : v = .bl b := by
  cases h with
  | sc h => cases h; rfl
theorem RepV.non' (h : RepV K Hs H v .non) : v = .non := by
  cases h with
  | sc h => cases h; rfl
theorem RepV.vl' {u : V} (h : RepV K Hs H v (.vl u)) : v = u := by
  cases h with
  | sc h => cases h; rfl

theorem ex_upd {p : Addr} {o : HO} (h : Hs p = none) : Ex Hs (upd Hs p o) := Evl.Ex.new h

/-- a name's own list is handed on: from now on it stands still -/
theorem RelS.freeze (R : RelS K F Hs σ H ε) {i : Nat} {s : S} (e : ε[i]? = some (some s)) {o : HO} {d : D} {p : Addr} (hs : σ[i]? = some (some (.ref p))) (ho : s.own = true) (hp : Hs p = none) (hF : F p = none) (hH : H p = some o) (hr : Rep K (upd Hs p o) (.ref p) d) :
    RelS K F (upd Hs p o) σ H (ε.set i (some (.v d))) := by
  have ee : Ex Hs (upd Hs p o) := ex_upd hp
  have hi : i < ε.length := (List.getElem?_eq_some_iff.mp e).1
  refine ⟨fun a u q => ?_, fun a u q => ?_, by rw [List.length_set]; exact R.len, fun j t q => ?_, fun j k t u hn h1 h2 h3 h4 => ?_⟩
  · by_cases ha : a = p
    · subst ha
      rw [upd_same] at q
      cases q
      exact hH
    · rw [upd_ne ha] at q
      exact R.ex a u q
  · obtain ⟨h1, h2⟩ := R.fr a u q
    refine ⟨h1, ?_⟩
    rw [upd_ne]
    · exact h2
    · intro z
      subst z
      rw [q] at hF
      cases hF
  · by_cases hj : j = i
    · subst hj
      rw [List.getElem?_set_self hi] at q
      cases q
      exact ⟨_, hs, hr⟩
    · rw [List.getElem?_set_ne (Ne.symm hj)] at q
      have z := R.sl j t q
      cases t with
      | v d' =>
        obtain ⟨w, h1, h2⟩ := z
        exact ⟨w, h1, h2.mono ee⟩
      | o ds =>
        obtain ⟨b, vs, h1, h2, h3, h4, h5⟩ := z
        have nb : b ≠ p := by
          intro z
          subst z
          exact R.ds i j s (.o ds) (Ne.symm hj) e q ho rfl (hs.trans h1.symm)
        exact ⟨b, vs, h1, by rw [upd_ne nb]; exact h2, h3, h4, h5.mono ee⟩
      | od ds =>
        obtain ⟨b, vs, h1, h2, h3, h4, h5, h6⟩ := z
        have nb : b ≠ p := by
          intro z
          subst z
          exact R.ds i j s (.od ds) (Ne.symm hj) e q ho rfl (hs.trans h1.symm)
        exact ⟨b, vs, h1, by rw [upd_ne nb]; exact h2, h3, h4, h5, h6.mono ee⟩
  · have hj : j ≠ i := by
      rintro rfl
      rw [List.getElem?_set_self hi] at h1
      cases h1
      cases h3
    have hk : k ≠ i := by
      rintro rfl
      rw [List.getElem?_set_self hi] at h2
      cases h2
      cases h4
    rw [List.getElem?_set_ne (Ne.symm hj)] at h1
    rw [List.getElem?_set_ne (Ne.symm hk)] at h2
    exact R.ds j k t u hn h1 h2 h3 h4

theorem RelS.out {t : T} {Q : D → PEnv → Prop} (R : RelS K F Hs σ H ε) (h : RepT K Hs σ v t) (q : out ε t Q) : ∃ d ε' Hs', Ex Hs Hs' ∧ RelS K F Hs' σ H ε' ∧ Rep K Hs' v d ∧ Q d ε' := by
  cases t with
  | d d => exact ⟨d, ε, Hs, Evl.Ex.refl _, R, h, q⟩
  | l i =>
    have h : σ[i]? = some (some v) := h
    unfold PL.out at q
    dsimp only at q
    split at q
    · rename_i d e
      obtain ⟨w, h1, h2⟩ := R.sl i _ e
      rw [h] at h1
      cases h1
      exact ⟨_, ε, Hs, Evl.Ex.refl _, R, h2, q⟩
    · rename_i ds e
      obtain ⟨p, vs, h1, h2, h3, h4, h5⟩ := R.sl i _ e
      rw [h] at h1
      cases h1
      have rr : Rep K (upd Hs p (.lst vs)) (.ref p) (.lst ds) := .lst upd_same (h5.mono (ex_upd h2))
      exact ⟨_, _, _, ex_upd h2, R.freeze e h rfl h2 h3 h4 rr, rr, q⟩
    · rename_i ds e
      obtain ⟨p, vs, h1, h2, h3, h4, h5, h6⟩ := R.sl i _ e
      rw [h] at h1
      cases h1
      have rr : Rep K (upd Hs p (.dK vs)) (.ref p) (.dic ds) := .dic upd_same h5 (h6.mono (ex_upd h2))
      exact ⟨_, _, _, ex_upd h2, R.freeze e h rfl h2 h3 h4 rr, rr, q⟩
    · exact q.elim

/-- something new is laid and stands still -/
theorem RelS.new (R : RelS K F Hs σ H ε) {p : Addr} {o : HO} (hp : H p = none) : RelS K F (upd Hs p o) σ (upd H p o) ε ∧ Ex Hs (upd Hs p o) := by
  have hsp : Hs p = none := Evl.fresh_back R.ex hp
  have ee : Ex Hs (upd Hs p o) := ex_upd hsp
  have eh : Ex H (upd H p o) := Evl.Ex.new hp
  refine ⟨⟨fun a u q => ?_, fun a u q => ?_, R.len, fun j t q => ?_, R.ds⟩, ee⟩
  · by_cases ha : a = p
    · subst ha
      rw [upd_same] at q ⊢
      exact q
    · rw [upd_ne ha] at q
      exact eh a u (R.ex a u q)
  · obtain ⟨h1, h2⟩ := R.fr a u q
    refine ⟨eh a u h1, ?_⟩
    rw [upd_ne (ne_of_none h1 hp)]
    exact h2
  · have z := R.sl j t q
    cases t with
    | v d' =>
      obtain ⟨w, h1, h2⟩ := z
      exact ⟨w, h1, h2.mono ee⟩
    | o ds =>
      obtain ⟨b, vs, h1, h2, h3, h4, h5⟩ := z
      exact ⟨b, vs, h1, by rw [upd_ne (ne_of_none h4 hp)]; exact h2, h3, eh _ _ h4, h5.mono ee⟩
    | od ds =>
      obtain ⟨b, vs, h1, h2, h3, h4, h5, h6⟩ := z
      exact ⟨b, vs, h1, by rw [upd_ne (ne_of_none h4 hp)]; exact h2, h3, eh _ _ h4, h5, h6.mono ee⟩
/-- something new is laid that is not yet anybody's -/
theorem RelS.lay (R : RelS K F Hs σ H ε) {p : Addr} {o : HO} (hp : H p = none) : RelS K F Hs σ (upd H p o) ε := by
  have eh : Ex H (upd H p o) := Evl.Ex.new hp
  refine ⟨fun a u q => eh a u (R.ex a u q), fun a u q => ⟨eh a u (R.fr a u q).1, (R.fr a u q).2⟩, R.len, fun j t q => ?_, R.ds⟩
  have z := R.sl j t q
  cases t with
  | v d' => exact z
  | o ds =>
    obtain ⟨b, vs, h1, h2, h3, h4, h5⟩ := z
    exact ⟨b, vs, h1, h2, h3, eh _ _ h4, h5⟩
  | od ds =>
    obtain ⟨b, vs, h1, h2, h3, h4, h5, h6⟩ := z
    exact ⟨b, vs, h1, h2, h3, eh _ _ h4, h5, h6⟩
/-- what was laid and was nobody's stands still from now on -/
theorem RelS.adopt (R : RelS K F Hs σ H ε) {p : Addr} {o : HO} (hH : H p = some o) (hp : Hs p = none) (hF : F p = none) (hn : ∀ (i : Nat) (s : S), ε[i]? = some (some s) → s.own = true → σ[i]? ≠ some (some (.ref p))) : RelS K F (upd Hs p o) σ H ε := by
  have ee : Ex Hs (upd Hs p o) := ex_upd hp
  refine ⟨fun a u q => ?_, fun a u q => ?_, R.len, fun j t q => ?_, R.ds⟩
  · by_cases ha : a = p
    · subst ha
      rw [upd_same] at q
      cases q
      exact hH
    · rw [upd_ne ha] at q
      exact R.ex a u q
  · obtain ⟨h1, h2⟩ := R.fr a u q
    refine ⟨h1, ?_⟩
    rw [upd_ne]
    · exact h2
    · intro z
      subst z
      rw [q] at hF
      cases hF
  · have z := R.sl j t q
    cases t with
    | v d' =>
      obtain ⟨w, h1, h2⟩ := z
      exact ⟨w, h1, h2.mono ee⟩
    | o ds =>
      obtain ⟨b, vs, h1, h2, h3, h4, h5⟩ := z
      have nb : b ≠ p := by
        intro z
        subst z
        exact hn j _ q rfl h1
      exact ⟨b, vs, h1, by rw [upd_ne nb]; exact h2, h3, h4, h5.mono ee⟩
    | od ds =>
      obtain ⟨b, vs, h1, h2, h3, h4, h5, h6⟩ := z
      have nb : b ≠ p := by
        intro z
        subst z
        exact hn j _ q rfl h1
      exact ⟨b, vs, h1, by rw [upd_ne nb]; exact h2, h3, h4, h5, h6.mono ee⟩
/-- a name is stored -/
theorem RelS.store (R : RelS K F Hs σ H ε) (h : Rep K Hs v d) (i : Nat) : RelS K F Hs (σ.set i (some v)) H (ε.set i (some (.v d))) := by
  refine ⟨R.ex, R.fr, by rw [List.length_set, List.length_set]; exact R.len, fun j t q => ?_, fun j k t u hn h1 h2 h3 h4 => ?_⟩
  · by_cases hj : i = j
    · subst hj
      by_cases hi : i < ε.length
      · rw [List.getElem?_set_self hi] at q
        cases q
        exact ⟨v, by rw [List.getElem?_set_self (by rw [R.len]; exact hi)], h⟩
      · rw [List.getElem?_eq_none (by rw [List.length_set]; omega)] at q
        cases q
    · rw [List.getElem?_set_ne hj] at q
      have z := R.sl j t q
      cases t <;> (unfold SlotOk at z ⊢; dsimp only at z ⊢; rw [List.getElem?_set_ne hj]; exact z)
  · have hj : i ≠ j := by
      rintro rfl
      have hi : i < (ε.set i (some (S.v d))).length := (List.getElem?_eq_some_iff.mp h1).1
      rw [List.length_set] at hi
      rw [List.getElem?_set_self hi] at h1
      cases h1
      cases h3
    have hk : i ≠ k := by
      rintro rfl
      have hi : i < (ε.set i (some (S.v d))).length := (List.getElem?_eq_some_iff.mp h2).1
      rw [List.length_set] at hi
      rw [List.getElem?_set_self hi] at h2
      cases h2
      cases h4
    rw [List.getElem?_set_ne hj] at h1 ⊢
    rw [List.getElem?_set_ne hk] at h2 ⊢
    exact R.ds j k t u hn h1 h2 h3 h4
/-- a name takes a list (a dict) of its own -/
theorem RelS.storeO (R : RelS K F Hs σ H ε) {p : Addr} {s : S} (so : s.own = true) (i : Nat) (hn : ∀ (i : Nat) (s : S), ε[i]? = some (some s) → s.own = true → σ[i]? ≠ some (some (.ref p)))
    (h : i < ε.length → SlotOk K F Hs (σ.set i (some (.ref p))) H i s) : RelS K F Hs (σ.set i (some (.ref p))) H (ε.set i (some s)) := by
  refine ⟨R.ex, R.fr, by rw [List.length_set, List.length_set]; exact R.len, fun j t q => ?_, fun j k t u hjk h1 h2 h3 h4 => ?_⟩
  · by_cases hj : i = j
    · subst hj
      by_cases hi : i < ε.length
      · rw [List.getElem?_set_self hi] at q
        cases q
        exact h hi
      · rw [List.getElem?_eq_none (by rw [List.length_set]; omega)] at q
        cases q
    · rw [List.getElem?_set_ne hj] at q
      have z := R.sl j t q
      cases t <;> (unfold SlotOk at z ⊢; dsimp only at z ⊢; rw [List.getElem?_set_ne hj]; exact z)
  · by_cases hj : i = j
    · subst hj
      have hi : i < ε.length := by
        have := (List.getElem?_eq_some_iff.mp h1).1
        rw [List.length_set] at this
        exact this
      rw [List.getElem?_set_self (by rw [R.len]; exact hi)]
      rw [List.getElem?_set_ne hjk] at h2 ⊢
      exact fun e => hn k u h2 h4 e.symm
    · by_cases hk : i = k
      · subst hk
        have hi : i < ε.length := by
          have := (List.getElem?_eq_some_iff.mp h2).1
          rw [List.length_set] at this
          exact this
        rw [List.getElem?_set_self (by rw [R.len]; exact hi)]
        rw [List.getElem?_set_ne hj] at h1 ⊢
        exact hn j t h1 h3
      · rw [List.getElem?_set_ne hj] at h1 ⊢
        rw [List.getElem?_set_ne hk] at h2 ⊢
        exact R.ds j k t u hjk h1 h2 h3 h4
/-- a name's own list (dict) changes -/
theorem RelS.change (R : RelS K F Hs σ H ε) {p : Addr} {o' : HO} {i : Nat} {s s' : S} (e : ε[i]? = some (some s)) (so : s.own = true) (so' : s'.own = true) (hs : σ[i]? = some (some (.ref p))) (hp : Hs p = none) (hF : F p = none)
    (h : SlotOk K F Hs σ (upd H p o') i s') : RelS K F Hs σ (upd H p o') (ε.set i (some s')) := by
  have hi : i < ε.length := (List.getElem?_eq_some_iff.mp e).1
  refine ⟨fun a u q => ?_, fun a u q => ?_, by rw [List.length_set]; exact R.len, fun j t q => ?_, fun j k t u hjk h1 h2 h3 h4 => ?_⟩
  · rw [upd_ne (ne_of_none q hp)]
    exact R.ex a u q
  · rw [upd_ne]
    · exact R.fr a u q
    · intro z
      subst z
      rw [q] at hF
      cases hF
  · by_cases hj : i = j
    · subst hj
      rw [List.getElem?_set_self hi] at q
      cases q
      exact h
    · rw [List.getElem?_set_ne hj] at q
      have z := R.sl j t q
      cases t with
      | v d' => exact z
      | o ds =>
        obtain ⟨b, vs, h1, h2, h3, h4, h5⟩ := z
        have nb : b ≠ p := by
          intro z
          subst z
          exact R.ds i j s _ hj e q so rfl (hs.trans h1.symm)
        exact ⟨b, vs, h1, h2, h3, by rw [upd_ne nb]; exact h4, h5⟩
      | od ds =>
        obtain ⟨b, vs, h1, h2, h3, h4, h5, h6⟩ := z
        have nb : b ≠ p := by
          intro z
          subst z
          exact R.ds i j s _ hj e q so rfl (hs.trans h1.symm)
        exact ⟨b, vs, h1, h2, h3, by rw [upd_ne nb]; exact h4, h5, h6⟩
  · have own_of : ∀ (j : Nat) (t : S), (ε.set i (some s'))[j]? = some (some t) → t.own = true → ∃ t', ε[j]? = some (some t') ∧ t'.own = true := fun j t q ho => by
      by_cases hj : i = j
      · subst hj
        exact ⟨s, e, so⟩
      · rw [List.getElem?_set_ne hj] at q
        exact ⟨t, q, ho⟩
    obtain ⟨t', a1, a2⟩ := own_of j t h1 h3
    obtain ⟨u', b1, b2⟩ := own_of k u h2 h4
    exact R.ds j k t' u' hjk a1 b1 a2 b2
/-- a fresh address is nobody's -/
theorem RelS.nobody (R : RelS K F Hs σ H ε) {p : Addr} (hp : H p = none) : Hs p = none ∧ F p = none ∧ ∀ (i : Nat) (s : S), ε[i]? = some (some s) → s.own = true → σ[i]? ≠ some (some (.ref p)) := by
  refine ⟨Evl.fresh_back R.ex hp, ?_, fun i s e so q => ?_⟩
  · cases h : F p with
    | none => rfl
    | some o =>
      rw [(R.fr p o h).1] at hp
      cases hp
  · have z := R.sl i s e
    cases s with
    | v d => cases so
    | o ds =>
      obtain ⟨b, vs, h1, h2, h3, h4, h5⟩ := z
      rw [q] at h1
      cases h1
      rw [hp] at h4
      cases h4
    | od ds =>
      obtain ⟨b, vs, h1, h2, h3, h4, h5, h6⟩ := z
      rw [q] at h1
      cases h1
      rw [hp] at h4
      cases h4
end
end PL

set_option Elab.async false
set_option linter.all false
set_option autoImplicit false
set_option maxRecDepth 100000
set_option maxHeartbeats 2000000
/-! What an expression yields, over plain data. -/
namespace PL
open PySem PySem.Spec PyProof.Rows L2
open Evl (Ex)

/-- a guard: it goes by computation where it can -/
def gd (p : Prop) [Decidable p] (Q : Prop) : Prop := match decide p with
  | true => Q
  | false => False
theorem gd_elim {p Q : Prop} [Decidable p] (h : gd p Q) : p ∧ Q := by
  unfold gd at h
  split at h
  · rename_i e
    exact ⟨of_decide_eq_true e, h⟩
  · exact h.elim
theorem gd_of {p Q : Prop} [Decidable p] (h : p) (q : Q) : gd p Q := by
  unfold gd
  rw [decide_eq_true h]
  exact q
/-- an answer that is there -/
def opt {α : Type} (o : Option α) (Q : α → Prop) : Prop := match o with
  | some a => Q a
  | none => False
theorem opt_elim {α : Type} {o : Option α} {Q : α → Prop} (h : opt o Q) : ∃ a, o = some a ∧ Q a := by
  cases o with
  | some a => exact ⟨a, rfl, h⟩
  | none => exact h.elim
theorem opt_of {α : Type} {o : Option α} {a : α} {Q : α → Prop} (e : o = some a) (q : Q a) : opt o Q := by
  rw [e]
  exact q
abbrev PTE := PEnv → (T → PEnv → Prop) → Prop
abbrev PTN := PEnv → (List D → PEnv → Prop) → Prop
abbrev PTL := PEnv → (List T → PEnv → Prop) → Prop
abbrev PTT := PEnv → (Bool → PEnv → Prop) → Prop

abbrev Xi := Nat → PEnv → Prop
/-- what a raised class is to meet -/
def Lk (K : PySem.W.Frag) (F Hs : Hp) (W : WX) (Ξ : Xi) : Prop := ∀ c (σ' : St) (H' Hs' : Hp) (ε' : PEnv), Ξ c ε' → Ex Hs Hs' → RelS K F Hs' σ' H' ε' → W (.ref (exA K c)) none σ' H'
theorem Lk.mono {K : PySem.W.Frag} {F Hs Hs' : Hp} {W : WX} {Ξ : Xi} (e : Ex Hs Hs') (h : Lk K F Hs W Ξ) : Lk K F Hs' W Ξ := fun c σ' H' Hs2 ε' x e2 R => h c σ' H' Hs2 ε' x (e.trans e2) R
abbrev W0 : WX := fun _ _ _ _ => False
abbrev Ξ0 : Xi := fun _ _ => False
theorem Lk.none {K : PySem.W.Frag} {F Hs : Hp} {W : WX} : Lk K F Hs W Ξ0 := fun _ _ _ _ _ x => x.elim

def KE (K : PySem.W.Frag) (F Hs : Hp) (σ : St) (Q' : T → PEnv → Prop) (Q : VK) : Prop :=
  ∀ (v : V) (H' Hs' : Hp) (t : T) (ε' : PEnv), Ex Hs Hs' → RelS K F Hs' σ H' ε' → RepT K Hs' σ v t → Q' t ε' → Q v H'
structure YE (X : Cx) (W : WX) (Ξ : Xi) (e : Expr) (r : PTE) : Prop where
  ex : ∃ t, PE X e t ∧ ∀ (F Hs : Hp) (σ : St) (H : Hp) (ε : PEnv) (Q' : T → PEnv → Prop) (Q : VK), RelS X.K F Hs σ H ε → Lk X.K F Hs W Ξ → r ε Q' → KE X.K F Hs σ Q' Q → t σ H Q
/-- a new list, nobody's yet -/
def KN (K : PySem.W.Frag) (F Hs : Hp) (σ : St) (Q' : List D → PEnv → Prop) (Q : VK) : Prop :=
  ∀ (p : Addr) (H' Hs' : Hp) (vs : List V) (ds : List D) (ε' : PEnv), Ex Hs Hs' → RelS K F Hs' σ H' ε' → H' p = some (.lst vs) → Hs' p = none → F p = none →
    (∀ (i : Nat) (s : S), ε'[i]? = some (some s) → s.own = true → σ[i]? ≠ some (some (.ref p))) → Reps K Hs' vs ds → Q' ds ε' → Q (.ref p) H'
structure YN (X : Cx) (W : WX) (Ξ : Xi) (e : Expr) (r : PTN) : Prop where
  ex : ∃ t, PE X e t ∧ ∀ (F Hs : Hp) (σ : St) (H : Hp) (ε : PEnv) (Q' : List D → PEnv → Prop) (Q : VK), RelS X.K F Hs σ H ε → Lk X.K F Hs W Ξ → r ε Q' → KN X.K F Hs σ Q' Q → t σ H Q
inductive RepTs (K : PySem.W.Frag) (Hs : Hp) (σ : St) : List V → List T → Prop
  | nil : RepTs K Hs σ [] []
  | cons {v : V} {vs : List V} {t : T} {ts : List T} : RepT K Hs σ v t → RepTs K Hs σ vs ts → RepTs K Hs σ (v :: vs) (t :: ts)
theorem RepTs.mono {K : PySem.W.Frag} {Hs Hs' : Hp} {σ : St} (e : Ex Hs Hs') : ∀ {vs : List V} {ts : List T}, RepTs K Hs σ vs ts → RepTs K Hs' σ vs ts
  | _, _, .nil => .nil
  | _, _, .cons r t => .cons (r.mono e) (RepTs.mono e t)
def KL (K : PySem.W.Frag) (F Hs : Hp) (σ : St) (Q' : List T → PEnv → Prop) (Q : List V → Hp → Prop) : Prop :=
  ∀ (vs : List V) (H' Hs' : Hp) (ts : List T) (ε' : PEnv), Ex Hs Hs' → RelS K F Hs' σ H' ε' → RepTs K Hs' σ vs ts → Q' ts ε' → Q vs H'
structure YL (X : Cx) (W : WX) (Ξ : Xi) (es : List Expr) (r : PTL) : Prop where
  ex : ∃ t, PA X es t ∧ ∀ (F Hs : Hp) (σ : St) (H : Hp) (ε : PEnv) (Q' : List T → PEnv → Prop) (Q : List V → Hp → Prop), RelS X.K F Hs σ H ε → Lk X.K F Hs W Ξ → r ε Q' → KL X.K F Hs σ Q' Q → t σ H Q
def KT (K : PySem.W.Frag) (F Hs : Hp) (σ : St) (Q' : Bool → PEnv → Prop) (Q : Bool → Hp → Prop) : Prop :=
  ∀ (b : Bool) (H' Hs' : Hp) (ε' : PEnv), Ex Hs Hs' → RelS K F Hs' σ H' ε' → Q' b ε' → Q b H'
structure YT (X : Cx) (W : WX) (Ξ : Xi) (e : Expr) (r : PTT) : Prop where
  ex : ∃ t, PT X e t ∧ ∀ (F Hs : Hp) (σ : St) (H : Hp) (ε : PEnv) (Q' : Bool → PEnv → Prop) (Q : Bool → Hp → Prop), RelS X.K F Hs σ H ε → Lk X.K F Hs W Ξ → r ε Q' → KT X.K F Hs σ Q' Q → t σ H Q
/-- and, or: a test whatever its whole is -/
structure YW (X : Cx) (W : WX) (Ξ : Xi) (e : Expr) (r : PTT) : Prop where
  ex : ∃ t, PW X e t ∧ ∀ (F Hs : Hp) (σ : St) (H : Hp) (ε : PEnv) (Q' : Bool → PEnv → Prop) (Q : Bool → Hp → Prop), RelS X.K F Hs σ H ε → Lk X.K F Hs W Ξ → r ε Q' → KT X.K F Hs σ Q' Q → t σ H Q

def outs : PEnv → List T → (List D → PEnv → Prop) → Prop
  | ε, [], Q => Q [] ε
  | ε, t :: ts, Q => out ε t fun d ε' => outs ε' ts fun ds ε'' => Q (d :: ds) ε''
def ress (ε : PEnv) : List T → (List D → Prop) → Prop
  | [], Q => Q []
  | t :: ts, Q => res ε t fun d => ress ε ts fun ds => Q (d :: ds)
inductive RepVs (K : PySem.W.Frag) (Hs H : Hp) : List V → List D → Prop
  | nil : RepVs K Hs H [] []
  | cons {v : V} {vs : List V} {d : D} {ds : List D} : RepV K Hs H v d → RepVs K Hs H vs ds → RepVs K Hs H (v :: vs) (d :: ds)

section
variable {K : PySem.W.Frag} {F Hs H : Hp} {σ : St} {ε : PEnv} {v : V} {d : D}
theorem RelS.outs : ∀ {ts : List T} {vs : List V} {Hs : Hp} {ε : PEnv} {Q : List D → PEnv → Prop}, RelS K F Hs σ H ε → RepTs K Hs σ vs ts → outs ε ts Q → ∃ ds ε' Hs', Ex Hs Hs' ∧ RelS K F Hs' σ H ε' ∧ Reps K Hs' vs ds ∧ Q ds ε'
  | [], _, Hs, ε, Q, R, .nil, q => ⟨[], ε, Hs, Evl.Ex.refl _, R, .nil, q⟩
  | t :: ts, _, Hs, ε, Q, R, .cons r rs, q => by
    obtain ⟨d, ε1, Hs1, e1, R1, p1, q1⟩ := R.out r q
    obtain ⟨ds, ε2, Hs2, e2, R2, p2, q2⟩ := RelS.outs R1 (rs.mono e1) q1
    exact ⟨d :: ds, ε2, Hs2, e1.trans e2, R2, .cons (p1.mono e2) p2, q2⟩
theorem RelS.ress (R : RelS K F Hs σ H ε) : ∀ {ts : List T} {vs : List V} {Q : List D → Prop}, RepTs K Hs σ vs ts → ress ε ts Q → ∃ ds, RepVs K Hs H vs ds ∧ Q ds
  | [], _, Q, .nil, q => ⟨[], .nil, q⟩
  | t :: ts, _, Q, .cons r rs, q => by
    obtain ⟨d, p1, q1⟩ := R.res r q
    obtain ⟨ds, p2, q2⟩ := RelS.ress R rs q1
    exact ⟨d :: ds, .cons p1 p2, q2⟩
end

section
variable {X : Cx} {W : WX} {Ξ : Xi} {a b c : Expr} {es : List Expr} {pos : Pos}

/-! ### names, constants -/
def yVar (i : Nat) : PTE := fun ε Q => match ε[i]? with
  | some (some (.v d)) => Q (.d d) ε
  | some (some (.o _)) => Q (.l i) ε
  | some (some (.od _)) => Q (.l i) ε
  | _ => False
theorem ye_var (i : Nat) {x : Str} {pos : Pos} (hN : X.N[i]? = some x := by rfl) (hv : Vis X.env.scope x := by first | exact Or.inl rfl | exact Or.inr (Or.inl rfl) | exact Or.inr (Or.inr rfl)) (hd : (x == ("__debug__" : Str)) = false := by decide)
    (hcd : (x == ("__classdict__" : Str)) = false := by decide) : YE X W Ξ (.Name x pos) (yVar i) := by
  refine ⟨tVar i, pe_var hN hv hd hcd, fun F Hs σ H ε Q' Q R _ q k => ?_⟩
  unfold yVar at q
  split at q
  · rename_i d e
    obtain ⟨v, h1, h2⟩ := R.sl i _ e
    exact ⟨v, h1, k v H Hs (.d d) ε (Evl.Ex.refl _) R h2 q⟩
  · rename_i ds e
    obtain ⟨p, vs, h1, _⟩ := R.sl i _ e
    exact ⟨_, h1, k _ H Hs (.l i) ε (Evl.Ex.refl _) R h1 q⟩
  · rename_i ds e
    obtain ⟨p, vs, h1, _⟩ := R.sl i _ e
    exact ⟨_, h1, k _ H Hs (.l i) ε (Evl.Ex.refl _) R h1 q⟩
  · exact q.elim
def yC (d : D) : PTE := fun ε Q => Q (.d d) ε
theorem ye_c {v : V} {d : D} (h : PE X a (tC v)) (r : ∀ K H, Rep K H v d) : YE X W Ξ a (yC d) := ⟨_, h, fun F Hs σ H ε Q' Q R _ q k => k v H Hs (.d d) ε (Evl.Ex.refl _) R (r _ _) q⟩
theorem ye_int {i : Int} {j : Nat} : YE X W Ξ (.Constant (.int i) j pos) (yC (.int i)) := ye_c pe_int fun _ _ => .int i
theorem ye_bl {i : Bool} {j : Nat} : YE X W Ξ (.Constant (.bool i) j pos) (yC (.bl i)) := ye_c pe_bl fun _ _ => .bl i
theorem ye_non {j : Nat} : YE X W Ξ (.Constant .none j pos) (yC .non) := ye_c pe_non fun _ _ => .non
theorem ye_str {x : Str} {j : Nat} : YE X W Ξ (.Constant (.str x) j pos) (yC (.str x)) := ye_c pe_str fun _ _ => .str x
/-- a module's constant -/
theorem ye_glob {x : Str} {d : D} {v : V} {u : Value} (hg : Gl X x) (hm : X.mg x = some u) (r : RelV v u) (rd : ∀ K H, Rep K H v d) (hd : (x == ("__debug__" : Str)) = false := by decide) : YE X W Ξ (.Name x pos) (yC d) := ye_c (pe_glob hg hm r hd) rd

/-- a new list that is handed on -/
def yNew (r : PTN) : PTE := fun ε Q => r ε fun ds ε' => Q (.d (.lst ds)) ε'
theorem YN.ye {r : PTN} (h : YN X W Ξ a r) : YE X W Ξ a (yNew r) := by
  obtain ⟨t, h1, h2⟩ := h.ex
  refine ⟨t, h1, fun F Hs σ H ε Q' Q R L q k => h2 F Hs σ H ε _ Q R L q fun p H' Hs' vs ds ε' e R' g1 g2 g3 g4 rs q' => ?_⟩
  exact k (.ref p) H' _ _ ε' (e.trans (ex_upd g2)) (R'.adopt g1 g2 g3 g4) (show RepT X.K _ σ _ (.d (.lst ds)) from .lst upd_same (rs.mono (ex_upd g2))) q'

/-! ### operators -/
abbrev OP2 := D → D → (D → Prop) → Prop
def OpY (X : Cx) (f : Value → Value → Sem Value) (o : OP2) : Prop := ∃ r, OpR X f r ∧ ∀ (F Hs : Hp) (σ : St) (H : Hp) (ε : PEnv) (v w : V) (d1 d2 : D) (Q' : D → Prop) (Q : VK), RelS X.K F Hs σ H ε → RepV X.K Hs H v d1 → RepV X.K Hs H w d2 → o d1 d2 Q' →
  (∀ z H' Hs' d, Ex Hs Hs' → RelS X.K F Hs' σ H' ε → Rep X.K Hs' z d → Q' d → Q z H') → r v w H Q
def yBin (o : OP2) (ra rb : PTE) : PTE := fun ε Q => ra ε fun t1 ε1 => rb ε1 fun t2 ε2 => res ε2 t1 fun d1 => res ε2 t2 fun d2 => o d1 d2 fun d => Q (.d d) ε2
theorem bin_core {f : Value → Value → Sem Value} {o : OP2} {r : R2} {ra rb : PTE} {ta tb : TE} (h : ∀ (F Hs : Hp) (σ : St) (H : Hp) (ε : PEnv) (v w : V) (d1 d2 : D) (Q' : D → Prop) (Q : VK), RelS X.K F Hs σ H ε → RepV X.K Hs H v d1 → RepV X.K Hs H w d2 → o d1 d2 Q' →
  (∀ z H' Hs' d, Ex Hs Hs' → RelS X.K F Hs' σ H' ε → Rep X.K Hs' z d → Q' d → Q z H') → r v w H Q)
    (ka : ∀ (F Hs : Hp) (σ : St) (H : Hp) (ε : PEnv) (Q' : T → PEnv → Prop) (Q : VK), RelS X.K F Hs σ H ε → Lk X.K F Hs W Ξ → ra ε Q' → KE X.K F Hs σ Q' Q → ta σ H Q)
    (kb : ∀ (F Hs : Hp) (σ : St) (H : Hp) (ε : PEnv) (Q' : T → PEnv → Prop) (Q : VK), RelS X.K F Hs σ H ε → Lk X.K F Hs W Ξ → rb ε Q' → KE X.K F Hs σ Q' Q → tb σ H Q)
    (F Hs : Hp) (σ : St) (H : Hp) (ε : PEnv) (Q' : D → PEnv → Prop) (Q : VK) (R : RelS X.K F Hs σ H ε) (L : Lk X.K F Hs W Ξ)
    (q : ra ε fun t1 ε1 => rb ε1 fun t2 ε2 => res ε2 t1 fun d1 => res ε2 t2 fun d2 => o d1 d2 fun d => Q' d ε2)
    (k : ∀ z H' Hs' d ε', Ex Hs Hs' → RelS X.K F Hs' σ H' ε' → Rep X.K Hs' z d → Q' d ε' → Q z H') : tOp r ta tb σ H Q := by
  refine ka F Hs σ H ε _ _ R L q fun v H1 Hs1 t1 ε1 e1 R1 p1 q1 => ?_
  refine kb F Hs1 σ H1 ε1 _ _ R1 (L.mono e1) q1 fun w H2 Hs2 t2 ε2 e2 R2 p2 q2 => ?_
  obtain ⟨d1, v1, q3⟩ := R2.res (p1.mono e2) q2
  obtain ⟨d2, v2, q4⟩ := R2.res p2 q3
  exact h F Hs2 σ H2 ε2 v w d1 d2 _ Q R2 v1 v2 q4 fun z H' Hs' d e3 R3 p3 q5 => k z H' Hs' d ε2 ((e1.trans e2).trans e3) R3 p3 q5
theorem ye_bin {op : Operator} {o : OP2} {ra rb : PTE} (ho : OpY X (binaryOp op) o) (ha : YE X W Ξ a ra) (hb : YE X W Ξ b rb) : YE X W Ξ (.BinOp a op b pos) (yBin o ra rb) := by
  obtain ⟨r, hr, h⟩ := ho
  obtain ⟨ta, pa, ka⟩ := ha.ex
  obtain ⟨tb, pb, kb⟩ := hb.ex
  exact ⟨_, pe_op hr pa pb, fun F Hs σ H ε Q' Q R L q k => bin_core (f := binaryOp op) h ka kb F Hs σ H ε (fun d ε' => Q' (.d d) ε') Q R L q fun z H' Hs' d ε' e R' p q' => k z H' Hs' (.d d) ε' e R' p q'⟩
theorem ye_cmp {op : CmpOp} {o : OP2} {ra rb : PTE} (ho : OpY X (compareOp op) o) (ha : YE X W Ξ a ra) (hb : YE X W Ξ b rb) (hm : behindInMarks op b = false := by first | exact nomark _ | rfl) : YE X W Ξ (.Compare a [op] [b] pos) (yBin o ra rb) := by
  obtain ⟨r, hr, h⟩ := ho
  obtain ⟨ta, pa, ka⟩ := ha.ex
  obtain ⟨tb, pb, kb⟩ := hb.ex
  exact ⟨_, pe_cmpR hr pa pb hm, fun F Hs σ H ε Q' Q R L q k => bin_core (f := compareOp op) h ka kb F Hs σ H ε (fun d ε' => Q' (.d d) ε') Q R L q fun z H' Hs' d ε' e R' p q' => k z H' Hs' (.d d) ε' e R' p q'⟩
def asB (Q : Bool → Prop) : D → Prop
  | .bl b => Q b
  | _ => False
def yBinT (o : OP2) (ra rb : PTE) : PTT := fun ε Q => ra ε fun t1 ε1 => rb ε1 fun t2 ε2 => res ε2 t1 fun d1 => res ε2 t2 fun d2 => o d1 d2 (asB fun b => Q b ε2)
theorem asB_rep {K : PySem.W.Frag} {H : Hp} {z : V} {d : D} {Q : Bool → Prop} (p : Rep K H z d) (q : asB Q d) : ∃ b, z = .bl b ∧ Q b := by
  cases d with
  | bl b => cases p; exact ⟨b, rfl, q⟩
  | _ => exact False.elim q
theorem yt_cmp {op : CmpOp} {o : OP2} {ra rb : PTE} (ho : OpY X (compareOp op) o) (ha : YE X W Ξ a ra) (hb : YE X W Ξ b rb) (hm : behindInMarks op b = false := by first | exact nomark _ | rfl) : YT X W Ξ (.Compare a [op] [b] pos) (yBinT o ra rb) := by
  obtain ⟨r, hr, h⟩ := ho
  obtain ⟨ta, pa, ka⟩ := ha.ex
  obtain ⟨tb, pb, kb⟩ := hb.ex
  refine ⟨_, pt_cmpR hr pa pb hm, fun F Hs σ H ε Q' Q R L q k => ?_⟩
  refine bin_core (f := compareOp op) h ka kb F Hs σ H ε (fun d ε' => asB (fun b => Q' b ε') d) (fun x H' => ∃ k, x = .bl k ∧ Q k H') R L q fun z H' Hs' d ε' e R' p q' => ?_
  obtain ⟨b, e2, q2⟩ := asB_rep p q'
  exact ⟨b, e2, k b H' Hs' ε' e R' q2⟩
/-- a < b < c, b asked once -/
def yChain (o o' : OP2) (ra rb rc : PTE) : PTE := fun ε Q => ra ε fun t1 ε1 => rb ε1 fun t2 ε2 => res ε2 t1 fun d1 => res ε2 t2 fun d2 => o d1 d2 (asB fun k => match k with
  | true => rc ε2 fun t3 ε3 => res ε3 t2 fun d2 => res ε3 t3 fun d3 => o' d2 d3 fun d => Q (.d d) ε3
  | false => Q (.d (.bl false)) ε2)

/-! ### tests -/
def yB (r : PTE) : PTT := fun ε Q => r ε fun t ε' => res ε' t (asB fun b => Q b ε')
theorem yt_val {r : PTE} (h : YE X W Ξ a r) (he : ∀ whole, isTrue a X.env whole = (do let v ← whole; standAt a.pos; holding [v] (truthy v)) := by intro _; rfl) : YT X W Ξ a (yB r) := by
  obtain ⟨t, p, k⟩ := h.ex
  refine ⟨_, pt_val p he, fun F Hs σ H ε Q' Q R L q kk => k F Hs σ H ε _ _ R L q fun v H' Hs' t ε' e R' p' q' => ?_⟩
  obtain ⟨d, rv, q2⟩ := R'.res p' q'
  cases d with
  | bl b => exact ⟨b, rv.bl', kk b H' Hs' ε' e R' q2⟩
  | _ => exact False.elim q2
/-- a value's truth -/
def truD : D → (Bool → Prop) → Prop
  | .non, Q => Q false
  | .bl b, Q => Q b
  | .int i, Q => Q (i != 0)
  | .str x, Q => gd (x.length ≤ 16777216) (Q ((x.length : Int) != 0))
  | .lst xs, Q => Q (!xs.isEmpty)
  | .tup xs, Q => Q (!xs.isEmpty)
  | .dic xs, Q => Q (!xs.isEmpty)
  | _, _ => False
def yTru (r : PTE) : PTT := fun ε Q => r ε fun t ε' => res ε' t fun d => truD d fun b => Q b ε'
theorem Reps.isEmpty {K : PySem.W.Frag} {H : Hp} {vs : List V} {ds : List D} (r : Reps K H vs ds) : vs.isEmpty = ds.isEmpty := by
  cases r <;> rfl
theorem line_le {n : Nat} (h : n ≤ 16777216) : n ≤ sizeLine := by rw [sizeLine_eq]; exact h
theorem line_lt {n : Nat} (h : n < 16777216) : n < sizeLine := by rw [sizeLine_eq]; exact h
theorem truD_ok {K : PySem.W.Frag} {F Hs H : Hp} {σ : St} {ε : PEnv} {v : V} {d : D} {Q : Bool → Prop} (R : RelS K F Hs σ H ε) (h : RepV K Hs H v d) (q : truD d Q) : ∃ b, TruV K v H b ∧ Q b := by
  cases d with
  | non => rw [h.non']; exact ⟨false, rfl, q⟩
  | bl b => rw [h.bl']; exact ⟨b, rfl, q⟩
  | int i => rw [h.int']; exact ⟨_, rfl, q⟩
  | str x => rw [h.str']; exact ⟨_, ⟨line_le (gd_elim q).1, rfl⟩, (gd_elim q).2⟩
  | lst xs =>
    obtain ⟨p, vs, e, h1, h2⟩ := h.lst' R.ex
    rw [e]
    exact ⟨_, .inl ⟨vs, SqL.of h1, rfl⟩, by rw [h2.isEmpty]; exact q⟩
  | tup xs =>
    obtain ⟨p, vs, e, h1, h2⟩ := h.tup' R.ex
    rw [e]
    exact ⟨_, .inr (.inl ⟨vs, h1, rfl⟩), by rw [h2.isEmpty]; exact q⟩
  | dic xs =>
    obtain ⟨p, vs, e, h1, h2, h3⟩ := h.dic' R.ex
    rw [e]
    refine ⟨_, .inr (.inr ⟨vs, h1, rfl⟩), ?_⟩
    have : vs.isEmpty = xs.isEmpty := by
      have e2 := congrArg List.isEmpty h2
      rw [List.isEmpty_map, List.isEmpty_map] at e2
      exact e2
    rw [this]
    exact q
  | _ => exact False.elim q
theorem yt_tru {r : PTE} (h : YE X W Ξ a r) (he : ∀ whole, isTrue a X.env whole = (do let v ← whole; standAt a.pos; holding [v] (truthy v)) := by intro _; rfl) : YT X W Ξ a (yTru r) := by
  obtain ⟨t, p, k⟩ := h.ex
  refine ⟨_, pt_truth p he, fun F Hs σ H ε Q' Q R L q kk => k F Hs σ H ε _ _ R L q fun v H' Hs' t ε' e R' p' q' => ?_⟩
  obtain ⟨d, rv, q2⟩ := R'.res p' q'
  obtain ⟨b, h1, h2⟩ := truD_ok R' rv q2
  exact ⟨b, h1, kk b H' Hs' ε' e R' h2⟩
def yAnd (ra rb : PTT) : PTT := fun ε Q => ra ε fun k ε' => match k with
  | true => rb ε' Q
  | false => Q false ε'
def yOr (ra rb : PTT) : PTT := fun ε Q => ra ε fun k ε' => match k with
  | true => Q true ε'
  | false => rb ε' Q
def yNot (ra : PTT) : PTT := fun ε Q => ra ε fun k ε' => Q (!k) ε'
theorem YW.yt {r : PTT} (h : YW X W Ξ a r) : YT X W Ξ a r := by
  obtain ⟨t, p, k⟩ := h.ex
  exact ⟨t, p.pt, k⟩
theorem yw_and1 {r : PTT} (h : YT X W Ξ a r) : YW X W Ξ (.BoolOp .And [a] pos) r := by
  obtain ⟨t, p, k⟩ := h.ex
  exact ⟨t, pw_and1 p, k⟩
theorem yw_or1 {r : PTT} (h : YT X W Ξ a r) : YW X W Ξ (.BoolOp .Or [a] pos) r := by
  obtain ⟨t, p, k⟩ := h.ex
  exact ⟨t, pw_or1 p, k⟩
theorem yw_and {ra rb : PTT} (ha : YT X W Ξ a ra) (hb : YW X W Ξ (.BoolOp .And (b :: es) pos) rb) : YW X W Ξ (.BoolOp .And (a :: b :: es) pos) (yAnd ra rb) := by
  obtain ⟨ta, pa, ka⟩ := ha.ex
  obtain ⟨tb, pb, kb⟩ := hb.ex
  refine ⟨_, pw_and pa pb, fun F Hs σ H ε Q' Q R L q k => ka F Hs σ H ε _ _ R L q fun c H1 Hs1 ε1 e1 R1 q1 => ?_⟩
  cases c with
  | true =>
    show (if true = true then _ else _)
    rw [if_pos rfl]
    exact kb F Hs1 σ H1 ε1 _ _ R1 (L.mono e1) q1 fun c' H2 Hs2 ε2 e2 R2 q2 => k c' H2 Hs2 ε2 (e1.trans e2) R2 q2
  | false =>
    show (if false = true then _ else _)
    rw [if_neg Bool.false_ne_true]
    exact k false H1 Hs1 ε1 e1 R1 q1
theorem yw_or {ra rb : PTT} (ha : YT X W Ξ a ra) (hb : YW X W Ξ (.BoolOp .Or (b :: es) pos) rb) : YW X W Ξ (.BoolOp .Or (a :: b :: es) pos) (yOr ra rb) := by
  obtain ⟨ta, pa, ka⟩ := ha.ex
  obtain ⟨tb, pb, kb⟩ := hb.ex
  refine ⟨_, pw_or pa pb, fun F Hs σ H ε Q' Q R L q k => ka F Hs σ H ε _ _ R L q fun c H1 Hs1 ε1 e1 R1 q1 => ?_⟩
  cases c with
  | true =>
    show (if true = true then _ else _)
    rw [if_pos rfl]
    exact k true H1 Hs1 ε1 e1 R1 q1
  | false =>
    show (if false = true then _ else _)
    rw [if_neg Bool.false_ne_true]
    exact kb F Hs1 σ H1 ε1 _ _ R1 (L.mono e1) q1 fun c' H2 Hs2 ε2 e2 R2 q2 => k c' H2 Hs2 ε2 (e1.trans e2) R2 q2
theorem yt_not {r : PTT} (h : YT X W Ξ a r) : YT X W Ξ (.UnaryOp .Not a pos) (yNot r) := by
  obtain ⟨t, p, k⟩ := h.ex
  exact ⟨_, pt_not p, fun F Hs σ H ε Q' Q R L q kk => k F Hs σ H ε _ _ R L q fun c H' Hs' ε' e R' q' => kk (!c) H' Hs' ε' e R' q'⟩
/-! .. as values -/
def yAndV (ra rb : PTE) : PTE := fun ε Q => ra ε fun t ε' => res ε' t (asB fun k => match k with
  | true => rb ε' Q
  | false => Q (.d (.bl false)) ε')
def yOrV (ra rb : PTE) : PTE := fun ε Q => ra ε fun t ε' => res ε' t (asB fun k => match k with
  | true => Q (.d (.bl true)) ε'
  | false => rb ε' Q)
def yNotV (ra : PTE) : PTE := fun ε Q => ra ε fun t ε' => res ε' t fun d => truD d fun k => Q (.d (.bl (!k))) ε'
theorem ye_one {op : BoolOp} {r : PTE} (h : YE X W Ξ a r) : YE X W Ξ (.BoolOp op [a] pos) r := by
  obtain ⟨t, p, k⟩ := h.ex
  exact ⟨t, pe_one p, k⟩
theorem ye_and {ra rb : PTE} (ha : YE X W Ξ a ra) (hb : YE X W Ξ (.BoolOp .And (b :: es) pos) rb) : YE X W Ξ (.BoolOp .And (a :: b :: es) pos) (yAndV ra rb) := by
  obtain ⟨ta, pa, ka⟩ := ha.ex
  obtain ⟨tb, pb, kb⟩ := hb.ex
  refine ⟨_, pe_and pa pb, fun F Hs σ H ε Q' Q R L q k => ka F Hs σ H ε _ _ R L q fun v H1 Hs1 t1 ε1 e1 R1 p1 q1 => ?_⟩
  obtain ⟨d, rv, q2⟩ := R1.res p1 q1
  cases d with
  | bl c =>
    refine ⟨c, rv.bl', ?_⟩
    cases c with
    | true =>
      show tb σ H1 Q
      exact kb F Hs1 σ H1 ε1 _ _ R1 (L.mono e1) q2 fun v' H2 Hs2 t2 ε2 e2 R2 p2 q3 => k v' H2 Hs2 t2 ε2 (e1.trans e2) R2 p2 q3
    | false =>
      show Q (.bl false) H1
      exact k _ H1 Hs1 (.d (.bl false)) ε1 e1 R1 (.bl false) q2
  | _ => exact False.elim q2
theorem ye_or {ra rb : PTE} (ha : YE X W Ξ a ra) (hb : YE X W Ξ (.BoolOp .Or (b :: es) pos) rb) : YE X W Ξ (.BoolOp .Or (a :: b :: es) pos) (yOrV ra rb) := by
  obtain ⟨ta, pa, ka⟩ := ha.ex
  obtain ⟨tb, pb, kb⟩ := hb.ex
  refine ⟨_, pe_or pa pb, fun F Hs σ H ε Q' Q R L q k => ka F Hs σ H ε _ _ R L q fun v H1 Hs1 t1 ε1 e1 R1 p1 q1 => ?_⟩
  obtain ⟨d, rv, q2⟩ := R1.res p1 q1
  cases d with
  | bl c =>
    refine ⟨c, rv.bl', ?_⟩
    cases c with
    | true =>
      show Q (.bl true) H1
      exact k _ H1 Hs1 (.d (.bl true)) ε1 e1 R1 (.bl true) q2
    | false =>
      show tb σ H1 Q
      exact kb F Hs1 σ H1 ε1 _ _ R1 (L.mono e1) q2 fun v' H2 Hs2 t2 ε2 e2 R2 p2 q3 => k v' H2 Hs2 t2 ε2 (e1.trans e2) R2 p2 q3
  | _ => exact False.elim q2
def yIf (rt : PTT) (ra rb : PTE) : PTE := fun ε Q => rt ε fun k ε' => match k with
  | true => ra ε' Q
  | false => rb ε' Q
theorem ye_if {rt : PTT} {ra rb : PTE} (hc : YT X W Ξ c rt) (ha : YE X W Ξ a ra) (hb : YE X W Ξ b rb) : YE X W Ξ (.IfExp c a b pos) (yIf rt ra rb) := by
  obtain ⟨tc, pc, kc⟩ := hc.ex
  obtain ⟨ta, pa, ka⟩ := ha.ex
  obtain ⟨tb, pb, kb⟩ := hb.ex
  refine ⟨_, pe_ifExp pc pa pb, fun F Hs σ H ε Q' Q R L q k => kc F Hs σ H ε _ _ R L q fun c H1 Hs1 ε1 e1 R1 q1 => ?_⟩
  cases c with
  | true =>
    show (if true = true then _ else _)
    rw [if_pos rfl]
    exact ka F Hs1 σ H1 ε1 _ _ R1 (L.mono e1) q1 fun v' H2 Hs2 t2 ε2 e2 R2 p2 q3 => k v' H2 Hs2 t2 ε2 (e1.trans e2) R2 p2 q3
  | false =>
    show (if false = true then _ else _)
    rw [if_neg Bool.false_ne_true]
    exact kb F Hs1 σ H1 ε1 _ _ R1 (L.mono e1) q1 fun v' H2 Hs2 t2 ε2 e2 R2 p2 q3 => k v' H2 Hs2 t2 ε2 (e1.trans e2) R2 p2 q3

/-! ### arguments, displays, calls -/
def ylNil : PTL := fun ε Q => Q [] ε
def ylCons (r : PTE) (rs : PTL) : PTL := fun ε Q => r ε fun t ε1 => rs ε1 fun ts ε2 => Q (t :: ts) ε2
theorem yl_nil : YL X W Ξ [] ylNil := ⟨tNil, pa_nil, fun F Hs σ H ε Q' Q R _ q k => k [] H Hs [] ε (Evl.Ex.refl _) R .nil q⟩
theorem yl_cons {r : PTE} {rs : PTL} (h : YE X W Ξ a r) (hs : YL X W Ξ es rs) (hst : starEach (a :: es) X.env = (false, eval a X.env) :: starEach es X.env := by rfl) : YL X W Ξ (a :: es) (ylCons r rs) := by
  obtain ⟨t, p, k⟩ := h.ex
  obtain ⟨ts, ps, ks⟩ := hs.ex
  refine ⟨_, pa_cons p ps hst, fun F Hs σ H ε Q' Q R L q kk => k F Hs σ H ε _ _ R L q fun v H1 Hs1 t1 ε1 e1 R1 p1 q1 => ?_⟩
  exact ks F Hs1 σ H1 ε1 _ _ R1 (L.mono e1) q1 fun vs H2 Hs2 t2 ε2 e2 R2 p2 q2 => kk (v :: vs) H2 Hs2 (t1 :: t2) ε2 (e1.trans e2) R2 (.cons (p1.mono e2) p2) q2
/-- [a, b, ..] -/
def ynLst (rs : PTL) : PTN := fun ε Q => rs ε fun ts ε1 => outs ε1 ts fun ds ε2 => gd (ds.length ≤ 16777216) (Q ds ε2)
theorem yn_lst {rs : PTL} (h : YL X W Ξ es rs) : YN X W Ξ (.List es pos) (ynLst rs) := by
  obtain ⟨ts, ps, ks⟩ := h.ex
  refine ⟨_, pe_lst ps, fun F Hs σ H ε Q' Q R L q k => ks F Hs σ H ε _ _ R L q fun vs H1 Hs1 t1 ε1 e1 R1 p1 q1 => ?_⟩
  obtain ⟨ds, ε2, Hs2, e2, R2, rs, hq⟩ := R1.outs p1 q1
  obtain ⟨hl, q2⟩ := gd_elim hq
  refine ⟨by rw [rs.len]; exact line_le hl, fun p hp => ?_⟩
  obtain ⟨n1, n2, n3⟩ := R2.nobody hp
  exact k p _ Hs2 vs ds ε2 (e1.trans e2) (R2.lay hp) upd_same n1 n2 n3 rs q2
/-- (a, b, ..) -/
def yTup (rs : PTL) : PTE := fun ε Q => rs ε fun ts ε1 => outs ε1 ts fun ds ε2 => gd (ds.length ≤ 16777216) (Q (.d (.tup ds)) ε2)
theorem ye_tup {rs : PTL} {k : Nat} (h : YL X W Ξ es rs) : YE X W Ξ (.Tuple es k pos) (yTup rs) := by
  obtain ⟨ts, ps, ks⟩ := h.ex
  refine ⟨_, pe_tup ps, fun F Hs σ H ε Q' Q R L q k => ks F Hs σ H ε _ _ R L q fun vs H1 Hs1 t1 ε1 e1 R1 p1 q1 => ?_⟩
  obtain ⟨ds, ε2, Hs2, e2, R2, rs, hq⟩ := R1.outs p1 q1
  obtain ⟨hl, q2⟩ := gd_elim hq
  refine ⟨by rw [rs.len]; exact line_le hl, fun p hp => ?_⟩
  obtain ⟨R3, e3⟩ := R2.new (o := .tup vs) hp
  exact k (.ref p) _ _ (.d (.tup ds)) ε2 ((e1.trans e2).trans e3) R3 (show Rep X.K _ _ (.tup ds) from .tup (SqT.of upd_same) (rs.mono e3)) q2

/-- a built-in's call, by data -/
abbrev OPC := List D → (D → Prop) → Prop
def CallY (X : Cx) (f : Value) (o : OPC) : Prop := ∃ r, CallR X f r ∧ ∀ (F Hs : Hp) (σ : St) (H : Hp) (ε : PEnv) (vs : List V) (ds : List D) (Q' : D → Prop) (Q : VK), RelS X.K F Hs σ H ε → RepVs X.K Hs H vs ds → o ds Q' →
  (∀ z H' Hs' d, Ex Hs Hs' → RelS X.K F Hs' σ H' ε → Rep X.K Hs' z d → Q' d → Q z H') → r vs H Q
/-- .. that makes a list -/
def CallN (X : Cx) (f : Value) (o : List D → (List D → Prop) → Prop) : Prop := ∃ r, CallR X f r ∧ ∀ (F Hs : Hp) (σ : St) (H : Hp) (ε : PEnv) (vs : List V) (ds : List D) (Q' : List D → Prop) (Q : VK), RelS X.K F Hs σ H ε → RepVs X.K Hs H vs ds → o ds Q' →
  (∀ p ws es, H p = none → Reps X.K Hs ws es → Q' es → Q (.ref p) (upd H p (.lst ws))) → r vs H Q
def yCB (o : OPC) (rs : PTL) : PTE := fun ε Q => rs ε fun ts ε1 => ress ε1 ts fun ds => o ds fun d => Q (.d d) ε1
def ynCB (o : List D → (List D → Prop) → Prop) (rs : PTL) : PTN := fun ε Q => rs ε fun ts ε1 => ress ε1 ts fun ds => o ds fun d => Q d ε1
section
variable {x : Str} {p : Pos} {id ty : String} {rs : PTL}
theorem cb_core {f : Value} {o : OPC} {r : List V → Hp → VK → Prop} {ta : TA} (h : ∀ (F Hs : Hp) (σ : St) (H : Hp) (ε : PEnv) (vs : List V) (ds : List D) (Q' : D → Prop) (Q : VK), RelS X.K F Hs σ H ε → RepVs X.K Hs H vs ds → o ds Q' →
  (∀ z H' Hs' d, Ex Hs Hs' → RelS X.K F Hs' σ H' ε → Rep X.K Hs' z d → Q' d → Q z H') → r vs H Q)
    (ka : ∀ (F Hs : Hp) (σ : St) (H : Hp) (ε : PEnv) (Q' : List T → PEnv → Prop) (Q : List V → Hp → Prop), RelS X.K F Hs σ H ε → Lk X.K F Hs W Ξ → rs ε Q' → KL X.K F Hs σ Q' Q → ta σ H Q)
    (F Hs : Hp) (σ : St) (H : Hp) (ε : PEnv) (Q' : T → PEnv → Prop) (Q : VK) (R : RelS X.K F Hs σ H ε) (L : Lk X.K F Hs W Ξ) (q : yCB o rs ε Q') (k : KE X.K F Hs σ Q' Q) : tCB r ta σ H Q := by
  refine ka F Hs σ H ε _ _ R L q fun vs H1 Hs1 t1 ε1 e1 R1 p1 q1 => ?_
  obtain ⟨ds, rv, q2⟩ := R1.ress p1 q1
  exact h F Hs1 σ H1 ε1 vs ds _ Q R1 rv q2 fun z H' Hs' d e2 R2 p2 q3 => k z H' Hs' (.d d) ε1 (e1.trans e2) R2 p2 q3
theorem ye_callB {o : OPC} (hc : CallY X (.builtin id) o) (hg : Gl X x) (hm : X.mg x = none) (hv : bootBuiltins x = some (.builtin id)) (h : YL X W Ξ (a :: es) rs) (hn : x ≠ "__name__" := by decide) (hdb : (x == ("__debug__" : Str)) = false := by decide)
    (he : starEach (a :: es) X.env = (false, eval a X.env) :: starEach es X.env := by rfl) (hpl : (backTo pos (starEach es X.env)).any (·.1) = false := by rfl) : YE X W Ξ (.Call (.Name x p) (a :: es) [] pos) (yCB o rs) := by
  obtain ⟨r, hr, hh⟩ := hc
  obtain ⟨ts, ps, ks⟩ := h.ex
  exact ⟨_, pe_callB hr hg hm hv ps hn hdb he hpl, cb_core (f := .builtin id) hh ks⟩
theorem ye_callTy {o : OPC} (hc : CallY X (.type ty) o) (hg : Gl X x) (hm : X.mg x = none) (hv : bootBuiltins x = some (.type ty)) (h : YL X W Ξ (a :: es) rs) (hn : x ≠ "__name__" := by decide) (hdb : (x == ("__debug__" : Str)) = false := by decide)
    (he : starEach (a :: es) X.env = (false, eval a X.env) :: starEach es X.env := by rfl) (hpl : (backTo pos (starEach es X.env)).any (·.1) = false := by rfl) : YE X W Ξ (.Call (.Name x p) (a :: es) [] pos) (yCB o rs) := by
  obtain ⟨r, hr, hh⟩ := hc
  obtain ⟨ts, ps, ks⟩ := h.ex
  exact ⟨_, pe_callTy hr hg hm hv ps hn hdb he hpl, cb_core (f := .type ty) hh ks⟩
theorem cn_core {f : Value} {o : List D → (List D → Prop) → Prop} {r : List V → Hp → VK → Prop} {ta : TA} (h : ∀ (F Hs : Hp) (σ : St) (H : Hp) (ε : PEnv) (vs : List V) (ds : List D) (Q' : List D → Prop) (Q : VK), RelS X.K F Hs σ H ε → RepVs X.K Hs H vs ds → o ds Q' →
  (∀ p ws es, H p = none → Reps X.K Hs ws es → Q' es → Q (.ref p) (upd H p (.lst ws))) → r vs H Q)
    (ka : ∀ (F Hs : Hp) (σ : St) (H : Hp) (ε : PEnv) (Q' : List T → PEnv → Prop) (Q : List V → Hp → Prop), RelS X.K F Hs σ H ε → Lk X.K F Hs W Ξ → rs ε Q' → KL X.K F Hs σ Q' Q → ta σ H Q)
    (F Hs : Hp) (σ : St) (H : Hp) (ε : PEnv) (Q' : List D → PEnv → Prop) (Q : VK) (R : RelS X.K F Hs σ H ε) (L : Lk X.K F Hs W Ξ) (q : ynCB o rs ε Q') (k : KN X.K F Hs σ Q' Q) : tCB r ta σ H Q := by
  refine ka F Hs σ H ε _ _ R L q fun vs H1 Hs1 t1 ε1 e1 R1 p1 q1 => ?_
  obtain ⟨ds, rv, q2⟩ := R1.ress p1 q1
  refine h F Hs1 σ H1 ε1 vs ds _ Q R1 rv q2 fun p ws es hp p2 q3 => ?_
  obtain ⟨n1, n2, n3⟩ := R1.nobody hp
  exact k p _ Hs1 ws es ε1 e1 (R1.lay hp) upd_same n1 n2 n3 p2 q3
theorem yn_callB {o : List D → (List D → Prop) → Prop} (hc : CallN X (.builtin id) o) (hg : Gl X x) (hm : X.mg x = none) (hv : bootBuiltins x = some (.builtin id)) (h : YL X W Ξ (a :: es) rs) (hn : x ≠ "__name__" := by decide) (hdb : (x == ("__debug__" : Str)) = false := by decide)
    (he : starEach (a :: es) X.env = (false, eval a X.env) :: starEach es X.env := by rfl) (hpl : (backTo pos (starEach es X.env)).any (·.1) = false := by rfl) : YN X W Ξ (.Call (.Name x p) (a :: es) [] pos) (ynCB o rs) := by
  obtain ⟨r, hr, hh⟩ := hc
  obtain ⟨ts, ps, ks⟩ := h.ex
  exact ⟨_, pe_callB hr hg hm hv ps hn hdb he hpl, cn_core (f := .builtin id) hh ks⟩
theorem yn_callTy {o : List D → (List D → Prop) → Prop} (hc : CallN X (.type ty) o) (hg : Gl X x) (hm : X.mg x = none) (hv : bootBuiltins x = some (.type ty)) (h : YL X W Ξ (a :: es) rs) (hn : x ≠ "__name__" := by decide) (hdb : (x == ("__debug__" : Str)) = false := by decide)
    (he : starEach (a :: es) X.env = (false, eval a X.env) :: starEach es X.env := by rfl) (hpl : (backTo pos (starEach es X.env)).any (·.1) = false := by rfl) : YN X W Ξ (.Call (.Name x p) (a :: es) [] pos) (ynCB o rs) := by
  obtain ⟨r, hr, hh⟩ := hc
  obtain ⟨ts, ps, ks⟩ := h.ex
  exact ⟨_, pe_callTy hr hg hm hv ps hn hdb he hpl, cn_core (f := .type ty) hh ks⟩
end

/-! ### a def's promise by data -/
abbrev Spec := List D → (D → Prop) → (Nat → Prop) → Prop
/-- others' objects stand as they stood -/
def Keeps (Hs H Hs' H' : Hp) : Prop := Ex Hs Hs' ∧ Ex Hs' H' ∧ ∀ p o, H p = some o → Hs p = none → H' p = some o ∧ Hs' p = none
def pSp (K : PySem.W.Frag) (φ : Spec) : Sp := fun vs H Q E => ∃ (Hs : Hp) (ds : List D) (Q' : D → Prop) (E' : Nat → Prop), Ex Hs H ∧ Reps K Hs vs ds ∧ φ ds Q' E' ∧
  (∀ d, Q' d → ∀ v H' Hs', Keeps Hs H Hs' H' → Rep K Hs' v d → Q v H') ∧ (∀ c, E' c → ∀ H' Hs', Keeps Hs H Hs' H' → E (.ref (exA K c)) none H')
/-- the caller's state behind a call -/
theorem RelS.called {K : PySem.W.Frag} {F Hs H Hs' H' : Hp} {σ : St} {ε : PEnv} (R : RelS K F Hs σ H ε) (k : Keeps Hs H Hs' H') : RelS K F Hs' σ H' ε := by
  obtain ⟨k1, k2, k3⟩ := k
  refine ⟨k2, fun p o e => ?_, R.len, fun i s e => ?_, R.ds⟩
  · obtain ⟨h1, h2⟩ := R.fr p o e
    exact k3 p o h1 h2
  · have z := R.sl i s e
    cases s with
    | v d =>
      obtain ⟨v, h1, h2⟩ := z
      exact ⟨v, h1, h2.mono k1⟩
    | o ds =>
      obtain ⟨p, vs, h1, h2, h3, h4, h5⟩ := z
      obtain ⟨g1, g2⟩ := k3 p _ h4 h2
      exact ⟨p, vs, h1, g2, h3, g1, h5.mono k1⟩
    | od ds =>
      obtain ⟨p, vs, h1, h2, h3, h4, h5, h6⟩ := z
      obtain ⟨g1, g2⟩ := k3 p _ h4 h2
      exact ⟨p, vs, h1, g2, h3, g1, h5, h6.mono k1⟩
def yCall (φ : Spec) (Ξ : Xi) (rs : PTL) : PTE := fun ε Q => rs ε fun ts ε1 => outs ε1 ts fun ds ε2 => φ ds (fun d => Q (.d d) ε2) fun c => Ξ c ε2
theorem ye_call {φ : Spec} {rs : PTL} {k : Nat} {f : Addr} {fd : FuncData} {ps : List Str} {x : Str} {p : Pos} (Fn : FnOk X.prog X.w X.K X.mg X.base (L2.CX X.prog X.w) k f fd ps (pSp X.K φ)) (tk : Takes X W) (hr : Room k X.A) (hg : Gl X x)
    (hm : X.mg x = some (.ref f)) (hk : PySem.W.keepIn X.K (.ref f) = true) (hb : Binds X.K fd ps []) (h : YL X W Ξ (a :: es) rs) (hdb : (x == ("__debug__" : Str)) = false := by decide)
    (he : starEach (a :: es) X.env = (false, eval a X.env) :: starEach es X.env := by rfl) (hpl : (backTo pos (starEach es X.env)).any (·.1) = false := by rfl) :
    YE X W Ξ (.Call (.Name x p) (a :: es) [] pos) (yCall φ Ξ rs) := by
  obtain ⟨ts, pas, ks⟩ := h.ex
  refine ⟨_, pe_callS Fn hr hg hm hk hb (fun σ => passAt tk σ) pas hdb he hpl, fun F Hs σ H ε Q' Q R L q k => ks F Hs σ H ε _ _ R L q fun vs H1 Hs1 t1 ε1 e1 R1 p1 q1 => ?_⟩
  obtain ⟨ds, ε2, Hs2, e2, R2, rs, q2⟩ := R1.outs p1 q1
  refine ⟨Hs2, ds, _, _, R2.ex, rs, q2, fun d qd v H' Hs' kp rv => ?_, fun c ec H' Hs' kp => ?_⟩
  · exact k v H' Hs' (.d d) ε2 ((e1.trans e2).trans kp.1) (R2.called kp) rv qd
  · exact L c σ H' Hs' ε2 ec ((e1.trans e2).trans kp.1) (R2.called kp)
end
end PL

set_option Elab.async false
set_option linter.all false
set_option autoImplicit false
set_option maxRecDepth 100000
set_option maxHeartbeats 2000000
/-! Operators, built-ins, subscripts, comprehensions, over plain data. -/
namespace PL
open PySem PySem.Spec PyProof.Rows L2
open Evl (Ex)
section
variable {X : Cx}

def oAdd : OP2
  | .int i, .int j, Q => Q (.int (i + j))
  | .str x, .str y, Q => gd (x.length + y.length ≤ 16777216) (Q (.str (x ++ y)))
  | .lst xs, .lst ys, Q => gd (xs.length + ys.length ≤ 16777216) (Q (.lst (xs ++ ys)))
  | _, _, _ => False
def rAddA : R2 := fun x y H Q => (∃ i j, x = .int i ∧ y = .int j ∧ Q (.int (i + j)) H) ∨ (∃ i j, x = .str i ∧ y = .str j ∧ i.length + j.length ≤ sizeLine ∧ Q (.str (i ++ j)) H) ∨ rCat x y H Q
theorem op_addA : OpR X (binaryOp .Add) rAddA := op_add.or (op_add_str.or op_cat)
theorem oy_add : OpY X (binaryOp .Add) oAdd := by
  refine ⟨_, op_addA, fun F Hs σ H ε v w d1 d2 Q' Q R r1 r2 q k => ?_⟩
  unfold oAdd at q
  split at q
  · exact .inl ⟨_, _, r1.int', r2.int', k _ H Hs _ (Evl.Ex.refl _) R (.int _) q⟩
  · have q := gd_elim q
    exact .inr (.inl ⟨_, _, r1.str', r2.str', line_le q.1, k _ H Hs _ (Evl.Ex.refl _) R (.str _) q.2⟩)
  · have q := gd_elim q
    obtain ⟨a, vs, e1, h1, p1⟩ := r1.lst' R.ex
    obtain ⟨b, ws, e2, h2, p2⟩ := r2.lst' R.ex
    refine .inr (.inr ⟨a, b, vs, ws, e1, e2, h1, h2, by rw [p1.len, p2.len]; exact line_le q.1, fun p hp => ?_⟩)
    obtain ⟨R3, e3⟩ := R.new (o := .lst (vs ++ ws)) hp
    exact k (.ref p) _ _ _ e3 R3 (.lst upd_same ((p1.append p2).mono e3)) q.2
  · exact q.elim
def catQ (d1 d2 : D) (Q : List D → Prop) : Prop := match d1, d2 with
  | .lst xs, .lst ys => gd (xs.length + ys.length ≤ 16777216) (Q (xs ++ ys))
  | _, _ => False
theorem catQ_elim {d1 d2 : D} {Q : List D → Prop} (h : catQ d1 d2 Q) : ∃ xs ys, d1 = .lst xs ∧ d2 = .lst ys ∧ xs.length + ys.length ≤ 16777216 ∧ Q (xs ++ ys) := by
  unfold catQ at h
  split at h
  · exact ⟨_, _, rfl, rfl, gd_elim h⟩
  · exact h.elim
/-- a + b, a new list that a name takes -/
def ynAdd (ra rb : PTE) : PTN := fun ε Q => ra ε fun t1 ε1 => rb ε1 fun t2 ε2 => res ε2 t1 fun d1 => res ε2 t2 fun d2 => catQ d1 d2 fun ds => Q ds ε2
theorem yn_add {W : WX} {Ξ : Xi} {a b : Expr} {pos : Pos} {ra rb : PTE} (ha : YE X W Ξ a ra) (hb : YE X W Ξ b rb) : YN X W Ξ (.BinOp a .Add b pos) (ynAdd ra rb) := by
  obtain ⟨ta, pa, ka⟩ := ha.ex
  obtain ⟨tb, pb, kb⟩ := hb.ex
  refine ⟨_, pe_op op_cat pa pb, fun F Hs σ H ε Q' Q R L q k => ?_⟩
  refine ka F Hs σ H ε _ _ R L q fun v H1 Hs1 t1 ε1 e1 R1 p1 q1 => ?_
  refine kb F Hs1 σ H1 ε1 _ _ R1 (L.mono e1) q1 fun w H2 Hs2 t2 ε2 e2 R2 p2 q2 => ?_
  obtain ⟨d1, v1, q3⟩ := R2.res (p1.mono e2) q2
  obtain ⟨d2, v2, q4⟩ := R2.res p2 q3
  obtain ⟨xs, ys, rfl, rfl, hl, q4⟩ := catQ_elim q4
  obtain ⟨a, vs, g1, h1, p1⟩ := v1.lst' R2.ex
  obtain ⟨b, ws, g2, h2, p2⟩ := v2.lst' R2.ex
  refine ⟨a, b, vs, ws, g1, g2, h1, h2, by rw [p1.len, p2.len]; exact line_le hl, fun p hp => ?_⟩
  obtain ⟨n1, n2, n3⟩ := R2.nobody hp
  exact k p _ Hs2 _ _ ε2 (e1.trans e2) (R2.lay hp) upd_same n1 n2 n3 (p1.append p2) q4
def oSub : OP2
  | .int i, .int j, Q => Q (.int (i - j))
  | _, _, _ => False
theorem oy_sub : OpY X (binaryOp .Sub) oSub := by
  refine ⟨_, op_sub, fun F Hs σ H ε v w d1 d2 Q' Q R r1 r2 q k => ?_⟩
  unfold oSub at q
  split at q
  · exact ⟨_, _, r1.int', r2.int', k _ H Hs _ (Evl.Ex.refl _) R (.int _) q⟩
  · exact q.elim
def oMul : OP2
  | .int i, .int j, Q => gd ((-18446744073709551616 < i ∧ i < 18446744073709551616) ∨ (-18446744073709551616 < j ∧ j < 18446744073709551616)) (Q (.int (i * j)))
  | .lst xs, .int k, Q => gd (-9223372036854775808 ≤ k ∧ k < 9223372036854775808 ∧ xs.length * k.toNat ≤ 16777216) (Q (.lst (List.replicate k.toNat xs).flatten))
  | _, _, _ => False
theorem Reps.rep {K : PySem.W.Frag} {H : Hp} {vs : List V} {ds : List D} (h : Reps K H vs ds) : ∀ k : Nat, Reps K H (List.replicate k vs).flatten (List.replicate k ds).flatten
  | 0 => .nil
  | k + 1 => by
    rw [List.replicate_succ, List.flatten_cons, List.replicate_succ, List.flatten_cons]
    exact h.append (Reps.rep h k)
theorem oy_mul : OpY X (binaryOp .Mult) oMul := by
  refine ⟨_, op_mul.or op_rep, fun F Hs σ H ε v w d1 d2 Q' Q R r1 r2 q k => ?_⟩
  unfold oMul at q
  split at q
  · have q := gd_elim q
    refine .inl ⟨_, _, r1.int', r2.int', ?_, k _ H Hs _ (Evl.Ex.refl _) R (.int _) q.2⟩
    exact q.1
  · have q := gd_elim q
    obtain ⟨a, vs, e1, h1, p1⟩ := r1.lst' R.ex
    refine .inr ⟨a, _, vs, e1, r2.int', h1, q.1.1, q.1.2.1, by rw [p1.len]; exact line_le q.1.2.2, fun p hp => ?_⟩
    obtain ⟨R3, e3⟩ := R.new (o := .lst (List.replicate (Int.toNat _) vs).flatten) hp
    exact k (.ref p) _ _ _ e3 R3 (.lst upd_same ((p1.rep _).mono e3)) q.2
  · exact q.elim
def oMod : OP2
  | .int i, .int j, Q => gd (0 < j) (Q (.int (i % j)))
  | _, _, _ => False
theorem oy_mod : OpY X (binaryOp .Mod) oMod := by
  refine ⟨_, op_mod, fun F Hs σ H ε v w d1 d2 Q' Q R r1 r2 q k => ?_⟩
  unfold oMod at q
  split at q
  · have q := gd_elim q
    exact ⟨_, _, r1.int', r2.int', q.1, k _ H Hs _ (Evl.Ex.refl _) R (.int _) q.2⟩
  · exact q.elim
def oFdiv : OP2
  | .int i, .int j, Q => gd (0 < j ∧ j < 1073741824) (Q (.int (i / j)))
  | _, _, _ => False
theorem oy_fdiv : OpY X (binaryOp .FloorDiv) oFdiv := by
  refine ⟨_, op_fdiv, fun F Hs σ H ε v w d1 d2 Q' Q R r1 r2 q k => ?_⟩
  unfold oFdiv at q
  split at q
  · have q := gd_elim q
    exact ⟨_, _, r1.int', r2.int', q.1, k _ H Hs _ (Evl.Ex.refl _) R (.int _) q.2⟩
  · exact q.elim
def oPow : OP2
  | .int i, .int j, Q => gd (0 ≤ j ∧ j ≤ 1000000 ∧ i.natAbs < 18446744073709551616) (Q (.int (i ^ j.toNat)))
  | _, _, _ => False
theorem oy_pow : OpY X (binaryOp .Pow) oPow := by
  refine ⟨_, op_pow, fun F Hs σ H ε v w d1 d2 Q' Q R r1 r2 q k => ?_⟩
  unfold oPow at q
  split at q
  · have q := gd_elim q
    exact ⟨_, _, r1.int', r2.int', q.1, k _ H Hs _ (Evl.Ex.refl _) R (.int _) q.2⟩
  · exact q.elim
def asI (Q : Int → Prop) : D → Prop
  | .int i => Q i
  | _ => False
theorem asI_elim {d : D} {Q : Int → Prop} (h : asI Q d) : ∃ i, d = .int i ∧ Q i := by
  cases d with
  | int i => exact ⟨i, rfl, h⟩
  | _ => exact h.elim
def yNeg (r : PTE) : PTE := fun ε Q => r ε fun t ε' => res ε' t (asI fun i => Q (.d (.int (-i))) ε')
theorem ye_neg {W : WX} {Ξ : Xi} {a : Expr} {pos : Pos} {r : PTE} (h : YE X W Ξ a r) : YE X W Ξ (.UnaryOp .USub a pos) (yNeg r) := by
  obtain ⟨t, p, k⟩ := h.ex
  refine ⟨_, pe_un un_neg p, fun F Hs σ H ε Q' Q R L q kk => k F Hs σ H ε _ _ R L q fun v H' Hs' t ε' e R' p' q' => ?_⟩
  obtain ⟨d, rv, q2⟩ := R'.res p' q'
  obtain ⟨i, rfl, q2⟩ := asI_elim q2
  exact ⟨i, rv.int', kk (.int (-i)) H' Hs' (.d (.int (-i))) ε' e R' (.int _) q2⟩

/-! ### comparisons -/
def oCmpI (f : Int → Int → Bool) : OP2
  | .int i, .int j, Q => Q (.bl (f i j))
  | _, _, _ => False
abbrev oLt : OP2 := oCmpI fun i j => decide (i < j)
abbrev oLe : OP2 := oCmpI fun i j => decide (i ≤ j)
abbrev oGt : OP2 := oCmpI fun i j => decide (j < i)
abbrev oGe : OP2 := oCmpI fun i j => decide (j ≤ i)
theorem oy_cmp {op : CmpOp} {f : Int → Int → Bool} (h : OpR X (compareOp op) (rI0 fun i j => .bl (f i j))) : OpY X (compareOp op) (oCmpI f) := by
  refine ⟨_, h, fun F Hs σ H ε v w d1 d2 Q' Q R r1 r2 q k => ?_⟩
  unfold oCmpI at q
  split at q
  · exact ⟨_, _, r1.int', r2.int', k _ H Hs _ (Evl.Ex.refl _) R (.bl _) q⟩
  · exact q.elim
theorem oy_lt : OpY X (compareOp .Lt) oLt := oy_cmp op_lt
theorem oy_le : OpY X (compareOp .LtE) oLe := oy_cmp op_le
theorem oy_gt : OpY X (compareOp .Gt) oGt := oy_cmp op_gt
theorem oy_ge : OpY X (compareOp .GtE) oGe := oy_cmp op_ge
/-- is None -/
def isNon : D → Bool
  | .non => true
  | _ => false
def knownB : D → Bool
  | .vl _ => false
  | _ => true
def known (d : D) : Prop := knownB d = true
def oIsN (neg : Bool) : OP2
  | d, .non, Q => match knownB d with
    | true => Q (.bl (match neg with
      | true => !isNon d
      | false => isNon d))
    | false => False
  | _, _, _ => False
theorem isN_rep {K : PySem.W.Frag} {Hs H : Hp} {v : V} {d : D} (h : RepV K Hs H v d) (hk : known d) : decide (v = .non) = isNon d := by
  cases h with
  | sc h => cases h <;> first | rfl | cases hk
  | lst _ _ => rfl
  | dic _ _ _ => rfl
theorem oy_isN : OpY X (compareOp .Is) (oIsN false) := by
  refine ⟨_, op_isN, fun F Hs σ H ε v w d1 d2 Q' Q R r1 r2 q k => ?_⟩
  unfold oIsN at q
  split at q
  · refine ⟨r2.non', ?_⟩
    split at q
    · rename_i hk
      rw [isN_rep r1 hk]
      exact k _ H Hs _ (Evl.Ex.refl _) R (.bl _) q
    · exact q.elim
  · exact q.elim
theorem oy_notN : OpY X (compareOp .IsNot) (oIsN true) := by
  refine ⟨_, op_notN, fun F Hs σ H ε v w d1 d2 Q' Q R r1 r2 q k => ?_⟩
  unfold oIsN at q
  split at q
  · refine ⟨r2.non', ?_⟩
    split at q
    · rename_i hk
      rw [isN_rep r1 hk]
      exact k _ H Hs _ (Evl.Ex.refl _) R (.bl _) q
    · exact q.elim
  · exact q.elim

mutual
def D.py : D → PyData
  | .non => .none
  | .bl b => .bool b
  | .int i => .int i
  | .str x => .str x
  | .lst xs => .list (D.pys xs)
  | .frl xs => .list (D.pys xs)
  | .tup xs => .tuple (D.pys xs)
  | _ => .dict []
def D.pys : List D → List PyData
  | [] => []
  | d :: ds => D.py d :: D.pys ds
end
section
variable {K : PySem.W.Frag} {H : Hp}
mutual
theorem Rep.dp : ∀ {v : V} {d : D}, Rep K H v d → (D.py d).canLay0 = true → Dp K H v (D.py d)
  | _, _, .non, _ => .non
  | _, _, .bl b, _ => .bl b
  | _, _, .int i, _ => .int i
  | _, _, .str x, _ => .str x
  | _, _, .lst h r, c => .lst (SqL.of h) (Reps.dp r c)
  | _, _, .frl h r, c => .lst h.sq (Reps.dp r c)
  | _, _, .tup h r, c => .tup h (Reps.dp r c)
theorem Reps.dp : ∀ {vs : List V} {ds : List D}, Reps K H vs ds → PyData.canLayAll0 (D.pys ds) = true → DpAll K H vs (D.pys ds)
  | _, _, .nil, _ => .nil
  | _, _, .cons r t, c => .cons (Rep.dp r (Bool.and_eq_true_iff.mp c).1) (Reps.dp t (Bool.and_eq_true_iff.mp c).2)
end
end
theorem RepV.dp {K : PySem.W.Frag} {Hs H : Hp} {v : V} {d : D} (h : RepV K Hs H v d) (ex : Ex Hs H) (c : (D.py d).canLay0 = true) : Dp K H v (D.py d) := by
  cases h with
  | sc h => exact Rep.dp (h.mono ex) c
  | lst h r => exact .lst (SqL.of h) (Reps.dp (r.mono ex) c)
  | dic h _ _ => cases c
/-- == -/
def eqD (d1 d2 : D) (Q : Bool → Prop) : Prop := match d1, d2 with
  | .int i, .int j => Q (decide (i = j))
  | .str x, .str y => Q (decide (x = y))
  | .bl x, .bl y => Q (decide (x = y))
  | .non, .non => Q true
  | .non, .int _ => Q false
  | .int _, .non => Q false
  | .non, .bl _ => Q false
  | .bl _, .non => Q false
  | .non, .str _ => Q false
  | .str _, .non => Q false
  | .int _, .str _ => Q false
  | .str _, .int _ => Q false
  | .bl _, .str _ => Q false
  | .str _, .bl _ => Q false
  | d1, d2 => gd (SeqAt.shaped (D.py d1) = true ∧ SeqAt.shaped (D.py d2) = true) (Q (PyData.eqv (D.py d1) (D.py d2)))
def oEq (neg : Bool) : OP2 := fun d1 d2 Q => eqD d1 d2 fun b => Q (.bl (match neg with
  | true => !b
  | false => b))
def rEqA (K : PySem.W.Frag) : R2 := fun x y H Q => rEq x y H Q ∨ rEqD K x y H Q
def rNeA (K : PySem.W.Frag) : R2 := fun x y H Q => rNe x y H Q ∨ rNeD K x y H Q
theorem eqD_core {K : PySem.W.Frag} {F Hs H : Hp} {σ : St} {ε : PEnv} {v w : V} {d1 d2 : D} {Q : Bool → Prop} (R : RelS K F Hs σ H ε) (r1 : RepV K Hs H v d1) (r2 : RepV K Hs H w d2) (q : eqD d1 d2 Q) :
    (scal v w = true ∧ Q (decide (v = w))) ∨ ∃ d e, Dp K H v d ∧ Dp K H w e ∧ SeqAt.shaped d = true ∧ SeqAt.shaped e = true ∧ Q (PyData.eqv d e) := by
  unfold eqD at q
  split at q
  · refine .inl ?_; rw [r1.int', r2.int']; refine ⟨rfl, ?_⟩; simpa using q
  · refine .inl ?_; rw [r1.str', r2.str']; refine ⟨rfl, ?_⟩; simpa using q
  · refine .inl ?_; rw [r1.bl', r2.bl']; refine ⟨rfl, ?_⟩; simpa using q
  · refine .inl ?_; rw [r1.non', r2.non']; exact ⟨rfl, q⟩
  · refine .inl ?_; rw [r1.non', r2.int']; exact ⟨rfl, q⟩
  · refine .inl ?_; rw [r1.int', r2.non']; exact ⟨rfl, q⟩
  · refine .inl ?_; rw [r1.non', r2.bl']; exact ⟨rfl, q⟩
  · refine .inl ?_; rw [r1.bl', r2.non']; exact ⟨rfl, q⟩
  · refine .inl ?_; rw [r1.non', r2.str']; exact ⟨rfl, q⟩
  · refine .inl ?_; rw [r1.str', r2.non']; exact ⟨rfl, q⟩
  · refine .inl ?_; rw [r1.int', r2.str']; exact ⟨rfl, q⟩
  · refine .inl ?_; rw [r1.str', r2.int']; exact ⟨rfl, q⟩
  · refine .inl ?_; rw [r1.bl', r2.str']; exact ⟨rfl, q⟩
  · refine .inl ?_; rw [r1.str', r2.bl']; exact ⟨rfl, q⟩
  · have q := gd_elim q
    exact .inr ⟨_, _, r1.dp R.ex (SeqAt.canLay_of_shaped q.1.1), r2.dp R.ex (SeqAt.canLay_of_shaped q.1.2), q.1.1, q.1.2, q.2⟩
theorem oy_eq (hu : X.A.units + 64 < cLine) : OpY X (compareOp .Eq) (oEq false) := by
  refine ⟨rEqA X.K, op_eq.or (op_eqD hu), fun F Hs σ H ε v w d1 d2 Q' Q R r1 r2 q k => ?_⟩
  rcases eqD_core R r1 r2 q with ⟨h1, h2⟩ | ⟨d, e, h1, h2, h3, h4, h5⟩
  · exact .inl ⟨h1, k _ H Hs _ (Evl.Ex.refl _) R (.bl _) h2⟩
  · exact .inr ⟨d, e, h1, h2, h3, h4, k _ H Hs _ (Evl.Ex.refl _) R (.bl _) h5⟩
theorem oy_ne (hu : X.A.units + 64 < cLine) : OpY X (compareOp .NotEq) (oEq true) := by
  refine ⟨rNeA X.K, op_ne.or (op_neD hu), fun F Hs σ H ε v w d1 d2 Q' Q R r1 r2 q k => ?_⟩
  rcases eqD_core R r1 r2 q with ⟨h1, h2⟩ | ⟨d, e, h1, h2, h3, h4, h5⟩
  · exact .inl ⟨h1, k _ H Hs _ (Evl.Ex.refl _) R (.bl _) h2⟩
  · exact .inr ⟨d, e, h1, h2, h3, h4, k _ H Hs _ (Evl.Ex.refl _) R (.bl _) h5⟩

/-! ### subscripts -/
def oIx : OP2
  | .lst xs, .int i, Q => opt (atI xs i) Q
  | .frl xs, .int i, Q => opt (atI xs i) Q
  | .tup xs, .int i, Q => opt (atI xs i) Q
  | .str x, .int i, Q => gd (x.length ≤ 16777216) (opt (atI x.cps.toList i) fun c => Q (.str ⟨#[c]⟩))
  | _, _, _ => False
theorem Reps.atI {K : PySem.W.Frag} {H : Hp} {vs : List V} {ds : List D} {i : Int} {d : D} (r : Reps K H vs ds) (h : L2.atI ds i = some d) : ∃ v, L2.atI vs i = some v ∧ Rep K H v d := by
  unfold L2.atI at h ⊢
  rw [r.len]
  cases e : ixN ds.length i with
  | none => rw [e] at h; cases h
  | some j =>
    rw [e] at h
    exact r.get (i := j) h
def yIx (ra rb : PTE) : PTE := yBin oIx ra rb
theorem ye_ix {W : WX} {Ξ : Xi} {a b : Expr} {pos : Pos} {ra rb : PTE} (ha : YE X W Ξ a ra) (hb : YE X W Ξ b rb) (hs : PlainIx b := by exact fun _ _ => rfl) : YE X W Ξ (.Subscript a b pos) (yIx ra rb) := by
  obtain ⟨ta, pa, ka⟩ := ha.ex
  obtain ⟨tb, pb, kb⟩ := hb.ex
  refine ⟨_, pe_ix ix_seq pa pb hs, fun F Hs σ H ε Q' Q R L q k => ?_⟩
  refine ka F Hs σ H ε _ _ R L q fun v H1 Hs1 t1 ε1 e1 R1 p1 q1 => ?_
  refine kb F Hs1 σ H1 ε1 _ _ R1 (L.mono e1) q1 fun w H2 Hs2 t2 ε2 e2 R2 p2 q2 => ?_
  obtain ⟨d1, v1, q3⟩ := R2.res (p1.mono e2) q2
  obtain ⟨d2, v2, q4⟩ := R2.res p2 q3
  unfold oIx at q4
  split at q4
  · obtain ⟨d, hd, q5⟩ := opt_elim q4
    obtain ⟨a, vs, g1, h1, p1⟩ := v1.lst' R2.ex
    obtain ⟨z, hz, rz⟩ := p1.atI hd
    exact .inl ⟨a, vs, _, z, g1, v2.int', SqL.of h1, hz, k z H2 Hs2 (.d d) ε2 (e1.trans e2) R2 rz q5⟩
  · obtain ⟨d, hd, q5⟩ := opt_elim q4
    obtain ⟨a, vs, g1, h1, p1⟩ := v1.frl' R2.ex
    obtain ⟨z, hz, rz⟩ := p1.atI hd
    exact .inl ⟨a, vs, _, z, g1, v2.int', h1, hz, k z H2 Hs2 (.d d) ε2 (e1.trans e2) R2 rz q5⟩
  · obtain ⟨d, hd, q5⟩ := opt_elim q4
    obtain ⟨a, vs, g1, h1, p1⟩ := v1.tup' R2.ex
    obtain ⟨z, hz, rz⟩ := p1.atI hd
    exact .inr (.inl ⟨a, vs, _, z, g1, v2.int', h1, hz, k z H2 Hs2 (.d d) ε2 (e1.trans e2) R2 rz q5⟩)
  · obtain ⟨hl, q4⟩ := gd_elim q4
    obtain ⟨c, hc, q5⟩ := opt_elim q4
    exact .inr (.inr ⟨_, _, c, v1.str', v2.int', line_le hl, hc, k _ H2 Hs2 (.d _) ε2 (e1.trans e2) R2 (.str _) q5⟩)
  · exact q4.elim
/-- an optional part of a slice -/
abbrev PTO := PEnv → (Option Int → PEnv → Prop) → Prop
structure YO (X : Cx) (W : WX) (Ξ : Xi) (e : Option Expr) (r : PTO) : Prop where
  ex : ∃ t, PO X e t ∧ ∀ (F Hs : Hp) (σ : St) (H : Hp) (ε : PEnv) (Q' : Option Int → PEnv → Prop) (Q : Option Int → Hp → Prop), RelS X.K F Hs σ H ε → Lk X.K F Hs W Ξ → r ε Q' →
    (∀ o H' Hs' ε', Ex Hs Hs' → RelS X.K F Hs' σ H' ε' → Q' o ε' → Q o H') → t σ H Q
def yoNone : PTO := fun ε Q => Q none ε
def yoSome (r : PTE) : PTO := fun ε Q => r ε fun t ε' => res ε' t (asI fun i => Q (some i) ε')
theorem yo_none {W : WX} {Ξ : Xi} : YO X W Ξ none yoNone := ⟨tNoPart, po_none, fun F Hs σ H ε Q' Q R _ q k => k none H Hs ε (Evl.Ex.refl _) R q⟩
theorem yo_some {W : WX} {Ξ : Xi} {a : Expr} {r : PTE} (h : YE X W Ξ a r) : YO X W Ξ (some a) (yoSome r) := by
  obtain ⟨t, p, k⟩ := h.ex
  refine ⟨_, po_some p, fun F Hs σ H ε Q' Q R L q kk => k F Hs σ H ε _ _ R L q fun v H' Hs' t ε' e R' p' q' => ?_⟩
  obtain ⟨d, rv, q2⟩ := R'.res p' q'
  cases d with
  | int i => exact ⟨i, rv.int', kk (some i) H' Hs' ε' e R' q2⟩
  | _ => exact False.elim q2
def cutD {α : Type} (xs : List α) (lo hi : Option Int) : List α := (xs.drop (HT.sIx xs.length 0 lo)).take (HT.sIx xs.length xs.length hi - HT.sIx xs.length 0 lo)
theorem Reps.cut {K : PySem.W.Frag} {H : Hp} {vs : List V} {ds : List D} (r : Reps K H vs ds) (lo hi : Option Int) : Reps K H (cutV vs lo hi) (cutD ds lo hi) := by
  unfold cutV cutD
  rw [r.len]
  exact (r.drop _).take _
def asL (Q : List D → Prop) : D → Prop
  | .lst xs => Q xs
  | _ => False
theorem asL_elim {d : D} {Q : List D → Prop} (h : asL Q d) : ∃ i, d = .lst i ∧ Q i := by
  cases d with
  | lst i => exact ⟨i, rfl, h⟩
  | _ => exact h.elim
/-- xs[a:b], a list -/
def ynSl (ra : PTE) (rl rh : PTO) : PTN := fun ε Q => ra ε fun t ε1 => rl ε1 fun lo ε2 => rh ε2 fun hi ε3 => res ε3 t (asL fun xs => Q (cutD xs lo hi) ε3)
theorem yn_sl {W : WX} {Ξ : Xi} {a : Expr} {lo hi : Option Expr} {pos p2 : Pos} {ra : PTE} {rl rh : PTO} (ha : YE X W Ξ a ra) (hl : YO X W Ξ lo rl) (hh : YO X W Ξ hi rh) : YN X W Ξ (.Subscript a (.Slice lo hi none p2) pos) (ynSl ra rl rh) := by
  obtain ⟨ta, pa, ka⟩ := ha.ex
  obtain ⟨tl, pl, kl⟩ := hl.ex
  obtain ⟨th, ph, kh⟩ := hh.ex
  refine ⟨_, pe_slice sl_list pa pl ph, fun F Hs σ H ε Q' Q R L q k => ?_⟩
  refine ka F Hs σ H ε _ _ R L q fun v H1 Hs1 t1 ε1 e1 R1 p1 q1 => ?_
  refine kl F Hs1 σ H1 ε1 _ _ R1 (L.mono e1) q1 fun l H2 Hs2 ε2 e2 R2 q2 => ?_
  refine kh F Hs2 σ H2 ε2 _ _ R2 (L.mono (e1.trans e2)) q2 fun h H3 Hs3 ε3 e3 R3 q3 => ?_
  obtain ⟨d, v1, q4⟩ := R3.res (p1.mono (e2.trans e3)) q3
  obtain ⟨xs, rfl, q4⟩ := asL_elim q4
  obtain ⟨a, vs, g1, h1, p1⟩ := v1.lst' R3.ex
  refine ⟨a, vs, g1, SqL.of h1, fun p hp => ?_⟩
  obtain ⟨n1, n2, n3⟩ := R3.nobody hp
  exact k p _ Hs3 _ _ ε3 ((e1.trans e2).trans e3) (R3.lay hp) upd_same n1 n2 n3 (p1.cut l h) q4

/-! ### built-ins -/
def oLen : OPC
  | [.lst xs], Q => Q (.int (xs.length : Nat))
  | [.frl xs], Q => Q (.int (xs.length : Nat))
  | [.tup xs], Q => Q (.int (xs.length : Nat))
  | [.str x], Q => gd (x.length ≤ 16777216) (Q (.int (x.length : Nat)))
  | _, _ => False
theorem RepVs.one {K : PySem.W.Frag} {Hs H : Hp} {vs : List V} {d : D} (h : RepVs K Hs H vs [d]) : ∃ v, vs = [v] ∧ RepV K Hs H v d := by
  cases h with
  | cons h t => cases t; exact ⟨_, rfl, h⟩
theorem RepVs.two {K : PySem.W.Frag} {Hs H : Hp} {vs : List V} {d e : D} (h : RepVs K Hs H vs [d, e]) : ∃ v w, vs = [v, w] ∧ RepV K Hs H v d ∧ RepV K Hs H w e := by
  cases h with
  | cons h t =>
    obtain ⟨w, rfl, r⟩ := t.one
    exact ⟨_, _, rfl, h, r⟩
theorem cy_len : CallY X (.builtin "len") oLen := by
  refine ⟨_, call_len, fun F Hs σ H ε vs ds Q' Q R r q k => ?_⟩
  unfold oLen at q
  split at q
  · obtain ⟨v, rfl, rv⟩ := r.one
    obtain ⟨a, ws, g1, h1, p1⟩ := rv.lst' R.ex
    subst g1
    exact ⟨_, ws.length, rfl, .inl ⟨ws, SqL.of h1, rfl⟩, by rw [p1.len]; exact k _ H Hs _ (Evl.Ex.refl _) R (.int _) q⟩
  · obtain ⟨v, rfl, rv⟩ := r.one
    obtain ⟨a, ws, g1, h1, p1⟩ := rv.frl' R.ex
    subst g1
    exact ⟨_, ws.length, rfl, .inl ⟨ws, h1, rfl⟩, by rw [p1.len]; exact k _ H Hs _ (Evl.Ex.refl _) R (.int _) q⟩
  · obtain ⟨v, rfl, rv⟩ := r.one
    obtain ⟨a, ws, g1, h1, p1⟩ := rv.tup' R.ex
    subst g1
    exact ⟨_, ws.length, rfl, .inr ⟨ws, h1, rfl⟩, by rw [p1.len]; exact k _ H Hs _ (Evl.Ex.refl _) R (.int _) q⟩
  · obtain ⟨v, rfl, rv⟩ := r.one
    have q := gd_elim q
    exact ⟨_, _, rfl, by rw [rv.str']; exact ⟨line_le q.1, rfl⟩, k _ H Hs _ (Evl.Ex.refl _) R (.int _) q.2⟩
  · exact q.elim
def oInt : OPC
  | [.int i], Q => Q (.int i)
  | [.bl b], Q => Q (.int (if b = true then 1 else 0))
  | _, _ => False
theorem cy_int : CallY X (.type "int") oInt := by
  refine ⟨_, call_int1, fun F Hs σ H ε vs ds Q' Q R r q k => ?_⟩
  unfold oInt at q
  split at q
  · obtain ⟨v, rfl, rv⟩ := r.one
    exact .inl ⟨_, by rw [rv.int'], k _ H Hs _ (Evl.Ex.refl _) R (.int _) q⟩
  · obtain ⟨v, rfl, rv⟩ := r.one
    exact .inr ⟨_, by rw [rv.bl'], k _ H Hs _ (Evl.Ex.refl _) R (.int _) q⟩
  · exact q.elim
def oMax2 : OPC
  | [.int i, .int j], Q => Q (.int (if j > i then j else i))
  | _, _ => False
theorem cy_max2 (hc : X.calm = true) : CallY X (.builtin "max") oMax2 := by
  refine ⟨_, call_max2 hc, fun F Hs σ H ε vs ds Q' Q R r q k => ?_⟩
  unfold oMax2 at q
  split at q
  · obtain ⟨v, w, rfl, rv, rw'⟩ := r.two
    exact ⟨_, _, by rw [rv.int', rw'.int'], k _ H Hs _ (Evl.Ex.refl _) R (.int _) q⟩
  · exact q.elim
def oMin2 : OPC
  | [.int i, .int j], Q => Q (.int (if j < i then j else i))
  | _, _ => False
theorem cy_min2 (hc : X.calm = true) : CallY X (.builtin "min") oMin2 := by
  refine ⟨_, call_min2 hc, fun F Hs σ H ε vs ds Q' Q R r q k => ?_⟩
  unfold oMin2 at q
  split at q
  · obtain ⟨v, w, rfl, rv, rw'⟩ := r.two
    exact ⟨_, _, by rw [rv.int', rw'.int'], k _ H Hs _ (Evl.Ex.refl _) R (.int _) q⟩
  · exact q.elim
def toInts : List D → Option (List Int)
  | [] => some []
  | .int i :: ds => match toInts ds with
    | some is => some (i :: is)
    | none => none
  | _ :: _ => none
theorem toInts_map : ∀ ns : List Int, toInts (ns.map D.int) = some ns
  | [] => rfl
  | n :: ns => by
    show (match toInts (ns.map D.int) with
      | some is => some (n :: is)
      | none => none) = some (n :: ns)
    rw [toInts_map ns]
theorem toInts_elim : ∀ {ds : List D} {ns : List Int}, toInts ds = some ns → ds = ns.map D.int
  | [], ns, h => by cases h; rfl
  | d :: ds, ns, h => by
    unfold toInts at h
    split at h
    · rename_i e
      cases e
    · rename_i i es e
      injection e with e1 e2
      subst e1 e2
      split at h
      · rename_i is e
        cases h
        rw [toInts_elim e] <;> rfl
      · cases h
    · cases h
def toBls : List D → Option (List Bool)
  | [] => some []
  | .bl i :: ds => match toBls ds with
    | some is => some (i :: is)
    | none => none
  | _ :: _ => none
theorem toBls_map : ∀ ns : List Bool, toBls (ns.map D.bl) = some ns
  | [] => rfl
  | n :: ns => by
    show (match toBls (ns.map D.bl) with
      | some is => some (n :: is)
      | none => none) = some (n :: ns)
    rw [toBls_map ns]
theorem toBls_elim : ∀ {ds : List D} {ns : List Bool}, toBls ds = some ns → ds = ns.map D.bl
  | [], ns, h => by cases h; rfl
  | d :: ds, ns, h => by
    unfold toBls at h
    split at h
    · rename_i e
      cases e
    · rename_i i es e
      injection e with e1 e2
      subst e1 e2
      split at h
      · rename_i is e
        cases h
        rw [toBls_elim e] <;> rfl
      · cases h
    · cases h
/-- of a list of ints -/
def ints1 (f : List Int → Prop) : List D → Prop
  | [.lst ds] => opt (toInts ds) f
  | _ => False
theorem ints1_core {K : PySem.W.Frag} {F Hs H : Hp} {σ : St} {ε : PEnv} {vs : List V} {ds : List D} {f : List Int → Prop} (R : RelS K F Hs σ H ε) (r : RepVs K Hs H vs ds) (q : ints1 f ds) : ∃ a ns, vs = [.ref a] ∧ SqL K H a (ns.map V.int) ∧ f ns := by
  unfold ints1 at q
  split at q
  · obtain ⟨ns, e0, q2⟩ := opt_elim q
    have e0 := toInts_elim e0
    subst e0
    obtain ⟨v, rfl, rv⟩ := r.one
    obtain ⟨a, ws, g1, h1, p1⟩ := rv.lst' R.ex
    subst g1
    have e := p1.inv_ints
    subst e
    exact ⟨a, ns, rfl, SqL.of h1, q2⟩
  · exact q.elim
def oSum : OPC := fun ds Q => ints1 (fun ns => Q (.int ns.sum)) ds
theorem cy_sum (hc : X.calm = true) : CallY X (.builtin "sum") oSum := by
  refine ⟨_, cr_sum hc, fun F Hs σ H ε vs ds Q' Q R r q k => ?_⟩
  obtain ⟨a, ns, rfl, h1, q⟩ := ints1_core R r q
  exact ⟨a, ns, rfl, h1, k _ H Hs _ (Evl.Ex.refl _) R (.int _) q⟩
def oMaxL : OPC := fun ds Q => ints1 (fun ns => 0 < ns.length ∧ ∀ m, m ∈ ns → (∀ y, y ∈ ns → y ≤ m) → Q (.int m)) ds
theorem cy_maxL (hc : X.calm = true) : CallY X (.builtin "max") oMaxL := by
  refine ⟨_, cr_max hc, fun F Hs σ H ε vs ds Q' Q R r q k => ?_⟩
  obtain ⟨a, ns, rfl, h1, q0, q⟩ := ints1_core R r q
  exact ⟨a, ns, rfl, h1, q0, fun m h2 h3 => k _ H Hs _ (Evl.Ex.refl _) R (.int _) (q m h2 h3)⟩
def oMinL : OPC := fun ds Q => ints1 (fun ns => 0 < ns.length ∧ ∀ m, m ∈ ns → (∀ y, y ∈ ns → m ≤ y) → Q (.int m)) ds
theorem cy_minL (hc : X.calm = true) : CallY X (.builtin "min") oMinL := by
  refine ⟨_, cr_min hc, fun F Hs σ H ε vs ds Q' Q R r q k => ?_⟩
  obtain ⟨a, ns, rfl, h1, q0, q⟩ := ints1_core R r q
  exact ⟨a, ns, rfl, h1, q0, fun m h2 h3 => k _ H Hs _ (Evl.Ex.refl _) R (.int _) (q m h2 h3)⟩
def oSorted : List D → (List D → Prop) → Prop := fun ds Q => ints1 (fun ns => ∀ ns' : List Int, ns'.Perm ns → ns'.Pairwise (· ≤ ·) → Q (ns'.map D.int)) ds
theorem cn_sorted : CallN X (.builtin "sorted") oSorted := by
  refine ⟨_, cr_sortedI, fun F Hs σ H ε vs ds Q' Q R r q k => ?_⟩
  obtain ⟨a, ns, rfl, h1, q⟩ := ints1_core R r q
  exact ⟨a, ns, rfl, h1, fun ns' p h2 h3 hp => k p _ _ hp (Reps.ints ns') (q ns' h2 h3)⟩
def bls1 (f : List Bool → Prop) : List D → Prop
  | [.lst ds] => opt (toBls ds) f
  | _ => False
theorem bls1_core {K : PySem.W.Frag} {F Hs H : Hp} {σ : St} {ε : PEnv} {vs : List V} {ds : List D} {f : List Bool → Prop} (R : RelS K F Hs σ H ε) (r : RepVs K Hs H vs ds) (q : bls1 f ds) : ∃ a ns, vs = [.ref a] ∧ SqL K H a (ns.map V.bl) ∧ f ns := by
  unfold bls1 at q
  split at q
  · obtain ⟨ns, e0, q2⟩ := opt_elim q
    have e0 := toBls_elim e0
    subst e0
    obtain ⟨v, rfl, rv⟩ := r.one
    obtain ⟨a, ws, g1, h1, p1⟩ := rv.lst' R.ex
    subst g1
    have e := p1.inv_bls
    subst e
    exact ⟨a, ns, rfl, SqL.of h1, q2⟩
  · exact q.elim
def oAll : OPC := fun ds Q => bls1 (fun ns => Q (.bl (ns.all id))) ds
def oAny : OPC := fun ds Q => bls1 (fun ns => Q (.bl (ns.any id))) ds
theorem cy_all (hc : X.calm = true) : CallY X (.builtin "all") oAll := by
  refine ⟨_, cr_all hc, fun F Hs σ H ε vs ds Q' Q R r q k => ?_⟩
  obtain ⟨a, ns, rfl, h1, q⟩ := bls1_core R r q
  exact ⟨a, ns, rfl, h1, k _ H Hs _ (Evl.Ex.refl _) R (.bl _) q⟩
theorem cy_any (hc : X.calm = true) : CallY X (.builtin "any") oAny := by
  refine ⟨_, cr_any hc, fun F Hs σ H ε vs ds Q' Q R r q k => ?_⟩
  obtain ⟨a, ns, rfl, h1, q⟩ := bls1_core R r q
  exact ⟨a, ns, rfl, h1, k _ H Hs _ (Evl.Ex.refl _) R (.bl _) q⟩
def oListOf : List D → (List D → Prop) → Prop
  | [.lst ds], Q => Q ds
  | [.frl ds], Q => Q ds
  | [.tup ds], Q => Q ds
  | _, _ => False
theorem cn_list : CallN X (.type "list") oListOf := by
  refine ⟨_, call_list_of, fun F Hs σ H ε vs ds Q' Q R r q k => ?_⟩
  unfold oListOf at q
  split at q
  · obtain ⟨v, rfl, rv⟩ := r.one
    obtain ⟨a, ws, g1, h1, p1⟩ := rv.lst' R.ex
    subst g1
    exact ⟨a, ws, rfl, .inl (SqL.of h1), fun p hp => k p _ _ hp p1 q⟩
  · obtain ⟨v, rfl, rv⟩ := r.one
    obtain ⟨a, ws, g1, h1, p1⟩ := rv.frl' R.ex
    subst g1
    exact ⟨a, ws, rfl, .inl h1, fun p hp => k p _ _ hp p1 q⟩
  · obtain ⟨v, rfl, rv⟩ := r.one
    obtain ⟨a, ws, g1, h1, p1⟩ := rv.tup' R.ex
    subst g1
    exact ⟨a, ws, rfl, .inr h1, fun p hp => k p _ _ hp p1 q⟩
  · exact q.elim
def oTupleOf : OPC
  | [.lst ds], Q => Q (.tup ds)
  | [.tup ds], Q => Q (.tup ds)
  | _, _ => False
theorem cy_tuple : CallY X (.type "tuple") oTupleOf := by
  refine ⟨_, call_tuple_of, fun F Hs σ H ε vs ds Q' Q R r q k => ?_⟩
  unfold oTupleOf at q
  split at q
  · obtain ⟨v, rfl, rv⟩ := r.one
    obtain ⟨a, ws, g1, h1, p1⟩ := rv.lst' R.ex
    subst g1
    refine ⟨a, ws, rfl, .inl ⟨SqL.of h1, fun p hp => ?_⟩⟩
    obtain ⟨R3, e3⟩ := R.new (o := .tup ws) hp
    exact k _ _ _ _ e3 R3 (.tup (SqT.of upd_same) (p1.mono e3)) q
  · obtain ⟨v, rfl, rv⟩ := r.one
    cases rv with
    | sc rv =>
      cases rv with
      | tup h1 p1 => exact ⟨_, _, rfl, .inr ⟨Evl.ex_t R.ex h1, k _ H Hs _ (Evl.Ex.refl _) R (.tup h1 p1) q⟩⟩
  · exact q.elim
def oStr : OPC
  | [.int i], Q => gd (i.natAbs.log2 < 1920) (Q (.str (toString i)))
  | _, _ => False
theorem cy_str : CallY X (.type "str") oStr := by
  refine ⟨_, call_str_int, fun F Hs σ H ε vs ds Q' Q R r q k => ?_⟩
  unfold oStr at q
  split at q
  · obtain ⟨v, rfl, rv⟩ := r.one
    have q := gd_elim q
    exact ⟨_, by rw [rv.int'], q.1, k _ H Hs _ (Evl.Ex.refl _) R (.str _) q.2⟩
  · exact q.elim

theorem RepV.up {K : PySem.W.Frag} {Hs H H' : Hp} {v : V} {d : D} (h : RepV K Hs H v d) (e : Ex H H') : RepV K Hs H' v d := by
  cases h with
  | sc h => exact .sc h
  | lst h r => exact .lst (e _ _ h) r
  | dic h k r => exact .dic (e _ _ h) k r
/-! ### isinstance -/
inductive Ty where
  | int | bool | str | list | tuple | dict
def Ty.nm : Ty → String
  | .int => "int" | .bool => "bool" | .str => "str" | .list => "list" | .tuple => "tuple" | .dict => "dict"
def isTy : Ty → D → (Bool → Prop) → Prop
  | .int, .int _, Q => Q true
  | .int, .bl _, Q => Q true
  | .bool, .bl _, Q => Q true
  | .str, .str _, Q => Q true
  | .list, .lst _, Q => Q true
  | .list, .frl _, Q => Q true
  | .tuple, .tup _, Q => Q true
  | .dict, .dic _, Q => Q true
  | _, .vl _, _ => False
  | _, .pool, _ => False
  | _, .err _ _, _ => False
  | _, _, Q => Q false
def tyD : D → Option String
  | .non => some "NoneType"
  | .bl _ => some "bool"
  | .int _ => some "int"
  | .str _ => some "str"
  | .lst _ => some "list"
  | .frl _ => some "list"
  | .tup _ => some "tuple"
  | .dic _ => some "dict"
  | _ => none
theorem tyX_tup {K : PySem.W.Frag} {H : Hp} {a : Addr} {xs : List V} (h : SqT K H a xs) : TyX K H (.ref a) (.type "tuple") := by
  rcases h with (h | ⟨o, h⟩) | ⟨o, its, n, h, hc, _⟩
  · exact .base (.tup h)
  · exact .fTuple h
  · exact .kTuple h hc
theorem tyX_lst {K : PySem.W.Frag} {H : Hp} {a : Addr} {xs : List V} (h : SqL K H a xs) : TyX K H (.ref a) (.type "list") := by
  rcases h with (h | ⟨o, h⟩) | ⟨o, its, n, h, hc, _⟩
  · exact .base (.lst h)
  · exact .base (.frz h)
  · exact .kList h hc
theorem tyD_rep {K : PySem.W.Frag} {Hs H : Hp} {v : V} {d : D} {n : String} (h : RepV K Hs H v d) (ex : Ex Hs H) (e : tyD d = some n) : TyX K H v (.type n) := by
  cases d with
  | non => cases e; rw [h.non']; exact .base .non
  | bl b => cases e; rw [h.bl']; exact .base (.bl _)
  | int b => cases e; rw [h.int']; exact .base (.int _)
  | str b => cases e; rw [h.str']; exact .base (.str _)
  | lst b =>
    cases e
    obtain ⟨a, ws, rfl, h1, p1⟩ := h.lst' ex
    exact .base (.lst h1)
  | frl b =>
    cases e
    obtain ⟨a, ws, rfl, h1, p1⟩ := h.frl' ex
    exact tyX_lst h1
  | tup b =>
    cases e
    obtain ⟨a, ws, rfl, h1, p1⟩ := h.tup' ex
    exact tyX_tup h1
  | dic b =>
    cases e
    obtain ⟨a, ws, rfl, h1, p1⟩ := h.dic' ex
    exact .base (.dK h1)
  | _ => cases e
theorem isTy_kit (t : Ty) (d : D) (Q : Bool → Prop) (q : isTy t d Q) : ∃ n b, tyD d = some n ∧ kitB n t.nm = some b ∧ Q b := by
  cases t <;> cases d <;> first | exact False.elim q | exact ⟨_, true, rfl, by decide +kernel, q⟩ | exact ⟨_, false, rfl, by decide +kernel, q⟩
def yIs (t : Ty) (r : PTE) : PTE := fun ε Q => r ε fun t1 ε1 => res ε1 t1 fun d => isTy t d fun b => Q (.d (.bl b)) ε1
section
variable {W : WX} {Ξ : Xi} {a : Expr} {pos : Pos}
theorem ye_isA (t : Ty) {r : PTE} {c : Expr} {p : Pos} (h : YE X W Ξ a r) (hc : PE X c (tC (.ty t.nm))) (hg : Gl X "isinstance") (hm : X.mg "isinstance" = none)
    (hst : starEach [a, c] X.env = (false, eval a X.env) :: starEach [c] X.env := by rfl) (hs2 : starEach [c] X.env = (false, eval c X.env) :: starEach [] X.env := by rfl) (hpl : (backTo pos (starEach [c] X.env)).any (·.1) = false := by rfl) :
    YE X W Ξ (.Call (.Name "isinstance" p) [a, c] [] pos) (yIs t r) := by
  obtain ⟨ta, pa, ka⟩ := h.ex
  refine ⟨_, pe_callB call_isi hg hm PyProof.Rows.boot_isinstance (pa_cons pa (pa_cons hc pa_nil hs2) hst) (by decide) (by decide) hst hpl, fun F Hs σ H ε Q' Q R L q k => ?_⟩
  refine ka F Hs σ H ε _ _ R L q fun v H1 Hs1 t1 ε1 e1 R1 p1 q1 => ?_
  obtain ⟨d, v1, q2⟩ := R1.res p1 q1
  obtain ⟨n, b, h1, h2, h3⟩ := isTy_kit t d _ q2
  exact ⟨v, .ty t.nm, .type n, .type t.nm, b, rfl, .ty _, tyD_rep v1 R1.ex h1, kit_ty h2, k (.bl b) H1 Hs1 (.d (.bl b)) ε1 e1 R1 (.bl b) h3⟩
def yIs2 (t u : Ty) (r : PTE) : PTE := fun ε Q => r ε fun t1 ε1 => res ε1 t1 fun d => isTy t d fun b => isTy u d fun c => Q (.d (.bl (b || c))) ε1
theorem ye_isA2 (t u : Ty) {r : PTE} {c c2 : Expr} {p p2 : Pos} {kk : Nat} (h : YE X W Ξ a r) (hc : PE X c (tC (.ty t.nm))) (hc2 : PE X c2 (tC (.ty u.nm))) (hg : Gl X "isinstance") (hm : X.mg "isinstance" = none)
    (hst : starEach [a, .Tuple [c, c2] kk p2] X.env = (false, eval a X.env) :: starEach [.Tuple [c, c2] kk p2] X.env := by rfl) (hs2 : starEach [.Tuple [c, c2] kk p2] X.env = (false, eval (.Tuple [c, c2] kk p2) X.env) :: starEach [] X.env := by rfl)
    (hs3 : starEach [c, c2] X.env = (false, eval c X.env) :: starEach [c2] X.env := by rfl) (hs4 : starEach [c2] X.env = (false, eval c2 X.env) :: starEach [] X.env := by rfl) (hpl : (backTo pos (starEach [.Tuple [c, c2] kk p2] X.env)).any (·.1) = false := by rfl) :
    YE X W Ξ (.Call (.Name "isinstance" p) [a, .Tuple [c, c2] kk p2] [] pos) (yIs2 t u r) := by
  obtain ⟨ta, pa, ka⟩ := h.ex
  refine ⟨_, pe_callB call_isiT hg hm PyProof.Rows.boot_isinstance (pa_cons pa (pa_cons (pe_tup (pa_cons hc (pa_cons hc2 pa_nil hs4) hs3)) pa_nil hs2) hst) (by decide) (by decide) hst hpl, fun F Hs σ H ε Q' Q R L q k => ?_⟩
  refine ka F Hs σ H ε _ _ R L q fun v H1 Hs1 t1 ε1 e1 R1 p1 q1 => ?_
  obtain ⟨d, v1, q2⟩ := R1.res p1 q1
  obtain ⟨n, b, h1, h2, q3⟩ := isTy_kit t d _ q2
  obtain ⟨n', b', h1', h2', h3⟩ := isTy_kit u d _ q3
  rw [h1] at h1'
  cases h1'
  refine ⟨by show 2 ≤ sizeLine; decide, fun tp htp => ?_⟩
  have R2 : RelS X.K F Hs1 σ (upd H1 tp (.tup [.ty t.nm, .ty u.nm])) ε1 := R1.lay htp
  have v2 : TyX X.K (upd H1 tp (.tup [.ty t.nm, .ty u.nm])) v (.type n) := tyD_rep (v1.up (Evl.Ex.new htp)) R2.ex h1
  exact ⟨v, tp, [.ty t.nm, .ty u.nm], .type n, [.type t.nm, .type u.nm], b || b', rfl, upd_same, .cons (.ty _) (.cons (.ty _) .nil), v2, kitAny_cons (kit_ty h2) (fun hb => kitAny_cons (kit_ty h2') (fun hb' => by rw [hb, hb']; exact kitAny_nil) (fun hb' => by rw [hb']; simp)) (fun hb => by rw [hb]; rfl), k (.bl (b || b')) _ Hs1 (.d (.bl (b || b'))) ε1 e1 R2 (.bl _) h3⟩
end
end
end PL

set_option Elab.async false
set_option linter.all false
set_option autoImplicit false
set_option maxRecDepth 100000
set_option maxHeartbeats 2000000
/-! Statements, loops, comprehensions, over plain data. -/
namespace PL
open PySem PySem.Spec PyProof.Rows L2
open Evl (Ex)

/-! ### readings that hang on the data alone -/
def cE (K : PySem.W.Frag) (W : WX) (Ξ : Xi) (r : PTE) : TE := fun σ H Q => ∃ (F Hs : Hp) (ε : PEnv) (Q' : T → PEnv → Prop), RelS K F Hs σ H ε ∧ Lk K F Hs W Ξ ∧ r ε Q' ∧ KE K F Hs σ Q' Q
def cT (K : PySem.W.Frag) (W : WX) (Ξ : Xi) (r : PTT) : TT := fun σ H Q => ∃ (F Hs : Hp) (ε : PEnv) (Q' : Bool → PEnv → Prop), RelS K F Hs σ H ε ∧ Lk K F Hs W Ξ ∧ r ε Q' ∧ KT K F Hs σ Q' Q
section
variable {X : Cx} {W : WX} {Ξ : Xi} {e : Expr}
theorem YE.canon {r : PTE} (h : YE X W Ξ e r) : PE X e (cE X.K W Ξ r) := by
  obtain ⟨t, p, k⟩ := h.ex
  exact ⟨fun pins s σ H Q I ⟨F, Hs, ε, Q', R, L, q, kk⟩ => p.run pins s σ H Q I (k F Hs σ H ε Q' Q R L q kk)⟩
theorem YT.canon {r : PTT} (h : YT X W Ξ e r) : PT X e (cT X.K W Ξ r) := by
  obtain ⟨t, p, k⟩ := h.ex
  exact ⟨fun pins s σ H Q I ⟨F, Hs, ε, Q', R, L, q, kk⟩ => p.run pins s σ H Q I (k F Hs σ H ε Q' Q R L q kk)⟩
end

/-! ### what another one owns, lent and taken back -/
section
variable {K : PySem.W.Frag} {F Hs H : Hp} {σ : St} {ε : PEnv}
def Nobody (σ : St) (ε : PEnv) (p : Addr) : Prop := ∀ (i : Nat) (s : S), ε[i]? = some (some s) → s.own = true → σ[i]? ≠ some (some (.ref p))
theorem RelS.lend (R : RelS K F Hs σ H ε) {p : Addr} {o : HO} (hH : H p = some o) (hp : Hs p = none) (hn : Nobody σ ε p) : RelS K (upd F p o) Hs σ H ε := by
  refine ⟨R.ex, fun a u q => ?_, R.len, fun j t q => ?_, R.ds⟩
  · by_cases ha : a = p
    · subst ha
      rw [upd_same] at q
      cases q
      exact ⟨hH, hp⟩
    · rw [upd_ne ha] at q
      exact R.fr a u q
  · have z := R.sl j t q
    cases t with
    | v d' => exact z
    | o ds =>
      obtain ⟨b, vs, h1, h2, h3, h4, h5⟩ := z
      have nb : b ≠ p := by
        intro z
        subst z
        exact hn j _ q rfl h1
      exact ⟨b, vs, h1, h2, by rw [upd_ne nb]; exact h3, h4, h5⟩
    | od ds =>
      obtain ⟨b, vs, h1, h2, h3, h4, h5, h6⟩ := z
      have nb : b ≠ p := by
        intro z
        subst z
        exact hn j _ q rfl h1
      exact ⟨b, vs, h1, h2, by rw [upd_ne nb]; exact h3, h4, h5, h6⟩
theorem RelS.back {p : Addr} {o : HO} (R : RelS K (upd F p o) Hs σ H ε) (hF : F p = none) : RelS K F Hs σ H ε ∧ H p = some o ∧ Hs p = none ∧ Nobody σ ε p := by
  have hp := R.fr p o upd_same
  have sub : ∀ b, upd F p o b = none → F b = none := fun b e => by
    by_cases hb : b = p
    · subst hb
      exact hF
    · rw [upd_ne hb] at e
      exact e
  refine ⟨⟨R.ex, fun a u q => ?_, R.len, fun j t q => ?_, R.ds⟩, hp.1, hp.2, fun j t q so z => ?_⟩
  · have ha : a ≠ p := by
      intro z
      subst z
      rw [hF] at q
      cases q
    exact R.fr a u (by rw [upd_ne ha]; exact q)
  · have z := R.sl j t q
    cases t with
    | v d' => exact z
    | o ds =>
      obtain ⟨b, vs, h1, h2, h3, h4, h5⟩ := z
      exact ⟨b, vs, h1, h2, sub _ h3, h4, h5⟩
    | od ds =>
      obtain ⟨b, vs, h1, h2, h3, h4, h5, h6⟩ := z
      exact ⟨b, vs, h1, h2, sub _ h3, h4, h5, h6⟩
  · have y := R.sl j t q
    cases t with
    | v d' => cases so
    | o ds =>
      obtain ⟨b, vs, h1, h2, h3, h4, h5⟩ := y
      rw [z] at h1
      cases h1
      rw [upd_same] at h3
      cases h3
    | od ds =>
      obtain ⟨b, vs, h1, h2, h3, h4, h5, h6⟩ := y
      rw [z] at h1
      cases h1
      rw [upd_same] at h3
      cases h3
/-- what is nobody's may change -/
theorem RelS.touch (R : RelS K F Hs σ H ε) {p : Addr} {o : HO} (hp : Hs p = none) (hF : F p = none) (hn : Nobody σ ε p) : RelS K F Hs σ (upd H p o) ε := by
  refine ⟨fun a u q => ?_, fun a u q => ?_, R.len, fun j t q => ?_, R.ds⟩
  · rw [upd_ne (ne_of_none q hp)]
    exact R.ex a u q
  · rw [upd_ne (ne_of_none q hF)]
    exact R.fr a u q
  · have z := R.sl j t q
    cases t with
    | v d' => exact z
    | o ds =>
      obtain ⟨b, vs, h1, h2, h3, h4, h5⟩ := z
      have nb : b ≠ p := by
        intro z
        subst z
        exact hn j _ q rfl h1
      exact ⟨b, vs, h1, h2, h3, by rw [upd_ne nb]; exact h4, h5⟩
    | od ds =>
      obtain ⟨b, vs, h1, h2, h3, h4, h5, h6⟩ := z
      have nb : b ≠ p := by
        intro z
        subst z
        exact hn j _ q rfl h1
      exact ⟨b, vs, h1, h2, h3, by rw [upd_ne nb]; exact h4, h5, h6⟩
end

/-! ### targets -/
abbrev PTG := D → PEnv → (PEnv → Prop) → Prop
def Only (sl : List Nat) (σ σ' : St) : Prop := ∀ vs : List Nat, (∀ i ∈ sl, i ∈ vs) → L2.wipe σ' vs = L2.wipe σ vs
theorem wipe_set {σ : St} {i : Nat} {x : Option V} : ∀ {vs : List Nat}, i ∈ vs → L2.wipe (σ.set i x) vs = L2.wipe σ vs
  | v :: vs, h => by
    unfold L2.wipe
    by_cases hv : i ∈ vs
    · rw [wipe_set hv]
    · have e : i = v := by
        rcases List.mem_cons.mp h with h | h
        · exact h
        · exact absurd h hv
      subst e
      have out : ∀ {ws : List Nat}, i ∉ ws → (L2.wipe (σ.set i x) ws) = (L2.wipe σ ws).set i x := by
        intro ws
        induction ws with
        | nil => intro _; rfl
        | cons w ws ih =>
          intro hw
          simp only [List.mem_cons, not_or] at hw
          unfold L2.wipe
          rw [ih hw.2, List.set_comm _ _ hw.1]
      rw [out hv, List.set_set]
theorem Only.refl {sl : List Nat} {σ : St} : Only sl σ σ := fun _ _ => rfl
theorem Only.set {i : Nat} {σ : St} {x : Option V} : Only [i] σ (σ.set i x) := fun vs h => wipe_set (h i (by simp))
def KG (K : PySem.W.Frag) (F Hs : Hp) (σ : St) (sl : List Nat) (Q' : PEnv → Prop) (Q : St → Hp → Prop) : Prop := ∀ (σ' : St) (H' Hs' : Hp) (ε' : PEnv), Ex Hs Hs' → Only sl σ σ' → RelS K F Hs' σ' H' ε' → Q' ε' → Q σ' H'
structure YG (X : Cx) (tg : Expr) (g : PTG) (sl : List Nat) : Prop where
  ex : ∃ t, PG X tg t ∧ ∀ (F Hs : Hp) (σ : St) (H : Hp) (ε : PEnv) (v : V) (d : D) (Q' : PEnv → Prop) (Q : St → Hp → Prop), RelS X.K F Hs σ H ε → Rep X.K Hs v d → g d ε Q' → KG X.K F Hs σ sl Q' Q → t v σ H Q
def cG (K : PySem.W.Frag) (g : PTG) (sl : List Nat) : TG := fun v σ H Q => ∃ (F Hs : Hp) (ε : PEnv) (d : D) (Q' : PEnv → Prop), RelS K F Hs σ H ε ∧ Rep K Hs v d ∧ g d ε Q' ∧ KG K F Hs σ sl Q' Q
theorem YG.canon {X : Cx} {tg : Expr} {g : PTG} {sl : List Nat} (h : YG X tg g sl) : PG X tg (cG X.K g sl) := by
  obtain ⟨t, p, k⟩ := h.ex
  exact ⟨fun pins s σ H v u Q I r ⟨F, Hs, ε, d, Q', R, rv, q, kk⟩ => p.run pins s σ H v u Q I r (k F Hs σ H ε v d Q' Q R rv q kk)⟩
def gN (i : Nat) : PTG := fun d ε Q => Q (ε.set i (some (.v d)))
section
variable {X : Cx} {pos : Pos}
theorem yg_name {x : Str} (i : Nat) (hN : X.N.Nodup) (hi : X.N[i]? = some x) (hx : Loc X.env.scope x) (hf : X.fn x = true ∨ X.env.scope.names.lookup x = some .local := by first | exact .inl rfl | exact .inr rfl | assumption) : YG X (.Name x pos) (gN i) [i] :=
  ⟨_, pg_name hN hi hx hf, fun F Hs σ H ε v d Q' Q R rv q k => k _ H Hs _ (Evl.Ex.refl _) Only.set (R.store rv i) q⟩
def gAll : List PTG → List D → PEnv → (PEnv → Prop) → Prop
  | [], [], ε, Q => Q ε
  | g :: gs, d :: ds, ε, Q => g d ε fun ε' => gAll gs ds ε' Q
  | _, _, _, _ => False
structure YGs (X : Cx) (tgs : List Expr) (gs : List PTG) (sl : List Nat) : Prop where
  ex : ∃ t, PGs X tgs t ∧ ∀ (F Hs : Hp) (σ : St) (H : Hp) (ε : PEnv) (vs : List V) (ds : List D) (Q' : PEnv → Prop) (Q : St → Hp → Prop), RelS X.K F Hs σ H ε → Reps X.K Hs vs ds → gAll gs ds ε Q' → KG X.K F Hs σ sl Q' Q → t vs σ H Q
theorem ygs_nil : YGs X [] [] [] := ⟨_, pgs_nil, fun F Hs σ H ε vs ds Q' Q R rv q k => by
  cases rv with
  | nil => exact ⟨rfl, k _ H Hs _ (Evl.Ex.refl _) Only.refl R q⟩
  | cons _ _ => exact q.elim⟩
theorem ygs_cons {e : Expr} {es : List Expr} {g : PTG} {gs : List PTG} {sl ss : List Nat} (h : YG X e g sl) (hs : YGs X es gs ss) (hst : (assignEach (e :: es) X.env).map (·.2) = assign e X.env :: (assignEach es X.env).map (·.2) := by rfl) : YGs X (e :: es) (g :: gs) (sl ++ ss) := by
  obtain ⟨t, p, k⟩ := h.ex
  obtain ⟨ts, ps, ks⟩ := hs.ex
  refine ⟨_, pgs_cons p ps hst, fun F Hs σ H ε vs ds Q' Q R rv q kk => ?_⟩
  cases rv with
  | nil => exact q.elim
  | cons r rs => exact ⟨_, _, rfl, k F Hs σ H ε _ _ _ _ R r q fun σ1 H1 Hs1 ε1 e1 o1 R1 q1 => ks F Hs1 σ1 H1 ε1 _ _ _ _ R1 (rs.mono e1) q1 fun σ2 H2 Hs2 ε2 e2 o2 R2 q2 => kk σ2 H2 Hs2 ε2 (e1.trans e2) (fun vs hv => (o2 vs fun i hi => hv i (List.mem_append_right _ hi)).trans (o1 vs fun i hi => hv i (List.mem_append_left _ hi))) R2 q2⟩
theorem gAll_len : ∀ {gs : List PTG} {ds : List D} {ε : PEnv} {Q : PEnv → Prop}, gAll gs ds ε Q → (∀ g ∈ gs, ∀ d ε Q, g d ε Q → ∃ ε', Q ε') → ds.length = gs.length
  | [], [], _, _, _, _ => rfl
  | g :: gs, d :: ds, ε, Q, h, m => by
    obtain ⟨ε', h2⟩ := m g (List.mem_cons_self ..) d ε _ h
    rw [List.length_cons, List.length_cons, gAll_len h2 fun g hg => m g (List.mem_cons_of_mem _ hg)]
/-- a, b, .. = a tuple -/
def gTupY (n : Nat) (gs : List PTG) : PTG := fun d ε Q => match d with
  | .tup ds => gd (ds.length = n) (gAll gs ds ε Q)
  | _ => False
theorem yg_tup {es : List Expr} {k : Nat} {gs : List PTG} {n : Nat} {sl : List Nat} (hc : X.calm = true) (h : YGs X es gs sl) (hn : (assignEach es X.env).length = n := by rfl) (hst : (assignEach es X.env).findIdx? (·.1) = none := by rfl) : YG X (.Tuple es k pos) (gTupY n gs) sl := by
  obtain ⟨ts, ps, ks⟩ := h.ex
  refine ⟨_, pg_tup hc ps hn hst, fun F Hs σ H ε v d Q' Q R rv q kk => ?_⟩
  unfold gTupY at q
  split at q
  · obtain ⟨hl, q⟩ := gd_elim q
    cases rv with
    | tup h1 r1 => exact ⟨_, _, rfl, Evl.ex_t R.ex h1, by rw [r1.len]; exact hl, ks F Hs σ H ε _ _ _ _ R r1 q kk⟩
  · exact q.elim
/-- a, b, .. = a list -/
def gLstY (n : Nat) (gs : List PTG) : PTG := fun d ε Q => match d with
  | .lst ds => gd (ds.length = n) (gAll gs ds ε Q)
  | _ => False
theorem yg_lst {es : List Expr} {k : Nat} {gs : List PTG} {n : Nat} {sl : List Nat} (hc : X.calm = true) (h : YGs X es gs sl) (hn : (assignEach es X.env).length = n := by rfl) (hst : (assignEach es X.env).findIdx? (·.1) = none := by rfl) : YG X (.Tuple es k pos) (gLstY n gs) sl := by
  obtain ⟨ts, ps, ks⟩ := h.ex
  refine ⟨_, pg_lst hc ps hn hst, fun F Hs σ H ε v d Q' Q R rv q kk => ?_⟩
  unfold gLstY at q
  split at q
  · obtain ⟨hl, q⟩ := gd_elim q
    cases rv with
    | lst h1 r1 => exact ⟨_, _, rfl, SqL.of (R.ex _ _ h1), by rw [r1.len]; exact hl, ks F Hs σ H ε _ _ _ _ R r1 q kk⟩
  · exact q.elim
end

/-! ### what is walked -/
structure Seqs (K : PySem.W.Frag) (Hs : Hp) (J : It) (ds : List D) : Prop where
  go : ∀ i H, Ex Hs H → i < ds.length → J.go i H
  stop : ∀ i H, Ex Hs H → ds.length ≤ i → J.stop i H
  yld : ∀ (i : Nat) (F Hc : Hp) (σ : St) (H : Hp) (ε : PEnv) (x : V) (H' : Hp), Ex Hs Hc → RelS K F Hc σ H ε → i < ds.length → J.yld i H x H' → ∃ Hc' d, Ex Hc Hc' ∧ RelS K F Hc' σ H' ε ∧ ds[i]? = some d ∧ Rep K Hc' x d
structure YI (X : Cx) (W : WX) (Ξ : Xi) (tg iter : Expr) (r : PTN) : Prop where
  ex : ∃ wi, PI X tg iter wi ∧ ∀ (F Hs : Hp) (σ : St) (H : Hp) (ε : PEnv) (Q' : List D → PEnv → Prop) (R' : It → Hp → Prop), RelS X.K F Hs σ H ε → Lk X.K F Hs W Ξ → r ε Q' →
    (∀ J H' Hs' ds ε', Ex Hs Hs' → RelS X.K F Hs' σ H' ε' → Seqs X.K Hs' J ds → Q' ds ε' → R' J H') → wi σ H R'
theorem seqs_list {K : PySem.W.Frag} {Hs : Hp} {a : Addr} {vs : List V} {ds : List D} (h : SqL K Hs a vs) (r : Reps K Hs vs ds) : Seqs K Hs (Itl K a) ds where
  go := fun i H e hi => by
    rw [← r.len] at hi
    exact ⟨vs, vs[i], Evl.ex_l e h, by simp [hi]⟩
  stop := fun i H e hi => ⟨vs, Evl.ex_l e h, by rw [r.len]; exact hi⟩
  yld := fun i F Hc σ H ε x H' e R hi y => by
    obtain ⟨rfl, y⟩ := y
    have e2 := y vs (Evl.ex_l (e.trans R.ex) h)
    obtain ⟨d, h1, h2⟩ := r.getV e2
    exact ⟨Hc, d, Evl.Ex.refl _, R, h1, h2.mono e⟩
theorem seqs_tup {K : PySem.W.Frag} {Hs : Hp} {a : Addr} {vs : List V} {ds : List D} (h : SqT K Hs a vs) (r : Reps K Hs vs ds) : Seqs K Hs (Itt K a) ds where
  go := fun i H e hi => by
    rw [← r.len] at hi
    exact ⟨vs, vs[i], Evl.ex_t e h, by simp [hi]⟩
  stop := fun i H e hi => ⟨vs, Evl.ex_t e h, by rw [r.len]; exact hi⟩
  yld := fun i F Hc σ H ε x H' e R hi y => by
    obtain ⟨rfl, y⟩ := y
    have e2 := y vs (Evl.ex_t (e.trans R.ex) h)
    obtain ⟨d, h1, h2⟩ := r.getV e2
    exact ⟨Hc, d, Evl.Ex.refl _, R, h1, h2.mono e⟩
def rangeD (lo : Int) (n : Nat) : List D := (List.range n).map fun (i : Nat) => D.int (lo + (i : Int))
theorem rangeD_len {lo : Int} {n : Nat} : (rangeD lo n).length = n := by unfold rangeD; rw [List.length_map, List.length_range]
theorem rangeD_get {lo : Int} {n i : Nat} {d : D} (h : (rangeD lo n)[i]? = some d) : i < n ∧ d = .int (lo + (i : Int)) := by
  unfold rangeD at h
  rw [List.getElem?_map] at h
  by_cases hi : i < n
  · rw [List.getElem?_range hi] at h
    exact ⟨hi, (Option.some.inj h).symm⟩
  · rw [List.getElem?_eq_none (by rw [List.length_range]; omega)] at h
    cases h
theorem seqs_range {K : PySem.W.Frag} {Hs : Hp} {lo : Int} {n : Nat} : Seqs K Hs (Itr lo n) (rangeD lo n) where
  go := fun i H e hi => by rw [rangeD_len] at hi; exact hi
  stop := fun i H e hi => by rw [rangeD_len] at hi; exact hi
  yld := fun i F Hc σ H ε x H' e R hi y => by
    rw [rangeD_len] at hi
    obtain ⟨rfl, rfl⟩ := y
    refine ⟨Hc, .int (lo + i), Evl.Ex.refl _, R, ?_, .int _⟩
    unfold rangeD
    rw [List.getElem?_map, List.getElem?_range hi] <;> rfl
section
variable {X : Cx} {W : WX} {Ξ : Xi} {tg a b : Expr} {pos p : Pos}
/-- for x in a list -/
def yiLst (r : PTE) : PTN := fun ε Q => r ε fun t ε' => out ε' t fun d ε2 => match d with
  | .lst ds => Q ds ε2
  | _ => False
theorem yi_lst {r : PTE} (h : YE X W Ξ a r) : YI X W Ξ tg a (yiLst r) := by
  obtain ⟨t, p, k⟩ := h.ex
  refine ⟨_, pi_list p, fun F Hs σ H ε Q' R' R L q kk => k F Hs σ H ε _ _ R L q fun v H1 Hs1 t ε1 e1 R1 p1 q1 => ?_⟩
  obtain ⟨d, ε2, Hs2, e2, R2, rv, q2⟩ := R1.out p1 q1
  split at q2
  · cases rv with
    | lst h1 r1 => exact ⟨_, rfl, ⟨_, SqL.of (R2.ex _ _ h1)⟩, kk _ H1 Hs2 _ ε2 (e1.trans e2) R2 (seqs_list (SqL.of h1) r1) q2⟩
  · exact q2.elim
/-- for x in a list that is only read -/
def yiFrl (r : PTE) : PTN := fun ε Q => r ε fun t ε' => out ε' t fun d ε2 => match d with
  | .frl ds => Q ds ε2
  | _ => False
theorem yi_frl {r : PTE} (h : YE X W Ξ a r) : YI X W Ξ tg a (yiFrl r) := by
  obtain ⟨t, p, k⟩ := h.ex
  refine ⟨_, pi_list p, fun F Hs σ H ε Q' R' R L q kk => k F Hs σ H ε _ _ R L q fun v H1 Hs1 t ε1 e1 R1 p1 q1 => ?_⟩
  obtain ⟨d, ε2, Hs2, e2, R2, rv, q2⟩ := R1.out p1 q1
  split at q2
  · cases rv with
    | frl h1 r1 => exact ⟨_, rfl, ⟨_, Evl.ex_l R2.ex h1.sq⟩, kk _ H1 Hs2 _ ε2 (e1.trans e2) R2 (seqs_list h1.sq r1) q2⟩
  · exact q2.elim
def yiTup (r : PTE) : PTN := fun ε Q => r ε fun t ε' => out ε' t fun d ε2 => match d with
  | .tup ds => Q ds ε2
  | _ => False
theorem yi_tup {r : PTE} (h : YE X W Ξ a r) : YI X W Ξ tg a (yiTup r) := by
  obtain ⟨t, p, k⟩ := h.ex
  refine ⟨_, pi_tup p, fun F Hs σ H ε Q' R' R L q kk => k F Hs σ H ε _ _ R L q fun v H1 Hs1 t ε1 e1 R1 p1 q1 => ?_⟩
  obtain ⟨d, ε2, Hs2, e2, R2, rv, q2⟩ := R1.out p1 q1
  split at q2
  · cases rv with
    | tup h1 r1 => exact ⟨_, rfl, ⟨_, Evl.ex_t R2.ex h1⟩, kk _ H1 Hs2 _ ε2 (e1.trans e2) R2 (seqs_tup h1 r1) q2⟩
  · exact q2.elim
def smallB : Int → Bool
  | .ofNat n => Nat.ble n 4611686018427387903
  | .negSucc n => Nat.ble n 4611686018427387903
theorem small_of {j : Int} (h : smallB j = true) : -4611686018427387904 ≤ j ∧ j < 4611686018427387904 := by
  cases j with
  | ofNat n =>
    have h := Nat.le_of_ble_eq_true h
    constructor
    · show _ ≤ ((n : Nat) : Int)
      omega
    · show ((n : Nat) : Int) < _
      omega
  | negSucc n =>
    have h := Nat.le_of_ble_eq_true h
    rw [Int.negSucc_eq]
    omega
theorem small_by {j : Int} (h0 : 0 ≤ j) (h : j < 4611686018427387904) : smallB j = true := by
  cases j with
  | ofNat n =>
    replace h : ((n : Nat) : Int) < _ := h
    exact Nat.ble_eq_true_of_le (by omega)
  | negSucc n =>
    rw [Int.negSucc_eq] at h0
    omega
def rg1 (Q : List D → Prop) : List D → Prop
  | [.int j] => gd (smallB j = true) (Q (rangeD 0 j.toNat))
  | _ => False
def rg2 (Q : List D → Prop) : List D → Prop
  | [.int i, .int j] => gd (smallB i = true ∧ smallB j = true) (Q (rangeD i (j - i).toNat))
  | _ => False
def yiRg1 (rs : PTL) : PTN := fun ε Q => rs ε fun ts ε1 => ress ε1 ts (rg1 fun ds => Q ds ε1)
def yiRg2 (rs : PTL) : PTN := fun ε Q => rs ε fun ts ε1 => ress ε1 ts (rg2 fun ds => Q ds ε1)
theorem yi_range1 {rs : PTL} (hg : Gl X "range") (hm : X.mg "range" = none) (h : YL X W Ξ [a] rs) (hs : starEach [a] X.env = [(false, eval a X.env)] := by rfl) : YI X W Ξ tg (.Call (.Name "range" p) [a] [] pos) (yiRg1 rs) := by
  obtain ⟨t, pa, k⟩ := h.ex
  refine ⟨_, pi_range1 hg hm pa hs, fun F Hs σ H ε Q' R' R L q kk => k F Hs σ H ε _ _ R L q fun vs H1 Hs1 ts ε1 e1 R1 p1 q1 => ?_⟩
  obtain ⟨ds, rv, q2⟩ := R1.ress p1 q1
  unfold rg1 at q2
  split at q2
  · obtain ⟨v, rfl, r⟩ := rv.one
    have q2 := gd_elim q2
    exact ⟨_, by rw [r.int'], (small_of q2.1).1, (small_of q2.1).2, kk _ H1 Hs1 _ ε1 e1 R1 seqs_range q2.2⟩
  · exact q2.elim
theorem yi_range2 {rs : PTL} (hg : Gl X "range") (hm : X.mg "range" = none) (h : YL X W Ξ [a, b] rs) (hs : starEach [a, b] X.env = [(false, eval a X.env), (false, eval b X.env)] := by rfl) (hs2 : starEach [b] X.env = [(false, eval b X.env)] := by rfl) : YI X W Ξ tg (.Call (.Name "range" p) [a, b] [] pos) (yiRg2 rs) := by
  obtain ⟨t, pa, k⟩ := h.ex
  refine ⟨_, pi_range2 hg hm pa hs hs2, fun F Hs σ H ε Q' R' R L q kk => k F Hs σ H ε _ _ R L q fun vs H1 Hs1 ts ε1 e1 R1 p1 q1 => ?_⟩
  obtain ⟨ds, rv, q2⟩ := R1.ress p1 q1
  unfold rg2 at q2
  split at q2
  · obtain ⟨v, w, rfl, r1, r2⟩ := rv.two
    have q2 := gd_elim q2
    exact ⟨_, _, by rw [r1.int', r2.int'], ⟨(small_of q2.1.1).1, (small_of q2.1.1).2, (small_of q2.1.2).1, (small_of q2.1.2).2⟩, kk _ H1 Hs1 _ ε1 e1 R1 seqs_range q2.2⟩
  · exact q2.elim

/-! ### comprehensions -/
def wipeE (ε : PEnv) : List Nat → PEnv
  | [] => ε
  | v :: vs => (wipeE ε vs).set v none
/-- nothing that is owned stands in these slots -/
def freeE (ε : PEnv) : List Nat → Prop
  | [] => True
  | v :: vs => (match ε[v]? with
    | some (some (.o _)) => False
    | some (some (.od _)) => False
    | _ => True) ∧ freeE ε vs
theorem wipeE_len (ε : PEnv) : ∀ vs : List Nat, (wipeE ε vs).length = ε.length
  | [] => rfl
  | v :: vs => by unfold wipeE; rw [List.length_set, wipeE_len ε vs]
theorem wipeE_some {ε : PEnv} {i : Nat} {s : S} : ∀ {vs : List Nat}, (wipeE ε vs)[i]? = some (some s) → ε[i]? = some (some s) ∧ i ∉ vs
  | [], h => ⟨h, by simp⟩
  | v :: vs, h => by
    unfold wipeE at h
    by_cases hi : v = i
    · subst hi
      by_cases hv : v < (wipeE ε vs).length
      · rw [List.getElem?_set_self hv] at h; cases h
      · rw [List.getElem?_eq_none (by simpa using hv)] at h; cases h
    · rw [List.getElem?_set_ne hi] at h
      obtain ⟨h1, h2⟩ := wipeE_some h
      exact ⟨h1, by simp only [List.mem_cons, not_or]; exact ⟨fun e => hi e.symm, h2⟩⟩
theorem wipeE_get {ε : PEnv} {i : Nat} : ∀ {vs : List Nat}, i ∉ vs → (wipeE ε vs)[i]? = ε[i]?
  | [], _ => rfl
  | v :: vs, h => by
    simp only [List.mem_cons, not_or] at h
    unfold wipeE
    rw [List.getElem?_set_ne (Ne.symm h.1), wipeE_get h.2]
theorem wipe_get {σ : St} {i : Nat} : ∀ {vs : List Nat}, i ∉ vs → (wipe σ vs)[i]? = σ[i]?
  | [], _ => rfl
  | v :: vs, h => by
    simp only [List.mem_cons, not_or] at h
    unfold wipe
    rw [List.getElem?_set_ne (Ne.symm h.1), wipe_get h.2]
theorem freeE_own {ε : PEnv} {i : Nat} {s : S} (e : ε[i]? = some (some s)) (so : s.own = true) : ∀ {vs : List Nat}, freeE ε vs → i ∉ vs
  | [], _ => by simp
  | v :: vs, h => by
    simp only [List.mem_cons, not_or]
    refine ⟨fun z => ?_, freeE_own e so h.2⟩
    subst z
    have h1 := h.1
    rw [e] at h1
    cases s <;> first | exact h1 | cases so
section
variable {K : PySem.W.Frag} {F Hs Hs' H H' : Hp} {σ : St} {ε : PEnv}
theorem SlotOk.at {i : Nat} {s : S} {σ' : St} (h : SlotOk K F Hs σ H i s) (e : σ'[i]? = σ[i]?) : SlotOk K F Hs σ' H i s := by
  cases s <;> (unfold SlotOk at h ⊢; dsimp only at h ⊢; rw [e]; exact h)
theorem RelS.wipe (R : RelS K F Hs σ H ε) (vs : List Nat) : RelS K F Hs (L2.wipe σ vs) H (wipeE ε vs) := by
  refine ⟨R.ex, R.fr, by rw [wipe_length, wipeE_len]; exact R.len, fun j t q => ?_, fun j k t u hn h1 h2 h3 h4 => ?_⟩
  · obtain ⟨h1, h2⟩ := wipeE_some q
    exact (R.sl j t h1).at (wipe_get h2)
  · obtain ⟨g1, n1⟩ := wipeE_some h1
    obtain ⟨g2, n2⟩ := wipeE_some h2
    rw [wipe_get n1, wipe_get n2]
    exact R.ds j k t u hn g1 g2 h3 h4
theorem RelS.unwipe {vs : List Nat} (R : RelS K F Hs σ H ε) (R' : RelS K F Hs' (L2.wipe σ vs) H' (wipeE ε vs)) (e : Ex Hs Hs') (hf : freeE ε vs) : RelS K F Hs' σ H' ε := by
  refine ⟨R'.ex, R'.fr, R.len, fun j t q => ?_, R.ds⟩
  by_cases hj : j ∈ vs
  · have z := R.sl j t q
    cases t with
    | v d =>
      obtain ⟨v, h1, h2⟩ := z
      exact ⟨v, h1, h2.mono e⟩
    | o ds => exact absurd hj (freeE_own q rfl hf)
    | od ds => exact absurd hj (freeE_own q rfl hf)
  · exact (R'.sl j t (by rw [wipeE_get hj]; exact q)).at (wipe_get hj).symm
end
/-- [e for target in iter if test] -/
def ynLc (ri : PTN) (g : PTG) (rt : PTT) (re : PTE) (vs : List Nat) : PTN := fun ε Q => ri ε fun ds ε1 => freeE ε1 vs ∧ ds.length ≤ 16777216 ∧ ∃ Wp : Nat → List D → Prop, Wp 0 [] ∧
  (∀ i d acc, i < ds.length → ds[i]? = some d → acc.length ≤ i → Wp i acc → g d (wipeE ε1 vs) fun ε2 => rt ε2 fun k ε3 => match k with
    | true => re ε3 fun t ε4 => out ε4 t fun y ε5 => wipeE ε5 vs = wipeE ε1 vs ∧ Wp (i + 1) (acc ++ [y])
    | false => wipeE ε3 vs = wipeE ε1 vs ∧ Wp (i + 1) acc) ∧ ∀ acc, acc.length ≤ ds.length → Wp ds.length acc → Q acc ε1
def yYes : PTT := fun ε Q => Q true ε
/-- a clause's tests -/
structure YTs (X : Cx) (W : WX) (Ξ : Xi) (es : List Expr) (r : PTT) : Prop where
  ex : ∃ t, PTs X es t ∧ ∀ (F Hs : Hp) (σ : St) (H : Hp) (ε : PEnv) (Q' : Bool → PEnv → Prop) (Q : Bool → Hp → Prop), RelS X.K F Hs σ H ε → Lk X.K F Hs W Ξ → r ε Q' → KT X.K F Hs σ Q' Q → t σ H Q
theorem yts_nil : YTs X W Ξ [] yYes := ⟨_, pts_nil, fun F Hs σ H ε Q' Q R _ q k => k true H Hs ε (Evl.Ex.refl _) R q⟩
theorem yts_one {r : PTT} (h : YT X W Ξ a r) : YTs X W Ξ [a] r := by
  obtain ⟨t, p, k⟩ := h.ex
  exact ⟨t, pts_one p, k⟩
theorem YTs.canon {es : List Expr} {r : PTT} (h : YTs X W Ξ es r) : PTs X es (cT X.K W Ξ r) := by
  obtain ⟨t, p, k⟩ := h.ex
  exact ⟨fun pins s σ H Q I ⟨F, Hs, ε, Q', R, L, q, kk⟩ => p.run pins s σ H Q I (k F Hs σ H ε Q' Q R L q kk)⟩


theorem lc_reads {X : Cx} {W : WX} {Ξ : Xi} {own : List (Str × Nat)} {ri : PTN} {g : PTG} {rt : PTT} {re : PTE} {sl : List Nat} {wi : TI}
    (ki : ∀ (F Hs : Hp) (σ : St) (H : Hp) (ε : PEnv) (Q' : List D → PEnv → Prop) (R' : It → Hp → Prop), RelS X.K F Hs σ H ε → Lk X.K F Hs W Ξ → ri ε Q' →
      (∀ J H' Hs' ds ε', Ex Hs Hs' → RelS X.K F Hs' σ H' ε' → Seqs X.K Hs' J ds → Q' ds ε' → R' J H') → wi σ H R')
    (hsl : (sl.all fun i => (own.map (·.2)).contains i) = true) (F Hs : Hp) (σ : St) (H : Hp) (ε : PEnv) (Q' : List D → PEnv → Prop) (Q : VK) (R : RelS X.K F Hs σ H ε) (L : Lk X.K F Hs W Ξ) (q : ynLc ri g rt re (own.map (·.2)) ε Q') (k : KN X.K F Hs σ Q' Q) :
    tLc wi (cG X.K g sl) (cT X.K W0 Ξ0 rt) (cE X.K W0 Ξ0 re) (own.map (·.2)) σ H Q := by
  have hsl' : ∀ i ∈ sl, i ∈ own.map (·.2) := fun i hi => by simpa using List.all_eq_true.mp hsl i hi
  generalize own.map (·.2) = ws at hsl' q ⊢
  refine ki F Hs σ H ε _ _ R L q fun J H1 Hs1 ds ε1 e1 R1 sq ⟨hf, hl, Wp, w0, wt, wd⟩ => fun Dl hD => ?_
  obtain ⟨n1, n2, n3⟩ := R1.nobody hD
  have R2 : RelS X.K F Hs1 σ (upd H1 Dl (.lst [])) ε1 := R1.lay hD
  have lt' : Lk X.K F Hs1 W Ξ := L.mono e1
  -- the turns
  refine ⟨fun i m H => m = ds.length - i ∧ i ≤ ds.length ∧ ∃ (Hc : Hp) (av : List V) (acc : List D), Ex Hs1 Hc ∧ RelS X.K (upd F Dl (.lst av)) Hc (L2.wipe σ ws) H (wipeE ε1 ws) ∧ Reps X.K Hc av acc ∧ acc.length ≤ i ∧ Wp i acc, ⟨ds.length, by simp, Nat.zero_le _, Hs1, [], [], Evl.Ex.refl _, ?_, .nil, Nat.le_refl _, w0⟩, ?_⟩
  · refine (R2.wipe ws).lend upd_same n1 fun i s e so z => ?_
    obtain ⟨g1, g2⟩ := wipeE_some e
    rw [wipe_get g2] at z
    exact n3 i s g1 so z
  · rintro i m H2 ⟨rfl, hil, Hc, av, acc, ec, Rc, ra, hla, wp⟩
    by_cases hlt : i < ds.length
    · refine .inr ⟨sq.go i H2 (ec.trans Rc.ex) hlt, fun H' => i + 1 ≤ ds.length ∧ ∃ (Hc : Hp) (av : List V) (acc : List D), Ex Hs1 Hc ∧ RelS X.K (upd F Dl (.lst av)) Hc (L2.wipe σ ws) H' (wipeE ε1 ws) ∧ Reps X.K Hc av acc ∧ acc.length ≤ i + 1 ∧ Wp (i + 1) acc,
        fun H' n' => ⟨ds.length - (i + 1), by omega, rfl, n'.1, n'.2⟩, fun x H3 y => ?_⟩
      obtain ⟨Hc3, d, e3, R3, hd, rx⟩ := sq.yld i _ Hc _ H2 _ x H3 ec Rc hlt y
      refine ⟨_, Hc3, _, d, _, R3, rx, wt i d acc hlt hd hla wp, fun σ4 H4 Hc4 ε4 e4 o4 R4 q4 => ?_⟩
      have w4 : L2.wipe σ4 ws = L2.wipe σ ws := by
        rw [o4 ws hsl']
        have idem : ∀ (vs us : List Nat), (∀ v ∈ vs, v ∈ us) → L2.wipe (L2.wipe σ us) vs = L2.wipe σ us := by
          intro vs
          induction vs with
          | nil => intro _ _; rfl
          | cons v vs ih =>
            intro us hv
            show (L2.wipe (L2.wipe σ us) vs).set v none = L2.wipe σ us
            rw [ih us fun w hw => hv w (List.mem_cons_of_mem _ hw)]
            have in_ : ∀ {us : List Nat}, v ∈ us → (L2.wipe σ us).set v none = L2.wipe σ us := by
              intro us
              induction us with
              | nil => intro h; cases h
              | cons u us ih =>
                intro h
                show ((L2.wipe σ us).set u none).set v none = (L2.wipe σ us).set u none
                by_cases e : u = v
                · subst e
                  rw [List.set_set]
                · rw [List.set_comm _ _ e, ih (by
                    rcases List.mem_cons.mp h with h | h
                    · exact absurd h.symm e
                    · exact h)]
            exact in_ (hv v (List.mem_cons_self ..))
        exact idem ws ws fun _ h => h
      refine ⟨w4, ⟨_, Hc4, ε4, _, R4, Lk.none, q4, fun b H5 Hc5 ε5 e5 R5 q5 => ?_⟩⟩
      cases b with
      | true =>
        show (if true = true then _ else _)
        rw [if_pos rfl]
        refine ⟨_, Hc5, ε5, _, R5, Lk.none, q5, fun z H6 Hc6 t6 ε6 e6 R6 p6 q6 => ?_⟩
        obtain ⟨yd, ε7, Hc7, e7, R7, ry, we, wp7⟩ := R6.out p6 q6
        have ex : Ex Hc Hc7 := (((e3.trans e4).trans e5).trans e6).trans e7
        have R8 := R7.wipe ws
        rw [w4, we] at R8
        obtain ⟨R9, b1, b2, b3⟩ := R8.back n2
        refine ⟨av, b1, by rw [ra.len]; exact line_lt (by omega), hlt, Hc7, av ++ [z], acc ++ [yd], ec.trans ex, ?_, (ra.mono ex).append (.cons ry .nil), by rw [List.length_append]; simp; omega, wp7⟩
        exact (R9.touch b2 n2 b3).lend upd_same b2 b3
      | false =>
        show (if false = true then _ else _)
        rw [if_neg Bool.false_ne_true]
        obtain ⟨we, wp7⟩ := q5
        have ex : Ex Hc Hc5 := (e3.trans e4).trans e5
        have R8 := R5.wipe ws
        rw [w4, we] at R8
        exact ⟨hlt, Hc5, av, acc, ec.trans ex, R8, ra.mono ex, by omega, wp7⟩
    · have ei : i = ds.length := by omega
      subst ei
      refine .inl ⟨sq.stop _ H2 (ec.trans Rc.ex) (Nat.le_refl _), ?_⟩
      obtain ⟨R9, b1, b2, b3⟩ := Rc.back n2
      have R10 := R2.unwipe R9 ec hf
      refine k Dl H2 Hc av acc ε1 (e1.trans ec) R10 b1 b2 n2 (fun i s e so z => ?_) ra (wd acc hla wp)
      have hi := freeE_own e so hf
      exact b3 i s (by rw [wipeE_get hi]; exact e) so (by rw [wipe_get hi]; exact z)
theorem yn_lc {tg iter elt : Expr} {ifs : List Expr} {scope : Scope} {own : List (Str × Nat)} {ri : PTN} {g : PTG} {rt : PTT} {re : PTE} {sl : List Nat} (hc : X.calm = true) (hN : X.N.Nodup) (hi : YI X W Ξ tg iter ri) (ok : BlkOk X.N X.env.scope scope own)
    (hg : ∀ (s : Shared) (H : Hp) (C : Addr) (cl : List (Str × Addr)) (fp : List Addr), YG (X.blk s H scope (compEnvC scope cl C X.env) fp) tg g sl)
    (ht : ∀ (s : Shared) (H : Hp) (C : Addr) (cl : List (Str × Addr)) (fp : List Addr), YTs (X.blk s H scope (compEnvC scope cl C X.env) fp) W0 Ξ0 ifs rt)
    (he : ∀ (s : Shared) (H : Hp) (C : Addr) (cl : List (Str × Addr)) (fp : List Addr), YE (X.blk s H scope (compEnvC scope cl C X.env) fp) W0 Ξ0 elt re)
    (hsl : (sl.all fun i => (own.map (·.2)).contains i) = true := by decide) (hs : ∀ x, foldedSetIterable iter X.env x = pure x := by intro _; rfl) :
    YN X W Ξ (.ListComp elt [⟨tg, iter, ifs, 0⟩] scope pos) (ynLc ri g rt re (own.map (·.2))) := by
  obtain ⟨wi, pi, ki⟩ := hi.ex
  exact ⟨_, pe_lc (g := cG X.K g sl) (tt := cT X.K W0 Ξ0 rt) (te := cE X.K W0 Ξ0 re) hc hN pi ok (fun s H C cl fp => (hg s H C cl fp).canon) (fun s H C cl fp => (ht s H C cl fp).canon) (fun s H C cl fp => (he s H C cl fp).canon) hs, lc_reads ki hsl⟩
end
end PL

set_option Elab.async false
set_option linter.all false
set_option autoImplicit false
set_option maxRecDepth 100000
set_option maxHeartbeats 2000000
/-! Statements and defs, over plain data. -/
namespace PL
open PySem PySem.Spec PyProof.Rows L2
open Evl (Ex)

structure PEnds where
  nx : PEnv → Prop
  rt : D → PEnv → Prop
  bk : PEnv → Prop := fun _ => False
  ct : PEnv → Prop := fun _ => False
abbrev PTS := PEnds → PEnv → Prop
structure EOk (K : PySem.W.Frag) (F Hs : Hp) (Δ : PEnds) (Dd : Ends) : Prop where
  nx : ∀ (σ' : St) (H' Hs' : Hp) (ε' : PEnv), Ex Hs Hs' → RelS K F Hs' σ' H' ε' → Δ.nx ε' → Dd.nx σ' H'
  rt : ∀ (v : V) (σ' : St) (H' Hs' : Hp) (d : D) (ε' : PEnv), Ex Hs Hs' → RelS K F Hs' σ' H' ε' → Rep K Hs' v d → Δ.rt d ε' → Dd.rt v H'
  bk : ∀ (σ' : St) (H' Hs' : Hp) (ε' : PEnv), Ex Hs Hs' → RelS K F Hs' σ' H' ε' → Δ.bk ε' → Dd.bk σ' H'
  ct : ∀ (σ' : St) (H' Hs' : Hp) (ε' : PEnv), Ex Hs Hs' → RelS K F Hs' σ' H' ε' → Δ.ct ε' → Dd.ct σ' H'
theorem EOk.mono {K : PySem.W.Frag} {F Hs Hs' : Hp} {Δ : PEnds} {Dd : Ends} (e : Ex Hs Hs') (h : EOk K F Hs Δ Dd) : EOk K F Hs' Δ Dd :=
  ⟨fun σ' H' Hs' ε' e2 => h.nx σ' H' Hs' ε' (e.trans e2), fun v σ' H' Hs' d ε' e2 => h.rt v σ' H' Hs' d ε' (e.trans e2), fun σ' H' Hs' ε' e2 => h.bk σ' H' Hs' ε' (e.trans e2), fun σ' H' Hs' ε' e2 => h.ct σ' H' Hs' ε' (e.trans e2)⟩
structure YS (X : Cx) (W : WX) (Ξ : Xi) (st : Stmt) (r : PTS) : Prop where
  ex : ∃ t, PS X st t ∧ ∀ (F Hs : Hp) (σ : St) (H : Hp) (ε : PEnv) (Δ : PEnds) (Dd : Ends), RelS X.K F Hs σ H ε → Lk X.K F Hs W Ξ → r Δ ε → EOk X.K F Hs Δ Dd → t Dd σ H
structure YSs (X : Cx) (W : WX) (Ξ : Xi) (st : List Stmt) (r : PTS) : Prop where
  ex : ∃ t, PSs X st t ∧ ∀ (F Hs : Hp) (σ : St) (H : Hp) (ε : PEnv) (Δ : PEnds) (Dd : Ends), RelS X.K F Hs σ H ε → Lk X.K F Hs W Ξ → r Δ ε → EOk X.K F Hs Δ Dd → t Dd σ H
def cSs (K : PySem.W.Frag) (W : WX) (Ξ : Xi) (r : PTS) : TS := fun Dd σ H => ∃ (F Hs : Hp) (ε : PEnv) (Δ : PEnds), RelS K F Hs σ H ε ∧ Lk K F Hs W Ξ ∧ r Δ ε ∧ EOk K F Hs Δ Dd
theorem YSs.canon {X : Cx} {W : WX} {Ξ : Xi} {st : List Stmt} {r : PTS} (h : YSs X W Ξ st r) : PSs X st (cSs X.K W Ξ r) := by
  obtain ⟨t, p, k⟩ := h.ex
  exact ⟨fun pins s σ H Dd I ⟨F, Hs, ε, Δ, R, L, q, kk⟩ => p.run pins s σ H Dd I (k F Hs σ H ε Δ Dd R L q kk)⟩

section
variable {X : Cx} {W : WX} {Ξ : Xi} {st : Stmt} {rest : List Stmt} {r u : PTS} {e : Expr} {pos : Pos}
def ysNext : PTS := fun Δ ε => Δ.nx ε
def ysSeq (r u : PTS) : PTS := fun Δ ε => r { Δ with nx := fun ε' => u Δ ε' } ε
theorem yss_nil : YSs X W Ξ [] ysNext := ⟨_, pss_nil, fun F Hs σ H ε Δ Dd R L q k => k.nx σ H Hs ε (Evl.Ex.refl _) R q⟩
theorem yss_cons (h1 : YS X W Ξ st r) (h2 : YSs X W Ξ rest u) : YSs X W Ξ (st :: rest) (ysSeq r u) := by
  obtain ⟨t, p, k⟩ := h1.ex
  obtain ⟨t2, p2, k2⟩ := h2.ex
  refine ⟨_, pss_cons p p2, fun F Hs σ H ε Δ Dd R L q kk => k F Hs σ H ε _ _ R L q ⟨fun σ' H' Hs' ε' e R' q' => ?_, kk.rt, kk.bk, kk.ct⟩⟩
  exact k2 F Hs' σ' H' ε' Δ Dd R' (L.mono e) q' (kk.mono e)
theorem yss_one (h1 : YS X W Ξ st r) : YSs X W Ξ [st] r := by
  obtain ⟨t, p, k⟩ := h1.ex
  exact ⟨_, pss_one p, k⟩
theorem ys_pass : YS X W Ξ (.Pass pos) ysNext := ⟨_, ps_pass, fun F Hs σ H ε Δ Dd R L q k => k.nx σ H Hs ε (Evl.Ex.refl _) R q⟩
def ysBrk : PTS := fun Δ ε => Δ.bk ε
def ysCnt : PTS := fun Δ ε => Δ.ct ε
theorem ys_break : YS X W Ξ (.Break pos) ysBrk := ⟨_, ps_break, fun F Hs σ H ε Δ Dd R L q k => k.bk σ H Hs ε (Evl.Ex.refl _) R q⟩
theorem ys_continue : YS X W Ξ (.Continue pos) ysCnt := ⟨_, ps_continue, fun F Hs σ H ε Δ Dd R L q k => k.ct σ H Hs ε (Evl.Ex.refl _) R q⟩
/-- x = e -/
def ysAsg (re : PTE) (i : Nat) : PTS := fun Δ ε => re ε fun t ε' => out ε' t fun d ε2 => Δ.nx (ε2.set i (some (.v d)))
theorem ys_set (i : Nat) {x : Str} {pos' : Pos} {re : PTE} (hN : X.N.Nodup) (hi : X.N[i]? = some x) (hx : Loc X.env.scope x) (he : YE X W Ξ e re) (hs : swapsWith e (some (.Name x pos')) pos.line X.env = pure false := by rfl)
    (hf : X.fn x = true ∨ X.env.scope.names.lookup x = some .local := by first | exact .inl rfl | exact .inr rfl | assumption) : YS X W Ξ (.Assign [.Name x pos'] e pos) (ysAsg re i) := by
  obtain ⟨t, p, k⟩ := he.ex
  refine ⟨_, ps_set hN hi hx p hs hf, fun F Hs σ H ε Δ Dd R L q kk => k F Hs σ H ε _ _ R L q fun v H1 Hs1 t1 ε1 e1 R1 p1 q1 => ?_⟩
  obtain ⟨d, ε2, Hs2, e2, R2, rv, q2⟩ := R1.out p1 q1
  exact kk.nx _ H1 Hs2 _ (e1.trans e2) (R2.store rv i) q2
/-- x = a new list, that x owns -/
def ysAsgO (rn : PTN) (i : Nat) : PTS := fun Δ ε => rn ε fun ds ε' => Δ.nx (ε'.set i (some (.o ds)))
theorem storeO_of {K : PySem.W.Frag} {F Hs H : Hp} {σ : St} {ε : PEnv} {p : Addr} {vs : List V} {ds : List D} (R : RelS K F Hs σ H ε) (i : Nat) (hH : H p = some (.lst vs)) (hp : Hs p = none) (hF : F p = none) (hn : Nobody σ ε p) (r : Reps K Hs vs ds) :
    RelS K F Hs (σ.set i (some (.ref p))) H (ε.set i (some (.o ds))) := by
  refine R.storeO rfl i hn fun hi => ?_
  exact ⟨p, vs, by rw [List.getElem?_set_self (by rw [R.len]; exact hi)], hp, hF, hH, r⟩
theorem ys_setO (i : Nat) {x : Str} {pos' : Pos} {rn : PTN} (hN : X.N.Nodup) (hi : X.N[i]? = some x) (hx : Loc X.env.scope x) (he : YN X W Ξ e rn) (hs : swapsWith e (some (.Name x pos')) pos.line X.env = pure false := by rfl)
    (hf : X.fn x = true ∨ X.env.scope.names.lookup x = some .local := by first | exact .inl rfl | exact .inr rfl | assumption) : YS X W Ξ (.Assign [.Name x pos'] e pos) (ysAsgO rn i) := by
  obtain ⟨t, p, k⟩ := he.ex
  refine ⟨_, ps_set hN hi hx p hs hf, fun F Hs σ H ε Δ Dd R L q kk => k F Hs σ H ε _ _ R L q fun p H' Hs' vs ds ε' e R' g1 g2 g3 g4 rs q' => ?_⟩
  exact kk.nx _ H' Hs' _ e (storeO_of R' i g1 g2 g3 g4 rs) q'
/-- x = [.. for ..] -/
theorem ys_setLc (i : Nat) {y : Str} {py spos : Pos} {tg iter elt : Expr} {ifs : List Expr} {scope : Scope} {own : List (Str × Nat)} {ri : PTN} {g : PTG} {rt : PTT} {re : PTE} {sl : List Nat} (o : Bool) (hc : X.calm = true) (hN : X.N.Nodup) (hy : X.N[i]? = some y) (hyl : X.env.scope.names.lookup y = some .local)
    (hsw : swapsWith (.ListComp elt [⟨tg, iter, ifs, 0⟩] scope pos) (some (.Name y py)) spos.line X.env = pure true) (hi : YI X W Ξ tg iter ri) (ok : BlkOk X.N X.env.scope scope own)
    (hg : ∀ (s : Shared) (H : Hp) (C : Addr) (cl : List (Str × Addr)) (fp : List Addr), YG (X.blk s H scope (compEnvC scope cl C X.env) fp) tg g sl)
    (ht : ∀ (s : Shared) (H : Hp) (C : Addr) (cl : List (Str × Addr)) (fp : List Addr), YTs (X.blk s H scope (compEnvC scope cl C X.env) fp) W0 Ξ0 ifs rt)
    (he : ∀ (s : Shared) (H : Hp) (C : Addr) (cl : List (Str × Addr)) (fp : List Addr), YE (X.blk s H scope (compEnvC scope cl C X.env) fp) W0 Ξ0 elt re)
    (hsl : (sl.all fun i => (own.map (·.2)).contains i) = true := by decide) (hs : ∀ x, foldedSetIterable iter X.env x = pure x := by intro _; rfl) :
    YS X W Ξ (.Assign [.Name y py] (.ListComp elt [⟨tg, iter, ifs, 0⟩] scope pos) spos) (match o with
      | true => ysAsgO (ynLc ri g rt re (own.map (·.2))) i
      | false => ysAsg (yNew (ynLc ri g rt re (own.map (·.2)))) i) := by
  obtain ⟨wi, pi, ki⟩ := hi.ex
  refine ⟨_, ps_setLc (g := cG X.K g sl) (tt := cT X.K W0 Ξ0 rt) (te := cE X.K W0 Ξ0 re) hc hN hy hyl hsw pi ok (fun s H C cl fp => (hg s H C cl fp).canon) (fun s H C cl fp => (ht s H C cl fp).canon) (fun s H C cl fp => (he s H C cl fp).canon) hs, fun F Hs σ H ε Δ Dd R L q kk => ?_⟩
  cases o with
  | true =>
    refine lc_reads ki hsl F Hs σ H ε _ _ R L q fun p H' Hs' vs ds ε' e R' g1 g2 g3 g4 rs q' => ?_
    exact kk.nx _ H' Hs' _ e (storeO_of R' i g1 g2 g3 g4 rs) q'
  | false =>
    refine lc_reads ki hsl F Hs σ H ε _ _ R L q fun p H' Hs' vs ds ε' e R' g1 g2 g3 g4 rs q' => ?_
    exact kk.nx _ H' _ _ (e.trans (ex_upd g2)) ((R'.adopt g1 g2 g3 g4).store (.lst upd_same (rs.mono (ex_upd g2))) i) q'
/-- targets = e -/
def ysAsgG (re : PTE) (g : PTG) : PTS := fun Δ ε => re ε fun t ε' => out ε' t fun d ε2 => g d ε2 Δ.nx
theorem ys_asg {tg : Expr} {re : PTE} {g : PTG} {sl : List Nat} (he : YE X W Ξ e re) (hg : YG X tg g sl) (hs : swapsWithSole [tg] e pos.line X.env = pure false := by rfl) (hw : swappedStores [tg] e X.env = pure none := by rfl)
    (h1 : (assignEach [tg] X.env).map (·.2) = [assign tg X.env] := by rfl) : YS X W Ξ (.Assign [tg] e pos) (ysAsgG re g) := by
  obtain ⟨t, p, k⟩ := he.ex
  obtain ⟨tg', pg, kg⟩ := hg.ex
  refine ⟨_, ps_asg p pg hs hw h1, fun F Hs σ H ε Δ Dd R L q kk => k F Hs σ H ε _ _ R L q fun v H1 Hs1 t1 ε1 e1 R1 p1 q1 => ?_⟩
  obtain ⟨d, ε2, Hs2, e2, R2, rv, q2⟩ := R1.out p1 q1
  exact kg F Hs2 σ H1 ε2 v d _ _ R2 rv q2 fun σ3 H3 Hs3 ε3 e3 _ R3 q3 => kk.nx σ3 H3 Hs3 ε3 ((e1.trans e2).trans e3) R3 q3
/-- x += e -/
def ysAug (f : Int → Int → Int) (i : Nat) (re : PTE) : PTS := fun Δ ε => match ε[i]? with
  | some (some (.v (.int a))) => re ε fun t ε' => res ε' t (asI fun b => Δ.nx (ε'.set i (some (.v (.int (f a b))))))
  | _ => False
theorem ys_aug (i : Nat) {x : Str} {pos' : Pos} {op : Operator} {f : Int → Int → Int} {re : PTE} (ho : PIp X op (ipI f)) (hN : X.N.Nodup) (hi : X.N[i]? = some x) (hx : Loc X.env.scope x) (he : YE X W Ξ e re) (hf : X.fn x = true ∨ X.env.scope.names.lookup x = some .local := by first | exact .inl rfl | exact .inr rfl | assumption) :
    YS X W Ξ (.AugAssign (.Name x pos') op e pos) (ysAug f i re) := by
  obtain ⟨t, p, k⟩ := he.ex
  refine ⟨_, ps_aug hN hi hx p ho hf, fun F Hs σ H ε Δ Dd R L q kk => ?_⟩
  unfold ysAug at q
  split at q
  · rename_i a ea
    obtain ⟨v, h1, h2⟩ := R.sl i _ ea
    cases h2
    refine ⟨_, h1, k F Hs σ H ε _ _ R L q fun v H1 Hs1 t1 ε1 e1 R1 p1 q1 => ?_⟩
    obtain ⟨d, rv, q2⟩ := R1.res p1 q1
    cases d with
    | int b => exact ⟨a, b, rfl, rv.int', kk.nx _ H1 Hs1 _ e1 (R1.store (.int _) i) q2⟩
    | _ => exact False.elim q2
  · exact q.elim
theorem ys_augAdd (i : Nat) {x : Str} {pos' : Pos} {re : PTE} (hN : X.N.Nodup) (hi : X.N[i]? = some x) (hx : Loc X.env.scope x) (he : YE X W Ξ e re) (hf : X.fn x = true ∨ X.env.scope.names.lookup x = some .local := by first | exact .inl rfl | exact .inr rfl | assumption) :
    YS X W Ξ (.AugAssign (.Name x pos') .Add e pos) (ysAug (fun a b => a + b) i re) := ys_aug i ip_add hN hi hx he hf
/-- e -/
def ysDrop (re : PTE) : PTS := fun Δ ε => re ε fun _ ε' => Δ.nx ε'
theorem ys_expr {re : PTE} (he : YE X W Ξ e re) (hs : swapsWith e none pos.line X.env = pure false := by rfl) : YS X W Ξ (.Expr e pos) (ysDrop re) := by
  obtain ⟨t, p, k⟩ := he.ex
  exact ⟨_, ps_expr p hs, fun F Hs σ H ε Δ Dd R L q kk => k F Hs σ H ε _ _ R L q fun v H1 Hs1 t1 ε1 e1 R1 p1 q1 => kk.nx σ H1 Hs1 ε1 e1 R1 q1⟩
def ysRet (re : PTE) : PTS := fun Δ ε => re ε fun t ε' => out ε' t fun d ε2 => Δ.rt d ε2
theorem ys_ret {re : PTE} (he : YE X W Ξ e re) : YS X W Ξ (.Return (some e) pos) (ysRet re) := by
  obtain ⟨t, p, k⟩ := he.ex
  refine ⟨_, ps_ret p, fun F Hs σ H ε Δ Dd R L q kk => k F Hs σ H ε _ _ R L q fun v H1 Hs1 t1 ε1 e1 R1 p1 q1 => ?_⟩
  obtain ⟨d, ε2, Hs2, e2, R2, rv, q2⟩ := R1.out p1 q1
  exact kk.rt v σ H1 Hs2 d ε2 (e1.trans e2) R2 rv q2
def ysIf (rt : PTT) (r u : PTS) : PTS := fun Δ ε => rt ε fun k ε' => match k with
  | true => r Δ ε'
  | false => u Δ ε'
theorem ys_if {c : Expr} {a b : List Stmt} {rt : PTT} (hc : YT X W Ξ c rt) (ha : YSs X W Ξ a r) (hb : YSs X W Ξ b u) : YS X W Ξ (.If c a b pos) (ysIf rt r u) := by
  obtain ⟨t, p, k⟩ := hc.ex
  obtain ⟨t1, p1, k1⟩ := ha.ex
  obtain ⟨t2, p2, k2⟩ := hb.ex
  refine ⟨_, ps_if p p1 p2, fun F Hs σ H ε Δ Dd R L q kk => k F Hs σ H ε _ _ R L q fun b H1 Hs1 ε1 e1 R1 q1 => ?_⟩
  cases b with
  | true =>
    show (if true = true then _ else _)
    rw [if_pos rfl]
    exact k1 F Hs1 σ H1 ε1 Δ Dd R1 (L.mono e1) q1 (kk.mono e1)
  | false =>
    show (if false = true then _ else _)
    rw [if_neg Bool.false_ne_true]
    exact k2 F Hs1 σ H1 ε1 Δ Dd R1 (L.mono e1) q1 (kk.mono e1)
/-- while, by an invariant and a measure -/
def ysWhile (rt : PTT) (rb : PTS) : PTS := fun Δ ε => ∃ Wp : Nat → PEnv → Prop, (∃ m, Wp m ε) ∧ ∀ m ε, Wp m ε → rt ε fun k ε' => match k with
  | true => rb { Δ with nx := fun ε2 => ∃ m', m' < m ∧ Wp m' ε2, ct := fun ε2 => ∃ m', m' < m ∧ Wp m' ε2, bk := Δ.nx } ε'
  | false => Δ.nx ε'
theorem ys_while {c : Expr} {body : List Stmt} {rt : PTT} {rb : PTS} (hp : PassesOwn (model X.prog X.w) X.A X.env X.xe) (hc : YT X W Ξ c rt) (hb : YSs X W Ξ body rb) : YS X W Ξ (.While c body [] pos) (ysWhile rt rb) := by
  obtain ⟨t, p, k⟩ := hc.ex
  obtain ⟨t1, p1, k1⟩ := hb.ex
  refine ⟨_, ps_while hp p p1, fun F Hs σ H ε Δ Dd R L q kk => ?_⟩
  obtain ⟨Wp, ⟨m0, w0⟩, turn⟩ := q
  refine ⟨fun m σ H => ∃ Hc ε, Ex Hs Hc ∧ RelS X.K F Hc σ H ε ∧ Wp m ε, ⟨m0, Hs, ε, Evl.Ex.refl _, R, w0⟩, ?_⟩
  rintro m σ1 H1 ⟨Hc, ε1, ec, R1, w1⟩
  refine k F Hc σ1 H1 ε1 _ _ R1 (L.mono ec) (turn m ε1 w1) fun b H2 Hs2 ε2 e2 R2 q2 => ?_
  cases b with
  | true =>
    show (if true = true then _ else _)
    rw [if_pos rfl]
    refine ⟨fun σ' H' => ∃ m', m' < m ∧ ∃ Hc ε, Ex Hs Hc ∧ RelS X.K F Hc σ' H' ε ∧ Wp m' ε, fun σ' H' ⟨m', hm, z⟩ => ⟨m', hm, z⟩, ?_⟩
    have again : ∀ (σ' : St) (H' Hs' : Hp) (ε' : PEnv), Ex Hs2 Hs' → RelS X.K F Hs' σ' H' ε' → (∃ m', m' < m ∧ Wp m' ε') → ∃ m', m' < m ∧ ∃ Hc ε, Ex Hs Hc ∧ RelS X.K F Hc σ' H' ε ∧ Wp m' ε :=
      fun σ' H' Hs' ε' e' R' ⟨m', hm, w'⟩ => ⟨m', hm, Hs', ε', (ec.trans e2).trans e', R', w'⟩
    exact k1 F Hs2 σ1 H2 ε2 _ _ R2 (L.mono (ec.trans e2)) q2 ⟨again, fun v σ' H' Hs' d ε' e' => kk.rt v σ' H' Hs' d ε' ((ec.trans e2).trans e'), fun σ' H' Hs' ε' e' => kk.nx σ' H' Hs' ε' ((ec.trans e2).trans e'), again⟩
  | false =>
    show (if false = true then _ else _)
    rw [if_neg Bool.false_ne_true]
    exact kk.nx σ1 H2 Hs2 ε2 (ec.trans e2) R2 q2
/-- for, by an invariant over the turn -/
def ysFor (ri : PTN) (g : PTG) (rb : PTS) : PTS := fun Δ ε => ri ε fun ds ε1 => ∃ Wp : Nat → PEnv → Prop, Wp 0 ε1 ∧
  (∀ i d ε, i < ds.length → ds[i]? = some d → Wp i ε → g d ε fun ε2 => rb { Δ with nx := Wp (i + 1), ct := Wp (i + 1), bk := Δ.nx } ε2) ∧ ∀ ε, Wp ds.length ε → Δ.nx ε
theorem ys_for {tg iter : Expr} {body : List Stmt} {ri : PTN} {g : PTG} {rb : PTS} {sl : List Nat} (hp : PassesOwn (model X.prog X.w) X.A X.env X.xe) (hc : X.calm = true) (hi : YI X W Ξ tg iter ri) (hg : YG X tg g sl) (hb : YSs X W Ξ body rb)
    (hs : ∀ x, foldedSetIterable iter X.env x = pure x := by intro _; rfl) : YS X W Ξ (.For tg iter body [] pos) (ysFor ri g rb) := by
  obtain ⟨wi, pi, ki⟩ := hi.ex
  obtain ⟨tg', pg, kg⟩ := hg.ex
  obtain ⟨t1, p1, k1⟩ := hb.ex
  refine ⟨_, ps_for hp hc pi pg p1 hs, fun F Hs σ H ε Δ Dd R L q kk => ?_⟩
  refine ki F Hs σ H ε _ _ R L q fun J H1 Hs1 ds ε1 e1 R1 sq ⟨Wp, w0, turn, done⟩ => ?_
  refine ⟨fun i m σ H => m = ds.length - i ∧ i ≤ ds.length ∧ ∃ Hc ε, Ex Hs1 Hc ∧ RelS X.K F Hc σ H ε ∧ Wp i ε, ⟨ds.length, by simp, Nat.zero_le _, Hs1, ε1, Evl.Ex.refl _, R1, w0⟩, ?_⟩
  rintro i m σ2 H2 ⟨rfl, hil, Hc, ε2, ec, R2, w2⟩
  by_cases hlt : i < ds.length
  · refine .inr ⟨sq.go i H2 (ec.trans R2.ex) hlt, fun σ' H' => ∃ Hc ε, Ex Hs1 Hc ∧ RelS X.K F Hc σ' H' ε ∧ Wp (i + 1) ε, fun σ' H' n' => ⟨ds.length - (i + 1), by omega, rfl, hlt, n'⟩, fun x H3 y => ?_⟩
    obtain ⟨Hc3, d, e3, R3, hd, rx⟩ := sq.yld i F Hc σ2 H2 ε2 x H3 ec R2 hlt y
    refine kg F Hc3 σ2 H3 ε2 x d _ _ R3 rx (turn i d ε2 hlt hd w2) fun σ4 H4 Hc4 ε4 e4 _ R4 q4 => ?_
    have ex4 : Ex Hs1 Hc4 := (ec.trans e3).trans e4
    have again : ∀ (σ' : St) (H' Hs' : Hp) (ε' : PEnv), Ex Hc4 Hs' → RelS X.K F Hs' σ' H' ε' → Wp (i + 1) ε' → ∃ Hc ε, Ex Hs1 Hc ∧ RelS X.K F Hc σ' H' ε ∧ Wp (i + 1) ε := fun σ' H' Hs' ε' e' R' w' => ⟨Hs', ε', ex4.trans e', R', w'⟩
    exact k1 F Hc4 σ4 H4 ε4 _ _ R4 (L.mono (e1.trans ex4)) q4 ⟨again, fun v σ' H' Hs' d ε' e' => kk.rt v σ' H' Hs' d ε' ((e1.trans ex4).trans e'), fun σ' H' Hs' ε' e' => kk.nx σ' H' Hs' ε' ((e1.trans ex4).trans e'), again⟩
  · have ei : i = ds.length := by omega
    subst ei
    exact .inl ⟨sq.stop _ H2 (ec.trans R2.ex) (Nat.le_refl _), kk.nx σ2 H2 Hc ε2 (e1.trans ec) R2 (done ε2 w2)⟩

/-! ### a name's own list: append, extend, pop, an item stored -/
def ysApp (i : Nat) (re : PTE) : PTS := fun Δ ε => match ε[i]? with
  | some (some (.o _)) => re ε fun t ε' => out ε' t fun d ε2 => match ε2[i]? with
    | some (some (.o ds)) => gd (ds.length < 16777216) (Δ.nx (ε2.set i (some (.o (ds ++ [d])))))
    | _ => False
  | _ => False
theorem ys_app (i : Nat) {x : Str} {px pa pc : Pos} {re : PTE} (hN : X.N[i]? = some x) (hv : Vis X.env.scope x) (he : YE X W Ξ e re) (hd : (x == ("__debug__" : Str)) = false := by decide) (hcd : (x == ("__classdict__" : Str)) = false := by decide)
    (hbase : attributeBase (.Name x px) "append" X.env (eval (.Name x px) X.env) = eval (.Name x px) X.env := by rfl)
    (hfew : ((backTo pc (starEach (e :: []) X.env)).all (fun x => !x.1) && (backToKw pc (keywordEach [] X.env)).all (fun x => x.1.isSome)
      && decide ((e :: []).length + ([] : List Keyword).length + (if ([] : List Keyword).isEmpty then 0 else 1) < 30)) = true := by rfl)
    (hline : (pa.endLine == pc.line) = true := by rfl) (hs : starEach (e :: []) X.env = (false, eval e X.env) :: starEach [] X.env := by rfl) (hplain : (backTo pc (starEach [] X.env)).any (·.1) = false := by rfl)
    (hsw : swapsWith (.Call (.Attribute (.Name x px) "append" pa) [e] [] pc) none pos.line X.env = pure false := by rfl) :
    YS X W Ξ (.Expr (.Call (.Attribute (.Name x px) "append" pa) [e] [] pc) pos) (ysApp i re) := by
  obtain ⟨t, p, k⟩ := he.ex
  refine ⟨_, ps_expr (pe_bm PySem.F.plainAttrs_list PySem.F.slot_list_append PySem.F.type_list_append mt_append (pe_var hN hv hd hcd) (pa_cons p pa_nil hs) hbase hfew hline hs hplain) hsw, fun F Hs σ H ε Δ Dd R L q kk => ?_⟩
  unfold ysApp at q
  split at q
  · rename_i ds0 e0
    obtain ⟨p0, vs0, h1, h2, h3, h4, h5⟩ := R.sl i _ e0
    refine ⟨_, h1, .inl ⟨rfl, _, SqL.of h4⟩, ?_⟩
    refine k F Hs σ H ε _ _ R L q fun v H1 Hs1 t1 ε1 e1 R1 p1 q1 => ?_
    obtain ⟨d, ε2, Hs2, e2, R2, rv, q2⟩ := R1.out p1 q1
    split at q2
    · rename_i ds ei
      obtain ⟨p3, vs, g1, g2, g3, g4, g5⟩ := R2.sl i _ ei
      rw [h1] at g1
      cases g1
      have q2 := gd_elim q2
      refine ⟨_, vs, v, rfl, rfl, g4, by rw [g5.len]; exact line_lt q2.1, ?_⟩
      refine kk.nx σ _ Hs2 _ (e1.trans e2) (R2.change (s' := .o (ds ++ [d])) ei rfl rfl h1 g2 g3 ⟨_, _, h1, g2, g3, upd_same, g5.append (.cons rv .nil)⟩) q2.2
    · exact q2.elim
  · exact q.elim
def ysExt (i : Nat) (re : PTE) : PTS := fun Δ ε => match ε[i]? with
  | some (some (.o _)) => re ε fun t ε' => out ε' t fun d ε2 => match d, ε2[i]? with
    | .lst es, some (some (.o ds)) => gd (ds.length + es.length ≤ 16777216) (Δ.nx (ε2.set i (some (.o (ds ++ es)))))
    | _, _ => False
  | _ => False
theorem ys_ext (i : Nat) {x : Str} {px pa pc : Pos} {re : PTE} (hN : X.N[i]? = some x) (hv : Vis X.env.scope x) (he : YE X W Ξ e re) (hd : (x == ("__debug__" : Str)) = false := by decide) (hcd : (x == ("__classdict__" : Str)) = false := by decide)
    (hbase : attributeBase (.Name x px) "extend" X.env (eval (.Name x px) X.env) = eval (.Name x px) X.env := by rfl)
    (hfew : ((backTo pc (starEach (e :: []) X.env)).all (fun x => !x.1) && (backToKw pc (keywordEach [] X.env)).all (fun x => x.1.isSome)
      && decide ((e :: []).length + ([] : List Keyword).length + (if ([] : List Keyword).isEmpty then 0 else 1) < 30)) = true := by rfl)
    (hline : (pa.endLine == pc.line) = true := by rfl) (hs : starEach (e :: []) X.env = (false, eval e X.env) :: starEach [] X.env := by rfl) (hplain : (backTo pc (starEach [] X.env)).any (·.1) = false := by rfl)
    (hsw : swapsWith (.Call (.Attribute (.Name x px) "extend" pa) [e] [] pc) none pos.line X.env = pure false := by rfl) :
    YS X W Ξ (.Expr (.Call (.Attribute (.Name x px) "extend" pa) [e] [] pc) pos) (ysExt i re) := by
  obtain ⟨t, p, k⟩ := he.ex
  refine ⟨_, ps_expr (pe_bm PySem.F.plainAttrs_list PySem.F.slot_list_extend PySem.F.type_list_extend mt_extend (pe_var hN hv hd hcd) (pa_cons p pa_nil hs) hbase hfew hline hs hplain) hsw, fun F Hs σ H ε Δ Dd R L q kk => ?_⟩
  unfold ysExt at q
  split at q
  · rename_i ds0 e0
    obtain ⟨p0, vs0, h1, h2, h3, h4, h5⟩ := R.sl i _ e0
    refine ⟨_, h1, .inl ⟨rfl, _, SqL.of h4⟩, ?_⟩
    refine k F Hs σ H ε _ _ R L q fun v H1 Hs1 t1 ε1 e1 R1 p1 q1 => ?_
    obtain ⟨d, ε2, Hs2, e2, R2, rv, q2⟩ := R1.out p1 q1
    split at q2
    · rename_i es ds ei
      obtain ⟨p3, vs, g1, g2, g3, g4, g5⟩ := R2.sl i _ ei
      rw [h1] at g1
      cases g1
      have q2 := gd_elim q2
      cases rv with
      | lst hb rb =>
        refine ⟨_, _, vs, _, rfl, rfl, g4, R2.ex _ _ hb, by rw [g5.len, rb.len]; exact line_le q2.1, ?_⟩
        exact kk.nx σ _ Hs2 _ (e1.trans e2) (R2.change (s' := .o (ds ++ es)) ei rfl rfl h1 g2 g3 ⟨_, _, h1, g2, g3, upd_same, g5.append rb⟩) q2.2
    · exact q2.elim
  · exact q.elim
def unsnoc : List D → Option (List D × D)
  | [] => none
  | [d] => some ([], d)
  | d :: e :: ds => match unsnoc (e :: ds) with
    | some (es, x) => some (d :: es, x)
    | none => none
theorem unsnoc_snoc : ∀ (es : List D) (d : D), unsnoc (es ++ [d]) = some (es, d)
  | [], d => rfl
  | [e], d => rfl
  | e :: e2 :: es, d => by
    show (match unsnoc ((e2 :: es) ++ [d]) with
      | some (es, x) => some (e :: es, x)
      | none => none) = some (e :: e2 :: es, d)
    rw [unsnoc_snoc (e2 :: es) d]
theorem unsnoc_elim : ∀ {ds es : List D} {d : D}, unsnoc ds = some (es, d) → ds = es ++ [d]
  | [], _, _, h => by cases h
  | [x], _, _, h => by cases h; rfl
  | x :: y :: ds, es, d, h => by
    have h2 : (match unsnoc (y :: ds) with
      | some (es, z) => some (x :: es, z)
      | none => none) = some (es, d) := h
    split at h2
    · rename_i e
      cases h2
      rw [unsnoc_elim e] <;> rfl
    · cases h2
def yPop (i : Nat) : PTE := fun ε Q => match ε[i]? with
  | some (some (.o ds)) => opt (unsnoc ds) fun p => Q (.d p.2) (ε.set i (some (.o p.1)))
  | _ => False
theorem Reps.last {K : PySem.W.Frag} {H : Hp} {vs : List V} {es : List D} {d : D} (r : Reps K H vs (es ++ [d])) : ∃ v, vs[vs.length - 1]? = some v ∧ Rep K H v d ∧ Reps K H vs.dropLast es := by
  have hl := r.len
  rw [List.length_append] at hl
  have h1 : (es ++ [d])[vs.length - 1]? = some d := by
    have e : vs.length - 1 = es.length := by
      have : ([d] : List D).length = 1 := rfl
      omega
    rw [e]
    simp
  obtain ⟨v, h2, h3⟩ := r.get h1
  refine ⟨v, h2, h3, ?_⟩
  rw [List.dropLast_eq_take]
  have h4 := r.take (vs.length - 1)
  have e : (es ++ [d]).take (vs.length - 1) = es := by
    have e : vs.length - 1 = es.length := by
      have : ([d] : List D).length = 1 := rfl
      omega
    rw [e]
    simp
  rw [e] at h4
  exact h4
theorem ye_pop (i : Nat) {x : Str} {px pa pc : Pos} (hN : X.N[i]? = some x) (hv : Vis X.env.scope x) (hd : (x == ("__debug__" : Str)) = false := by decide) (hcd : (x == ("__classdict__" : Str)) = false := by decide)
    (hbase : attributeBase (.Name x px) "pop" X.env (eval (.Name x px) X.env) = eval (.Name x px) X.env := by rfl) (hline : (pa.endLine == pc.line) = true := by rfl) :
    YE X W Ξ (.Call (.Attribute (.Name x px) "pop" pa) [] [] pc) (yPop i) := by
  refine ⟨_, pe_bm0 PySem.F.plainAttrs_list PySem.F.slot_list_pop PySem.F.type_list_pop mt_pop (pe_var hN hv hd hcd) hbase hline, fun F Hs σ H ε Q' Q R L q k => ?_⟩
  unfold yPop at q
  split at q
  · rename_i ds e0
    obtain ⟨⟨es, d⟩, eu, q2⟩ := opt_elim q
    have eu := unsnoc_elim eu
    subst eu
    obtain ⟨p0, vs, h1, h2, h3, h4, h5⟩ := R.sl i _ e0
    obtain ⟨v, l1, l2, l3⟩ := h5.last
    refine ⟨_, h1, .inl ⟨rfl, _, SqL.of h4⟩, _, vs, v, rfl, rfl, h4, l1, ?_⟩
    exact k v _ Hs (.d d) _ (Evl.Ex.refl _) (R.change (s' := .o es) e0 rfl rfl h1 h2 h3 ⟨_, _, h1, h2, h3, upd_same, l3⟩) l2 q2
  · exact q.elim
def ysSetIx (i : Nat) (rj re : PTE) : PTS := fun Δ ε => re ε fun t ε1 => out ε1 t fun d ε2 => (match ε2[i]? with
  | some (some (.o _)) => rj ε2 fun t2 ε3 => res ε3 t2 (asI fun j => match ε3[i]? with
    | some (some (.o ds)) => opt (ixN ds.length j) fun n => Δ.nx (ε3.set i (some (.o (ds.set n d))))
    | _ => False)
  | _ => False)
theorem ys_setIx (i : Nat) {x : Str} {px ps : Pos} {j : Expr} {rj re : PTE} (hN : X.N[i]? = some x) (hv : Vis X.env.scope x) (hj : YE X W Ξ j rj) (he : YE X W Ξ e re) (hd : (x == ("__debug__" : Str)) = false := by decide) (hcd : (x == ("__classdict__" : Str)) = false := by decide)
    (ha : ∀ v, assign (.Subscript (.Name x px) j ps) X.env v = (do
      let ov ← holding [v] (eval (.Name x px) X.env)
      let iv ← holding [v, ov] (eval j X.env)
      standAt ps
      holding [v, ov, iv] (setItem ov iv v)
      release [v, ov, iv] []) := by intro _; rfl) (hs : swapsWithSole [.Subscript (.Name x px) j ps] e pos.line X.env = pure false := by rfl) (hw : swappedStores [.Subscript (.Name x px) j ps] e X.env = pure none := by rfl)
    (h1 : (assignEach [.Subscript (.Name x px) j ps] X.env).map (·.2) = [assign (.Subscript (.Name x px) j ps) X.env] := by rfl) :
    YS X W Ξ (.Assign [.Subscript (.Name x px) j ps] e pos) (ysSetIx i rj re) := by
  obtain ⟨t, p, k⟩ := he.ex
  obtain ⟨t2, p2, k2⟩ := hj.ex
  refine ⟨_, ps_asg p (pg_sub (pe_var hN hv hd hcd) p2 set_list ha) hs hw h1, fun F Hs σ H ε Δ Dd R L q kk => ?_⟩
  refine k F Hs σ H ε _ _ R L q fun v H1 Hs1 t1 ε1 e1 R1 p1 q1 => ?_
  obtain ⟨d, ε2, Hs2, e2, R2, rv, q2⟩ := R1.out p1 q1
  split at q2
  · rename_i ds0 e0
    obtain ⟨p0, vs0, g1, _⟩ := R2.sl i _ e0
    refine ⟨_, g1, ?_⟩
    refine k2 F Hs2 σ H1 ε2 _ _ R2 (L.mono (e1.trans e2)) q2 fun w H3 Hs3 t3 ε3 e3 R3 p3 q3 => ?_
    obtain ⟨dj, rj, q4⟩ := R3.res p3 q3
    cases dj with
    | int jj =>
      have q4 : (match ε3[i]? with
        | some (some (.o ds)) => opt (ixN ds.length jj) fun n => Δ.nx (ε3.set i (some (.o (ds.set n d))))
        | _ => False) := q4
      split at q4
      · rename_i ds ei
        obtain ⟨n, hn, q5⟩ := opt_elim q4
        obtain ⟨p3, vs, f1, f2, f3, f4, f5⟩ := R3.sl i _ ei
        rw [g1] at f1
        cases f1
        refine ⟨_, vs, jj, n, rfl, rj.int', f4, by rw [f5.len]; exact hn, ?_⟩
        exact kk.nx σ _ Hs3 _ ((e1.trans e2).trans e3) (R3.change (s' := .o (ds.set n d)) ei rfl rfl g1 f2 f3 ⟨_, _, g1, f2, f3, upd_same, f5.set (rv.mono e3) n⟩) q5
      · exact q4.elim
    | _ => exact False.elim q4
  · exact q2.elim

/-! ### raise -/
def ysRaise (c : Nat) (Ξ : Xi) : PTS := fun _ ε => Ξ c ε
theorem pmk_own0 {C : Addr} {bmB : List Value} {B newId initId : String} {x : Str} {p : Pos} (F : ExcBaseFacts B newId initId bmB) (q : PySem.W.excIn X.K C bmB newId = true) (gC : X.mg x = some (.ref C))
    (kC : PySem.W.keepIn X.K (.ref C) = true) (r : Raises X (.ref C)) (hg : Gl X x) (hdb : (x == ("__debug__" : Str)) = false := by decide) : PMk X (.Call (.Name x p) [] [] pos) (fun _ H Q => Q (.ref C) none H) := by
  intro pins s σ H Q I h
  refine wpAny_Call_Name_kw (ld_glob I hg gC ?_ hdb)
  refine PySem.W.callWith_K0 I.kIn kC ?_
  obtain ⟨bm, N, nm, qn, bs, hdct, sn, sub, ab, col, dd, k0, k1, k2, k3, k5, mN, hC, hN, hni, T⟩ := exc_obj I.kIn q
  refine wpAny_call_exc_subT F T hC hN hni (fun h' e hm => ?_) (by decide)
  exact mk_of I hm r h (I.hok.gone hm.new)
theorem ys_raise (c : Nat) {bmB : List Value} {B newId initId : String} {p p2 : Pos} (hc : X.calm = true) (tk : Takes X W) (F : ExcBaseFacts B newId initId bmB) (q : PySem.W.excIn X.K (exA X.K c) bmB newId = true) (gC : X.mg (exS c) = some (.ref (exA X.K c)))
    (kC : PySem.W.keepIn X.K (.ref (exA X.K c)) = true) (r : Raises X (.ref (exA X.K c))) {x : Str} (hx : exS c = x := by rfl) (hg : Gl X x) (hdb : (x == ("__debug__" : Str)) = false := by decide) : YS X W Ξ (.Raise (some (.Call (.Name x p) [] [] p2)) none pos) (ysRaise c Ξ) := by
  subst hx
  exact
  ⟨_, ps_raise hc tk (pmk_own0 F q gC kC r hg hdb), fun F Hs σ H ε Δ Dd R L q k => L c σ H Hs ε q (Evl.Ex.refl _) R⟩
end

/-! ### a def -/
def startE (N : List Str) (ds : List D) : PEnv := ds.map (fun d => some (.v d)) ++ List.replicate (N.length - ds.length) none
def foreign (Hs H : Hp) : Hp := fun p => match Hs p with
  | none => H p
  | some _ => none
theorem foreign_some {Hs H : Hp} {p : Addr} {o : HO} (h : foreign Hs H p = some o) : H p = some o ∧ Hs p = none := by
  unfold foreign at h
  cases e : Hs p with
  | none => rw [e] at h; exact ⟨h, rfl⟩
  | some u => rw [e] at h; cases h
theorem foreign_of {Hs H : Hp} {p : Addr} {o : HO} (h : H p = some o) (hn : Hs p = none) : foreign Hs H p = some o := by
  unfold foreign
  rw [hn]
  exact h
theorem RelS.keeps {K : PySem.W.Frag} {Hs H Hs' H' : Hp} {σ' : St} {ε' : PEnv} (R : RelS K (foreign Hs H) Hs' σ' H' ε') (e : Ex Hs Hs') : Keeps Hs H Hs' H' := ⟨e, R.ex, fun p o h hn => R.fr p o (foreign_of h hn)⟩
theorem start_get {N : List Str} {ds : List D} {i : Nat} {s : S} (h : (startE N ds)[i]? = some (some s)) : ∃ d, ds[i]? = some d ∧ s = .v d := by
  unfold startE at h
  by_cases hi : i < ds.length
  · rw [List.getElem?_append_left (by rw [List.length_map]; exact hi), List.getElem?_map] at h
    cases e : ds[i]? with
    | none => rw [e] at h; cases h
    | some d =>
      rw [e] at h
      refine ⟨d, rfl, ?_⟩
      exact (Option.some.inj (Option.some.inj h)).symm
  · rw [List.getElem?_append_right (by rw [List.length_map]; omega), List.getElem?_replicate] at h
    split at h <;> cases h
theorem start_at {N : List Str} {vs : List V} {i : Nat} {v : V} (h : vs[i]? = some v) : (L2.start N vs)[i]? = some (some v) := by
  unfold L2.start
  have hi : i < vs.length := (List.getElem?_eq_some_iff.mp h).1
  rw [List.getElem?_append_left (by rw [List.length_map]; exact hi), List.getElem?_map, h] <;> rfl
theorem rel_start {K : PySem.W.Frag} {Hs H : Hp} {N : List Str} {vs : List V} {ds : List D} (e : Ex Hs H) (r : Reps K Hs vs ds) : RelS K (foreign Hs H) Hs (L2.start N vs) H (startE N ds) := by
  refine ⟨e, fun p o h => foreign_some h, ?_, fun i s h => ?_, fun i j s t hn h1 h2 h3 h4 => ?_⟩
  · unfold L2.start startE
    rw [List.length_append, List.length_append, List.length_map, List.length_map, List.length_replicate, List.length_replicate, r.len]
  · obtain ⟨d, hd, rfl⟩ := start_get h
    obtain ⟨v, hv, rv⟩ := r.get hd
    exact ⟨v, start_at hv, rv⟩
  · obtain ⟨d, hd, rfl⟩ := start_get h1
    cases h3
section
variable {P : Program} {w : World} {K : PySem.W.Frag} {mg : Str → Option Value} {base : Heap} {x qual : Str} {params : Arguments} {body : List Stmt} {scope : Scope} {dvs : List V} {kws : List (Str × V)} {f : Addr} {fd : FuncData} {N ps : List Str} {k : Nat} {φ : Spec}
abbrev cxY (P : Program) (w : World) (K : PySem.W.Frag) (mg : Str → Option Value) (base : Heap) (N : List Str) (qual : Str) (scope : Scope) (f : Addr) (cdv : Value) (A : Around) (outer : List Env) (s : Shared) (H : Hp) (E : XK) : Cx := cxOf (L2.CX P w) P w K mg base N qual scope f cdv A outer s H E
abbrev wY (E : XK) : WX := fun cls d _ H => E cls d H
theorem fun_ok (F : FunD K x qual params body scope dvs kws f fd) (S : FnScope N ps scope) (len : ∀ ds Q E, φ ds Q E → ds.length = ps.length) (r : Xi → PTS)
    (hbody : ∀ (cdv : Value) (A : Around) (outer : List Env) (s : Shared) (H : Hp) (E : XK) (Ξ : Xi), Room k (A.deeper (envOfC qual scope s.heap.objs.size f cdv)) → YSs (cxY P w K mg base N qual scope f cdv A outer s H E) (wY E) Ξ body (r Ξ))
    (vc : ∀ (ds : List D) (Q' : D → Prop) (E' : Nat → Prop), φ ds Q' E' → r (fun c _ => E' c) { nx := fun _ => Q' .non, rt := fun d _ => Q' d } (startE N ds)) : FnOk P w K mg base (L2.CX P w) (k + 1) f fd ps (pSp K φ) := by
  refine F.ok S (fun vs H Q E h => ?_) (fun cdv A outer s H vs Q E hr h => ?_)
  · obtain ⟨Hs, ds, Q', E', _, rs, h, _⟩ := h
    rw [rs.len]
    exact len ds Q' E' h
  · obtain ⟨Hs, ds, Q', E', ex, rs, h, hq, he⟩ := h
    obtain ⟨t, p, kk⟩ := (hbody cdv A outer s H E (fun c _ => E' c) hr).ex
    refine ⟨t, p, kk (foreign Hs H) Hs _ H _ _ _ (rel_start ex rs) (fun c σ' H' Hs' ε' hc e' R' => he c hc H' Hs' (R'.keeps e')) (vc ds Q' E' h) ⟨fun σ' H' Hs' ε' e' R' q' => ?_, fun v σ' H' Hs' d ε' e' R' rv q' => ?_, fun _ _ _ _ _ _ q => q.elim, fun _ _ _ _ _ _ q => q.elim⟩⟩
    · exact hq .non q' .non H' Hs' (R'.keeps e') .non
    · exact hq d q' v H' Hs' (R'.keeps e') rv
end
end PL

set_option Elab.async false
set_option linter.all false
set_option autoImplicit false
set_option maxRecDepth 100000
set_option maxHeartbeats 2000000
/-! try, a pair stored, the pool opened in a def, the law's end. -/
namespace PL
open PySem PySem.Spec PyProof.Rows L2
open Evl (Ex)

/-! ### try: .. except PageError as e: .. -/
/-- is class c one that an except clause of class t takes (0: the base of all) -/
def exSub (c t : Nat) : Bool := c == t || t == 0
/-- what the written part says of the classes in cs -/
structure ExK (K : PySem.W.Frag) (cs : List Nat) : Prop where
  exm : ∀ c ∈ cs, PySem.W.exmOne K (.ref (exA K c)) (.ref (exA K 0)) = some true
  kit : ∀ c ∈ cs, ∀ t ∈ cs, PySem.W.kitOne K (.ref (exA K c)) (.ref (exA K t)) = some (exSub c t)
  exc : ∀ c ∈ cs, ExcC K (exA K c)
section
variable {X : Cx} {W : WX} {Ξ : Xi}
/-- the suite sees the error's class as a datum -/
def excD (a : Addr) : D := .vl (.ref a)
def ysTry (cs : List Nat) (i : Nat) (rb : Xi → PTS) (rs : Addr → Nat → PTS) : PTS := fun Δ ε =>
  rb (fun c ε' => c ∈ cs ∧ ∀ a : Addr, rs a c { nx := fun ε2 => Δ.nx (ε2.set i none), rt := fun d ε2 => Δ.rt d (ε2.set i none), bk := fun ε2 => Δ.bk (ε2.set i none), ct := fun ε2 => Δ.ct (ε2.set i none) } (ε'.set i (some (.v (excD a))))) Δ ε
theorem RelS.drop {K : PySem.W.Frag} {F Hs H : Hp} {σ : St} {ε : PEnv} (R : RelS K F Hs σ H ε) (i : Nat) : RelS K F Hs (σ.set i none) H (ε.set i none) := by
  refine ⟨R.ex, R.fr, by rw [List.length_set, List.length_set]; exact R.len, fun j t q => ?_, fun j k t u hn h1 h2 h3 h4 => ?_⟩
  · have hj : i ≠ j := by
      rintro rfl
      by_cases hi : i < ε.length
      · rw [List.getElem?_set_self hi] at q; cases q
      · rw [List.getElem?_eq_none (by rw [List.length_set]; omega)] at q; cases q
    rw [List.getElem?_set_ne hj] at q
    exact (R.sl j t q).at (List.getElem?_set_ne hj)
  · have ne : ∀ (j : Nat) (t : S), (ε.set i none)[j]? = some (some t) → i ≠ j := by
      rintro j t q rfl
      by_cases hi : i < ε.length
      · rw [List.getElem?_set_self hi] at q; cases q
      · rw [List.getElem?_eq_none (by rw [List.length_set]; omega)] at q; cases q
    have nj := ne j t h1
    have nk := ne k u h2
    rw [List.getElem?_set_ne nj] at h1 ⊢
    rw [List.getElem?_set_ne nk] at h2 ⊢
    exact R.ds j k t u hn h1 h2 h3 h4
theorem ys_try {cs : List Nat} (i : Nat) {n x : Str} {body suite : List Stmt} {b₀ : Stmt} {np pos pos' : Pos} {rb : Xi → PTS} {rs : Addr → Nat → PTS} (xk : ExK X.K cs) (hs : X.stack = X.env :: X.outer) (hf : X.env.frame = some X.env.locals) (hN : X.N.Nodup) (hi : X.N[i]? = some n)
    (hln : X.env.kindOf n = some .local) (hx : exS 0 = x) (hc : Names X x (.ref (exA X.K 0))) (tk : Takes X W)
    (hb : ∀ (W : WX) (Ξ : Xi) (pn : List (Addr × Obj)) (xe : Value → Shared → Prop), Takes (X.tr pn xe) W → PassesOwn (model X.prog X.w) X.A X.env xe → YSs (X.tr pn xe) W Ξ body (rb Ξ))
    (hsu : ∀ (c : Nat) (a : Addr) (oe : Obj) (pn : List (Addr × Obj)), c ∈ cs → ExcC X.K (exA X.K c) → Zc (.ref (exA X.K c)) none oe → (∃ vs, oe.data = .fields vs) → YSs (X.suite a ((a, oe) :: pn)) W0 Ξ0 (b₀ :: suite) (rs a c)) :
    YS X W Ξ (.Try body [.ExceptHandler (some (.Name x np)) (some n) (b₀ :: suite) pos'] [] [] pos) (ysTry cs i rb rs) := by
  subst hx
  let ts : Addr → Value → Option Addr → TS := fun a cls d Dd σ H => ∃ c, c ∈ cs ∧ cls = .ref (exA X.K c) ∧ d = none ∧ cSs X.K W0 Ξ0 (rs a c) Dd σ H
  have hsu' : ∀ (a : Addr) (oe : Obj) (cls : Value) (d : Option Addr) (pn : List (Addr × Obj)), Zc cls d oe → (∃ vs, oe.data = .fields vs) → PSs (X.suite a ((a, oe) :: pn)) (b₀ :: suite) (ts a cls d) := by
    intro a oe cls d pn hz hfv
    refine ⟨fun pins s σ H Dd I ⟨c, hc1, e1, e2, q⟩ => ?_⟩
    subst e1 e2
    exact (hsu c a oe pn hc1 (xk.exc c hc1) hz hfv).canon.run pins s σ H Dd I q
  -- the body, for any wish
  let tb : WX → TS := fun Wb Dd σ H => ∃ (Ξb : Xi), cSs X.K Wb Ξb (rb Ξb) Dd σ H
  have hb' : ∀ (W : WX) (pn : List (Addr × Obj)) (xe : Value → Shared → Prop), Takes (X.tr pn xe) W → PassesOwn (model X.prog X.w) X.A X.env xe → PSs (X.tr pn xe) body (tb W) := by
    intro W pn xe tk po
    exact ⟨fun pins s σ H Dd I ⟨Ξb, q⟩ => (hb W Ξb pn xe tk po).canon.run pins s σ H Dd I q⟩
  refine ⟨_, ps_try_as (ts := ts) (tb := tb) hs hf hN hi hln hc tk hb' hsu', fun F Hs σ H ε Δ Dd R L q kk => ?_⟩
  refine ⟨_, F, Hs, ε, Δ, R, ?_, q, kk⟩
  intro c σ' H' Hs' ε' hq e' R'
  obtain ⟨hc1, hq⟩ := hq
  refine ⟨true, xk.exm c hc1, fun _ a na => ?_, fun h => Bool.noConfusion h⟩
  have R2 : RelS X.K F Hs' (σ'.set i (some (.ref a))) H' (ε'.set i (some (.v (excD a)))) := R'.store (.vl (.ref a)) i
  refine ⟨c, hc1, rfl, rfl, F, Hs', _, _, R2, Lk.none, hq a, ⟨fun σ3 H3 Hs3 ε3 e3 R3 q3 => ?_, fun v σ3 H3 Hs3 d ε3 e3 R3 rv q3 => ?_, fun σ3 H3 Hs3 ε3 e3 R3 q3 => ?_, fun σ3 H3 Hs3 ε3 e3 R3 q3 => ?_⟩⟩
  · exact kk.nx _ H3 Hs3 _ (e'.trans e3) (R3.drop i) q3
  · exact kk.rt v _ H3 Hs3 d _ (e'.trans e3) (R3.drop i) rv q3
  · exact kk.bk _ H3 Hs3 _ (e'.trans e3) (R3.drop i) q3
  · exact kk.ct _ H3 Hs3 _ (e'.trans e3) (R3.drop i) q3
/-- isinstance(e, C), e what the suite holds -/
def yIsE (i : Nat) (a : Addr) (c t : Nat) : PTE := fun ε Q => ε[i]? = some (some (.v (excD a))) ∧ Q (.d (.bl (exSub c t))) ε
theorem ye_isE {a : Addr} {oe : Obj} {pn : List (Addr × Obj)} {cs : List Nat} (c t i : Nat) {n x : Str} {p p1 p2 pos : Pos} (xk : ExK X.K cs) (hc1 : c ∈ cs) (ht1 : t ∈ cs) (hz : Zc (.ref (exA X.K c)) none oe) (hf : ∃ vs, oe.data = .fields vs) (hg : Gl X "isinstance") (hm : X.mg "isinstance" = none)
    (hN : X.N[i]? = some n) (hv : Vis X.env.scope n) (hx : exS t = x) (hgx : Gl X x) (hmx : X.mg x = some (.ref (exA X.K t))) (hd : (n == ("__debug__" : Str)) = false := by decide) (hcd : (n == ("__classdict__" : Str)) = false := by decide) (hdx : (x == ("__debug__" : Str)) = false := by decide)
    (hst : starEach [.Name n p1, .Name x p2] X.env = (false, eval (.Name n p1) X.env) :: starEach [.Name x p2] X.env := by rfl) (hs2 : starEach [.Name x p2] X.env = (false, eval (.Name x p2) X.env) :: starEach [] X.env := by rfl) (hpl : (backTo pos (starEach [.Name x p2] X.env)).any (·.1) = false := by rfl) :
    YE (X.suite a ((a, oe) :: pn)) W Ξ (.Call (.Name "isinstance" p) [.Name n p1, .Name x p2] [] pos) (yIsE i a c t) := by
  subst hx
  have C := xk.exc c hc1
  refine ⟨_, pe_callB (X := X.suite a ((a, oe) :: pn)) (call_isE (X := X) C hz hf) hg hm PyProof.Rows.boot_isinstance (pa_cons (X := X.suite a ((a, oe) :: pn)) (pe_var (X := X.suite a ((a, oe) :: pn)) hN hv hd hcd) (pa_cons (X := X.suite a ((a, oe) :: pn)) (pe_glob (X := X.suite a ((a, oe) :: pn)) (v := .ref (exA X.K t)) hgx hmx rfl hdx) pa_nil hs2) hst) (by decide) (by decide) hst hpl, fun F Hs σ H ε Q' Q R L q k => ?_⟩
  obtain ⟨e0, q⟩ := q
  obtain ⟨v, h1, h2⟩ := R.sl i _ e0
  cases h2
  refine ⟨_, h1, ?_⟩
  exact ⟨.ref (exA X.K t), .ref (exA X.K t), exSub c t, rfl, fun u r => r, xk.kit c hc1 t ht1, k (.bl _) H Hs (.d (.bl _)) ε (Evl.Ex.refl _) R (.bl _) q⟩
end
end PL

set_option Elab.async false
set_option linter.all false
set_option autoImplicit false
set_option maxRecDepth 100000
set_option maxHeartbeats 2000000
/-! The stream of numbers, made, drawn from; a pair stored; the law's end. -/
namespace PL
open PySem PySem.Spec PyProof.Rows L2
open Evl (Ex)

/-! ### one tracked object told otherwise -/
section
variable {P : Program} {w : World} {H : Hp} {h h' : Heap} {p : Addr} {o o' : HO}
theorem retell_ok (ok : HOk P w H h) (hp : H p = some o) (n1 : ∀ a, o ≠ .own a) (n2 : ∀ xs, o ≠ .tup xs) (new : ObjOk P w (upd H p o') h p o') : HOk P w (upd H p o') h := fun b u e => by
  by_cases hb : b = p
  · subst hb
    rw [upd_same] at e
    cases e
    exact new
  · rw [upd_ne hb] at e
    have ne1 : ∀ c a, H c = some (.own a) → c ≠ p := fun c a q z => by
      subst z
      rw [hp] at q
      exact n1 a (Option.some.inj q)
    have ne2 : ∀ c xs, H c = some (.tup xs) → c ≠ p := fun c xs q z => by
      subst z
      rw [hp] at q
      exact n2 xs (Option.some.inj q)
    exact (ok b u e).stay (fun c v _ q => q) (fun c q => by rw [upd_ne (ne1 c b q)]; exact q) fun c xs q => by rw [upd_ne (ne2 c xs q)]; exact q
end
theorem pool_obj {P : Program} {w : World} {H : Hp} {h : Heap} {p : Addr} {ns : List Int} (x : ObjOk P w H h p (.lst (ns.map V.int))) (ok : PoolOk ns) (H' : Hp) : ObjOk P w H' h p (.ext (PoolAt p)) := by
  obtain ⟨z, its, n, r, e⟩ := x
  refine ⟨⟨its, n, ns, e, r, ok⟩, ⟨_, e⟩, fun h1 h2 ⟨its, n, ns, e, r, ok⟩ k => ⟨its, n, ns, k _ e, r, ok⟩⟩
theorem obj_pool {P : Program} {w : World} {H : Hp} {h : Heap} {p : Addr} (x : ObjOk P w H h p (.ext (PoolAt p))) (H' : Hp) : ∃ ns, PoolOk ns ∧ ObjOk P w H' h p (.lst (ns.map V.int)) := by
  obtain ⟨⟨its, n, ns, e, r, ok⟩, _⟩ := x
  refine ⟨ns, ok, ?_, its, n, r, e⟩
  rw [List.length_map, sizeLine_eq]
  exact Nat.le_trans ok.2.1 (by decide)
/-! ### drawing -/
/-- a draw, with the list in sight -/
def spPick : Sp := fun vs H Q _ => ∃ (p : Addr) (n : Int) (ns : List Int), vs = [.ref p, .int n] ∧ H p = some (.lst (ns.map V.int)) ∧ PoolOk ns ∧ 0 < n ∧
  ∀ (r : Int) (ns' : List Int), 0 ≤ r → r < n → PoolOk ns' → Q (.int r) (upd H p (.lst (ns'.map V.int)))
def φPick : Spec
  | [.pool, .int n], Q, _ => gd (0 < n) (∀ r : Int, 0 ≤ r → r < n → Q (.int r))
  | _, _, _ => False
theorem φPick_inv {ds : List D} {Q : D → Prop} {E : Nat → Prop} (h : φPick ds Q E) : ∃ n, ds = [.pool, .int n] ∧ 0 < n ∧ ∀ r : Int, 0 ≤ r → r < n → Q (.int r) := by
  unfold φPick at h
  split at h
  · exact ⟨_, rfl, gd_elim h⟩
  · exact h.elim
theorem cx_never {P : Program} {w : World} {outer : List Env} {H : Hp} {s s' : Shared} {u : Value} (h : L2.CX P w outer H s (fun _ _ _ => False) u s') : False := by
  obtain ⟨_, _, _, _, _, _, _, _, _, _, _, _, z⟩ := h
  exact z
section
variable {P : Program} {w : World} {K : PySem.W.Frag} {mg : Str → Option Value} {base : Heap} {k : Nat} {f : Addr} {fd : FuncData} {ps : List Str}
theorem env0_retell {A : Around} {outer : List Env} {s : Shared} {H : Hp} {p : Addr} {o o' : HO} (e : Env0 P w K mg base A outer s H) (hp : H p = some o) (n1 : ∀ a, o ≠ .own a) (n2 : ∀ xs, o ≠ .tup xs) (new : ObjOk P w (upd H p o') s.heap p o') : Env0 P w K mg base A outer s (upd H p o') :=
  
  have h1 : ∀ b, H b = none → upd H p o' b = none := fun b q => by
    have ne : b ≠ p := fun z => by
      subst z
      rw [q] at hp
      cases hp
    rw [upd_ne ne]
    exact q
  ⟨e.frames, e.mod, fun b u q => ⟨(e.bs b u q).1, h1 b (e.bs b u q).2⟩, e.bsz, e.funs, fun b hb => h1 b (e.frf b hb), retell_ok e.hok hp n1 n2 new, e.bare⟩
theorem pick_close (F : FnOk P w K mg base (L2.CX P w) k f fd ps spPick) : FnOk P w K mg base (L2.CX P w) k f fd ps (pSp K φPick) := by
  refine ⟨fun vs H Q E h => ?_, fun A outer s H args us vs Q E hr e0 hb hv h => ?_⟩
  · obtain ⟨Hs, ds, Q', E', ex, rs, h, _⟩ := h
    obtain ⟨n, rfl, h0n, hn⟩ := φPick_inv h
    · cases rs with
      | cons r1 r2 =>
        cases r2 with
        | cons r2 r3 =>
          cases r3
          cases r1
          cases r2
          exact F.len [.ref _, .int _] (upd H _ (.lst ([1, 1].map V.int))) (fun _ _ => True) (fun _ _ _ => False) ⟨_, _, [1, 1], rfl, upd_same, ⟨by decide, by decide, 1, rfl, by decide, by decide⟩, h0n, fun _ _ _ _ _ => trivial⟩
  · obtain ⟨Hs, ds, Q', E', ex, rs, h, hq, _⟩ := h
    obtain ⟨n, rfl, h0n, hn⟩ := φPick_inv h
    · cases rs with
      | cons r1 r2 =>
        cases r2 with
        | cons r2 r3 =>
          cases r3
          cases r1 with
          | pool hsp =>
            rename_i p
            cases r2
            have hp : H p = some (.ext (PoolAt p)) := ex _ _ hsp
            obtain ⟨ns, ok, ob⟩ := obj_pool (e0.hok p _ hp) (upd H p (.lst ([] : List V)))
            obtain ⟨ns, ok, ob⟩ := obj_pool (e0.hok p _ hp) (upd H p (.lst (ns.map V.int)))
            have ob2 : ObjOk P w (upd H p (.lst (ns.map V.int))) s.heap p (.lst (ns.map V.int)) := ob
            have e1 := env0_retell (o' := .lst (ns.map V.int)) e0 hp (fun a z => by cases z) (fun a z => by cases z) ob2
            refine codeAny_mono (F.run A outer s (upd H p (.lst (ns.map V.int))) args us [.ref p, .int n] (fun v H' => ∃ (r : Int) (ns' : List Int), v = .int r ∧ 0 ≤ r ∧ r < n ∧ PoolOk ns' ∧ H' = upd H p (.lst (ns'.map V.int))) (fun _ _ _ => False) hr e1 hb hv
              ⟨p, n, ns, rfl, upd_same, ok, h0n, fun r ns' h0 h1 ok' => ⟨r, ns', rfl, h0, h1, ok', upd_upd⟩⟩) fun rr s' hrr => ?_
            cases rr with
            | error e => exact (cx_never hrr).elim
            | ok fl =>
              cases fl with
              | ret u =>
                obtain ⟨v, H', os, bare, un, hok, rv, r, ns', rfl, h0, h1, ok', rfl⟩ := hrr
                have hpe : upd H p (.ext (PoolAt p)) = H := by
                  funext b
                  by_cases hb : b = p
                  · subst hb; rw [upd_same, hp]
                  · rw [upd_ne hb]
                have hok2 : HOk P w H s'.heap := by
                  have z := retell_ok (o' := .ext (PoolAt p)) hok (p := p) upd_same (fun a z => by cases z) (fun a z => by cases z) (pool_obj (hok p _ upd_same) ok' _)
                  rw [upd_upd, hpe] at z
                  exact z
                refine ⟨.int r, H, os, bare, ⟨fun b ob q n hf hx => un.keep b ob q ?_ hf hx, fun b ob q n hf hx => un.slot b ob q ?_ hf hx, fun b ob q n hx => n, un.there, fun b xs q => q, fun b ob u q => q, fun b ps q => ⟨#[], by rw [q]; simp⟩⟩, hok2, rv, ?_⟩
                · rw [upd_ne]
                  · exact n
                  · intro z; subst z; rw [hp] at n; cases n
                · rw [upd_ne]
                  · exact n
                  · intro z; subst z; rw [hp] at n; cases n
                · exact hq (.int r) (hn r h0 h1) (.int r) H Hs ⟨Evl.Ex.refl _, ex, fun b o q1 q2 => ⟨q1, q2⟩⟩ (.int r)
              | next => exact False.elim hrr
              | brk => exact False.elim hrr
              | cont => exact False.elim hrr
/-- the stream is made: a new list becomes the stream -/
def φList : Spec
  | [.frl ds], Q, _ => ∃ xs : List Int, ds = xs.map D.int ∧ xs.length ≤ 63 ∧ ∀ ns : List Int, PoolOk ns → Q (.lst (ns.map D.int))
  | _, _, _ => False
def φStream : Spec
  | [.frl ds], Q, _ => (∃ xs : List Int, ds = xs.map D.int ∧ xs.length ≤ 63) ∧ Q .pool
  | _, _, _ => False
/-- what is locked in H alone -/
def locked (H : Hp) : Hp := fun b => match H b with
  | some (.frz o u) => some (.frz o u)
  | _ => none
theorem locked_ex {H : Hp} : Ex (locked H) H := fun b o e => by
  unfold locked at e
  split at e
  · rename_i o' u h
    rw [h]
    exact e
  · cases e
theorem stream_close (F : FnOk P w K mg base (L2.CX P w) k f fd ps (pSp K φList)) : FnOk P w K mg base (L2.CX P w) k f fd ps (pSp K φStream) := by
  have conv : ∀ {vs H Q E}, pSp K φStream vs H Q E → pSp K φList vs H (fun v H' => ∃ (p : Addr) (ns : List Int) (Hs' : Hp), v = .ref p ∧ PoolOk ns ∧ Keeps (locked H) H Hs' H' ∧ Hs' p = some (.lst (ns.map V.int))) (fun _ _ _ => False) := by
    intro vs H Q E h
    obtain ⟨Hs, ds, Q', E', ex, rs, h, hq, he⟩ := h
    unfold φStream at h
    split at h
    · obtain ⟨⟨xs, rfl, hx⟩, h⟩ := h
      cases rs with
      | cons r1 r2 =>
        cases r2
        cases r1 with
        | frl hs rr =>
          rename_i a ws
          have er := rr.inv_ints
          subst er
          have hs2 : FrL K (locked H) a (xs.map V.int) := by
            rcases hs with ⟨o, hs⟩ | hs
            · refine .inl ⟨o, ?_⟩
              unfold locked
              rw [ex _ _ hs]
            · exact .inr hs
          refine ⟨locked H, _, fun d => ∃ ns, PoolOk ns ∧ d = .lst (ns.map D.int), fun _ => False, locked_ex, .cons (.frl hs2 (Reps.ints xs)) .nil, ⟨xs, rfl, hx, fun ns ok => ⟨ns, ok, rfl⟩⟩, fun d ⟨ns, ok, e⟩ v H' Hs' kp rv => ?_, fun _ z => z.elim⟩
          subst e
          cases rv with
          | lst hp rr2 =>
            have e2 := rr2.inv_ints
            subst e2
            exact ⟨_, ns, Hs', rfl, ok, kp, hp⟩
    · exact h.elim
  refine ⟨fun vs H Q E h => F.len _ _ _ _ (conv h), fun A outer s H args us vs Q E hr e0 hb hv h => ?_⟩
  refine codeAny_mono (F.run A outer s H args us vs _ (fun _ _ _ => False) hr e0 hb hv (conv h)) fun rr s' hrr => ?_
  obtain ⟨Hs, ds, Q', E', ex, rs, h, hq, he⟩ := h
  unfold φStream at h
  split at h
  · obtain ⟨_, h⟩ := h
    cases rr with
    | error e => exact (cx_never hrr).elim
    | ok fl =>
      cases fl with
      | ret u =>
        obtain ⟨v, H', os, bare, un, hok, rv, p, ns, Hs', rfl, ok, kp, hp⟩ := hrr
        have hp' : H' p = some (.lst (ns.map V.int)) := kp.2.1 _ _ hp
        have lp : locked H p = none := by
          cases e : locked H p with
          | none => rfl
          | some o =>
            have e2 := kp.1 _ _ e
            rw [hp] at e2
            unfold locked at e
            split at e
            · cases e
              cases e2
            · cases e
        have hH : H p = none := by
          cases e : H p with
          | none => rfl
          | some o =>
            have e2 := (kp.2.2 p o e lp).2
            rw [hp] at e2
            cases e2
        have hh : s.heap.get? p = none := by
          cases e : s.heap.get? p with
          | none => rfl
          | some o =>
            have e2 := un.free p o e hH (by simp)
            rw [hp'] at e2
            cases e2
        have old : ∀ b o, H b = some o → H' b = some o := fun b o q => by
          cases e : locked H b with
          | none => exact (kp.2.2 b o q e).1
          | some o' =>
            have q2 := locked_ex b o' e
            rw [q] at q2
            cases q2
            exact kp.2.1 _ _ (kp.1 _ _ e)
        have nep : ∀ b, H b ≠ none → b ≠ p := fun b q z => by
          subst z
          exact q hH
        have hok2 : HOk P w (upd H' p (.ext (PoolAt p))) s'.heap := retell_ok hok hp' (fun a z => by cases z) (fun a z => by cases z) (pool_obj (hok p _ hp') ok _)
        refine ⟨.ref p, upd H' p (.ext (PoolAt p)), os, bare, ⟨un.keep, un.slot, fun b ob q n hx => ?_, un.there, fun b xs q => ?_, fun b ob u q => ?_, fun b ps q => ?_⟩, hok2, rv, ?_⟩
        · have ne : b ≠ p := by
            intro z
            subst z
            rw [hh] at q
            cases q
          rw [upd_ne ne]
          exact un.free b ob q n hx
        · rw [upd_ne (nep b (by rw [q]; simp))]
          exact un.tups b xs q
        · rw [upd_ne (nep b (by rw [q]; simp))]
          exact un.frzs b ob u q
        · rw [upd_ne (nep b (by rw [q]; simp))]
          exact un.tbls b ps q
        · have hsp : Hs p = none := Evl.fresh_back ex hH
          refine hq .pool h (.ref p) _ (upd Hs p (.ext (PoolAt p))) ⟨ex_upd hsp, fun b o q => ?_, fun b o q1 q2 => ?_⟩ (.pool upd_same)
          · by_cases hb : b = p
            · subst hb
              rw [upd_same] at q ⊢
              exact q
            · rw [upd_ne hb] at q ⊢
              exact old b o (ex b o q)
          · have ne := nep b (by rw [q1]; simp)
            rw [upd_ne ne, upd_ne ne]
            exact ⟨old b o q1, q2⟩
      | next => exact False.elim hrr
      | brk => exact False.elim hrr
      | cont => exact False.elim hrr
  · exact h.elim
/-- the law's promise, as the head asks it -/
def φLaw : Spec
  | [.frl ds], Q, _ => ∃ xs : List Int, ds = xs.map D.int ∧ xs.length ≤ 63 ∧ Q (.bl true)
  | _, _, _ => False
theorem law_sp {H : Hp} {a : Addr} {ns : List Int} (hl : ns.length ≤ 63) (ho : L2.Only H) (hs : SqL K H a (ns.map V.int)) : pSp K φLaw [.ref a] H (fun v _ => v = .bl true) (fun _ _ _ => False) := by
  have hs2 : FrL K H a (ns.map V.int) := by
    rcases hs with (hs | ⟨o, hs⟩) | hs
    · rcases ho a with h | ⟨o, xs, h⟩
      · rw [hs] at h; cases h
      · rw [hs] at h; cases h
    · exact .inl ⟨o, hs⟩
    · exact .inr hs
  refine ⟨H, [.frl (ns.map D.int)], fun d => d = .bl true, fun _ => False, Evl.Ex.refl _, .cons (.frl hs2 (Reps.ints ns)) .nil, ⟨ns, rfl, hl, rfl⟩, fun d e v H' Hs' kp rv => ?_, fun _ z => z.elim⟩
  subst e
  cases rv
  rfl
end
end PL

set_option Elab.async false
set_option linter.all false
set_option autoImplicit false
set_option maxRecDepth 100000
set_option maxHeartbeats 2000000
/-! a, b = x, y -/
namespace PL
open PySem PySem.Spec PyProof.Rows L2
open Evl (Ex)
/-- what a name is to hold, on the way: a datum, or a new list that is nobody's yet -/
def Pend (K : PySem.W.Frag) (F Hs : Hp) (σ : St) (H : Hp) (ε : PEnv) (v : V) : S → Prop
  | .v d => Rep K Hs v d
  | .o ds => ∃ p vs, v = .ref p ∧ H p = some (.lst vs) ∧ Hs p = none ∧ F p = none ∧ Nobody σ ε p ∧ Reps K Hs vs ds
  | .od _ => False
abbrev PTX := PEnv → (S → PEnv → Prop) → Prop
structure YX (X : Cx) (W : WX) (Ξ : Xi) (e : Expr) (r : PTX) : Prop where
  ex : ∃ t, PE X e t ∧ ∀ (F Hs : Hp) (σ : St) (H : Hp) (ε : PEnv) (Q' : S → PEnv → Prop) (Q : VK), RelS X.K F Hs σ H ε → Lk X.K F Hs W Ξ → r ε Q' →
    (∀ (v : V) (H' Hs' : Hp) (s : S) (ε' : PEnv), Ex Hs Hs' → RelS X.K F Hs' σ H' ε' → Pend X.K F Hs' σ H' ε' v s → Q' s ε' → Q v H') → t σ H Q
section
variable {X : Cx} {W : WX} {Ξ : Xi} {e : Expr} {pos : Pos}
def yxE (r : PTE) : PTX := fun ε Q => r ε fun t ε1 => out ε1 t fun d ε2 => Q (.v d) ε2
def yxN (r : PTN) : PTX := fun ε Q => r ε fun ds ε1 => Q (.o ds) ε1
theorem yx_e {r : PTE} (h : YE X W Ξ e r) : YX X W Ξ e (yxE r) := by
  obtain ⟨t, p, k⟩ := h.ex
  refine ⟨t, p, fun F Hs σ H ε Q' Q R L q kk => k F Hs σ H ε _ _ R L q fun v H1 Hs1 t1 ε1 e1 R1 p1 q1 => ?_⟩
  obtain ⟨d, ε2, Hs2, e2, R2, rv, q2⟩ := R1.out p1 q1
  exact kk v H1 Hs2 (.v d) ε2 (e1.trans e2) R2 rv q2
theorem yx_n {r : PTN} (h : YN X W Ξ e r) : YX X W Ξ e (yxN r) := by
  obtain ⟨t, p, k⟩ := h.ex
  exact ⟨t, p, fun F Hs σ H ε Q' Q R L q kk => k F Hs σ H ε _ _ R L q fun p H' Hs' vs ds ε' e R' g1 g2 g3 g4 rs q' => kk (.ref p) H' Hs' (.o ds) ε' e R' ⟨p, vs, rfl, g1, g2, g3, g4, rs⟩ q'⟩
theorem pend_store {K : PySem.W.Frag} {F Hs H : Hp} {σ : St} {ε : PEnv} {v : V} {s : S} (R : RelS K F Hs σ H ε) (h : Pend K F Hs σ H ε v s) (i : Nat) : RelS K F Hs (σ.set i (some v)) H (ε.set i (some s)) := by
  cases s with
  | v d => exact R.store h i
  | o ds =>
    obtain ⟨p, vs, rfl, g1, g2, g3, g4, rs⟩ := h
    exact storeO_of R i g1 g2 g3 g4 rs
  | od _ => exact h.elim
def ysPar (i j : Nat) (ra rb : PTX) : PTS := fun Δ ε => ra ε fun s1 ε1 => rb ε1 fun s2 ε2 => Δ.nx ((ε2.set i (some s1)).set j (some s2))
theorem nobody_set {σ : St} {ε : PEnv} {p q : Addr} {s : S} {i : Nat} (h : Nobody σ ε p) (hq : q ≠ p) : Nobody (σ.set i (some (.ref q))) (ε.set i (some s)) p := fun k t e so z => by
  by_cases hk : i = k
  · subst hk
    by_cases hi : i < σ.length
    · rw [List.getElem?_set_self hi] at z
      exact hq (V.ref.inj (Option.some.inj (Option.some.inj z)))
    · rw [List.getElem?_eq_none (by rw [List.length_set]; omega)] at z
      cases z
  · rw [List.getElem?_set_ne hk] at e z
    exact h k t e so z
theorem nobody_setV {σ : St} {ε : PEnv} {p : Addr} {d : D} {v : V} {i : Nat} (h : Nobody σ ε p) : Nobody (σ.set i (some v)) (ε.set i (some (.v d))) p := fun k t e so z => by
  by_cases hk : i = k
  · subst hk
    by_cases hi : i < ε.length
    · rw [List.getElem?_set_self hi] at e
      cases e
      cases so
    · rw [List.getElem?_eq_none (by rw [List.length_set]; omega)] at e
      cases e
  · rw [List.getElem?_set_ne hk] at e z
    exact h k t e so z
theorem ys_par (i j : Nat) {x y : Str} {a b : Expr} {ra rb : PTX} {px py pt : Pos} {kt k2 : Nat} {pt2 : Pos} (hc : X.calm = true) (hN : X.N.Nodup) (hi : X.N[i]? = some x) (hj : X.N[j]? = some y) (hij : i ≠ j)
    (hx : X.env.scope.names.lookup x = some .local) (hy : X.env.scope.names.lookup y = some .local) (ha : YX X W Ξ a ra) (hb : YX X W Ξ b rb)
    (hst : starEach [a, b] X.env = (false, eval a X.env) :: starEach [b] X.env := by rfl) (hst2 : starEach [b] X.env = (false, eval b X.env) :: starEach [] X.env := by rfl)
    (hw : swappedStores [.Tuple [.Name x px, .Name y py] kt pt] (.Tuple [a, b] k2 pt2) X.env = pure (some [x, y]) := by rfl)
    (hs : swapsWithSole [.Tuple [.Name x px, .Name y py] kt pt] (.Tuple [a, b] k2 pt2) pos.line X.env = pure false := by rfl) :
    YS X W Ξ (.Assign [.Tuple [.Name x px, .Name y py] kt pt] (.Tuple [a, b] k2 pt2) pos) (ysPar i j ra rb) := by
  obtain ⟨ta, pa, ka⟩ := ha.ex
  obtain ⟨tb, pb, kb⟩ := hb.ex
  refine ⟨_, ps_par hc hN hi hj hij hx hy (pa_cons pa (pa_cons pb pa_nil hst2) hst) hw hs, fun F Hs σ H ε Δ Dd R L q kk => ?_⟩
  refine ka F Hs σ H ε _ _ R L q fun v H1 Hs1 s1 ε1 e1 R1 p1 q1 => ?_
  cases s1 with
  | v d =>
    refine kb F Hs1 σ H1 ε1 _ _ R1 (L.mono e1) q1 fun w H2 Hs2 s2 ε2 e2 R2 p2 q2 => ?_
    refine ⟨v, w, rfl, ?_⟩
    have R3 := R2.store (Rep.mono e2 p1) i
    refine kk.nx _ H2 Hs2 _ (e1.trans e2) (pend_store R3 ?_ j) q2
    cases s2 with
    | v d2 => exact p2
    | o ds =>
      obtain ⟨p, vs, rfl, g1, g2, g3, g4, rs⟩ := p2
      exact ⟨p, vs, rfl, g1, g2, g3, nobody_setV g4, rs⟩
    | od _ => exact p2.elim
  | o ds =>
    obtain ⟨p, vs, rfl, g1, g2, g3, g4, rs⟩ := p1
    have R1' := R1.lend g1 g2 g4
    have L' : Lk X.K (upd F p (.lst vs)) Hs1 W Ξ := fun c σ' H' Hs' ε' xc e' R' => L c σ' H' Hs' ε' xc (e1.trans e') (R'.back g3).1
    refine kb _ Hs1 σ H1 ε1 _ _ R1' L' q1 fun w H2 Hs2 s2 ε2 e2 R2 p2 q2 => ?_
    refine ⟨.ref p, w, rfl, ?_⟩
    obtain ⟨R2', b1, b2, b3⟩ := R2.back g3
    have R3 := storeO_of R2' i b1 b2 g3 b3 (rs.mono e2)
    refine kk.nx _ H2 Hs2 _ (e1.trans e2) (pend_store R3 ?_ j) q2
    cases s2 with
    | v d2 => exact p2
    | o ds2 =>
      obtain ⟨p', vs', rfl, f1, f2, f3, f4, rs'⟩ := p2
      have ne : p ≠ p' := by
        intro z
        subst z
        rw [upd_same] at f3
        cases f3
      exact ⟨p', vs', rfl, f1, f2, by rw [upd_ne (Ne.symm ne)] at f3; exact f3, nobody_set f4 ne, rs'⟩
    | od _ => exact p2.elim
  | od _ => exact p1.elim
end
end PL

set_option Elab.async false
set_option linter.all false
set_option autoImplicit false
set_option maxRecDepth 100000
set_option maxHeartbeats 2000000
/-! Short words for the printed derivations. -/
namespace PL
open PySem PySem.Spec PyProof.Rows L2
open Evl (Ex)
theorem atI_in {α : Type} {xs : List α} {i : Int} (h0 : 0 ≤ i) (h1 : i < (xs.length : Int)) : ∃ d, atI xs i = some d ∧ d ∈ xs := by
  obtain ⟨j, rfl⟩ := Int.eq_ofNat_of_zero_le h0
  have hn : j < xs.length := Int.ofNat_lt.mp h1
  exact ⟨xs[j], atI_nat (List.getElem?_eq_getElem hn), List.getElem_mem hn⟩
/-- an item at a place that is drawn -/
theorem pick_of {xs : List D} {i : Int} {Q : D → Prop} (h0 : 0 ≤ i) (h1 : i < (xs.length : Int)) (k : ∀ d, d ∈ xs → Q d) : opt (atI xs i) Q := by
  obtain ⟨d, e, hd⟩ := atI_in h0 h1
  exact opt_of e (k d hd)
/-- a def that may be called -/
structure CallOk (P : Program) (w : World) (K : PySem.W.Frag) (mg : Str → Option Value) (base : Heap) (k : Nat) (x : Str) (ps : List Str) (φ : Spec) : Prop where
  fn : ∃ fd, FnOk P w K mg base (L2.CX P w) k (He.ga K x) fd ps (pSp K φ) ∧ (∃ oc od sl, K.lookup (He.ga K x) = some ⟨oc, od, .func fd, sl⟩) ∧ ∀ (s : Shared) (us : List Value), us.length = ps.length → BindsTo s fd ⟨us, []⟩ (ps.zip us)
  kp : PySem.W.keepIn K (.ref (He.ga K x)) = true
  gl : mg x = some (.ref (He.ga K x))
theorem funLook {K : PySem.W.Frag} {x qual : Str} {params : Arguments} {body : List Stmt} {scope : Scope} {dvs : List V} {kws : List (Str × V)} {f : Addr} {fd : FuncData} (F : FunD K x qual params body scope dvs kws f fd) : ∃ oc od sl, K.lookup f = some ⟨oc, od, .func fd, sl⟩ := by
  obtain ⟨oc, od, dV, kV, doc, pm, an, cdv, ct, osl, rfl, lk, _⟩ := F.ex
  exact ⟨_, _, _, lk⟩
theorem CallOk.imp {P : Program} {w : World} {K : PySem.W.Frag} {mg : Str → Option Value} {base : Heap} {k : Nat} {x : Str} {ps : List Str} {φ ψ : Spec} (h : CallOk P w K mg base k x ps φ) (i : ∀ ds Q E, ψ ds Q E → φ ds Q E) : CallOk P w K mg base k x ps ψ := by
  obtain ⟨⟨fd, F, lk, b⟩, kp, gl⟩ := h
  exact ⟨⟨fd, F.imp fun vs H Q E ⟨Hs, ds, Q', E', a, b, c, d⟩ => ⟨Hs, ds, Q', E', a, b, i _ _ _ c, d⟩, lk, b⟩, kp, gl⟩
section
variable {X : Cx} {W : WX} {Ξ : Xi} {a b c : Expr} {es : List Expr} {pos : Pos}
theorem yeCall {φ : Spec} {rs : PTL} {k : Nat} {ps : List Str} {x : Str} {p : Pos} (C : CallOk X.prog X.w X.K X.mg X.base k x ps φ) (tk : Takes X W) (hr : Room k X.A) (h : YL X W Ξ (a :: es) rs) (hg : Gl X x := by rfl) (hdb : (x == ("__debug__" : Str)) = false := by decide)
    (he : starEach (a :: es) X.env = (false, eval a X.env) :: starEach es X.env := by rfl) (hpl : (backTo pos (starEach es X.env)).any (·.1) = false := by rfl) :
    YE X W Ξ (.Call (.Name x p) (a :: es) [] pos) (yCall φ Ξ rs) := by
  obtain ⟨⟨fd, F, _, b⟩, kp, gl⟩ := C
  exact ye_call F tk hr hg gl kp (fun s us _ hl => by rw [List.append_nil] at hl ⊢; exact b s us hl) h hdb he hpl
/-- a name is stored: the plain ways -/
theorem ysSet (i : Nat) {x : Str} {pos' : Pos} {re : PTE} (hN : X.N.Nodup) (he : YE X W Ξ a re) (hi : X.N[i]? = some x := by rfl) (hx : Loc X.env.scope x := by first | exact Or.inl rfl | exact Or.inr rfl) (hs : swapsWith a (some (.Name x pos')) pos.line X.env = pure false := by rfl)
    (hf : X.fn x = true ∨ X.env.scope.names.lookup x = some .local := by first | exact .inl rfl | exact .inr rfl) : YS X W Ξ (.Assign [.Name x pos'] a pos) (ysAsg re i) := ys_set i hN hi hx he hs hf
theorem ysSetO (i : Nat) {x : Str} {pos' : Pos} {rn : PTN} (hN : X.N.Nodup) (he : YN X W Ξ a rn) (hi : X.N[i]? = some x := by rfl) (hx : Loc X.env.scope x := by first | exact Or.inl rfl | exact Or.inr rfl) (hs : swapsWith a (some (.Name x pos')) pos.line X.env = pure false := by rfl)
    (hf : X.fn x = true ∨ X.env.scope.names.lookup x = some .local := by first | exact .inl rfl | exact .inr rfl) : YS X W Ξ (.Assign [.Name x pos'] a pos) (ysAsgO rn i) := ys_setO i hN hi hx he hs hf
theorem ygN {x : Str} (i : Nat) (hN : X.N.Nodup) (hi : X.N[i]? = some x := by rfl) (hx : Loc X.env.scope x := by first | exact Or.inl rfl | exact Or.inr rfl) (hf : X.fn x = true ∨ X.env.scope.names.lookup x = some .local := by first | exact .inl rfl | exact .inr rfl) : YG X (.Name x pos) (gN i) [i] := yg_name i hN hi hx hf
theorem ysApp' (i : Nat) {x : Str} {px pa pc : Pos} {re : PTE} (he : YE X W Ξ a re) (hN : X.N[i]? = some x := by rfl) (hv : Vis X.env.scope x := by first | exact Or.inl rfl | exact Or.inr (Or.inl rfl) | exact Or.inr (Or.inr rfl)) (hd : (x == ("__debug__" : Str)) = false := by decide) (hcd : (x == ("__classdict__" : Str)) = false := by decide)
    (hbase : attributeBase (.Name x px) "append" X.env (eval (.Name x px) X.env) = eval (.Name x px) X.env := by rfl)
    (hfew : ((backTo pc (starEach (a :: []) X.env)).all (fun x => !x.1) && (backToKw pc (keywordEach [] X.env)).all (fun x => x.1.isSome)
      && decide ((a :: []).length + ([] : List Keyword).length + (if ([] : List Keyword).isEmpty then 0 else 1) < 30)) = true := by rfl)
    (hline : (pa.endLine == pc.line) = true := by rfl) (hs : starEach (a :: []) X.env = (false, eval a X.env) :: starEach [] X.env := by rfl) (hplain : (backTo pc (starEach [] X.env)).any (·.1) = false := by rfl)
    (hsw : swapsWith (.Call (.Attribute (.Name x px) "append" pa) [a] [] pc) none pos.line X.env = pure false := by rfl) :
    YS X W Ξ (.Expr (.Call (.Attribute (.Name x px) "append" pa) [a] [] pc) pos) (ysApp i re) := ys_app i hN hv he hd hcd hbase hfew hline hs hplain hsw
theorem ysExt' (i : Nat) {x : Str} {px pa pc : Pos} {re : PTE} (he : YE X W Ξ a re) (hN : X.N[i]? = some x := by rfl) (hv : Vis X.env.scope x := by first | exact Or.inl rfl | exact Or.inr (Or.inl rfl) | exact Or.inr (Or.inr rfl)) (hd : (x == ("__debug__" : Str)) = false := by decide) (hcd : (x == ("__classdict__" : Str)) = false := by decide)
    (hbase : attributeBase (.Name x px) "extend" X.env (eval (.Name x px) X.env) = eval (.Name x px) X.env := by rfl)
    (hfew : ((backTo pc (starEach (a :: []) X.env)).all (fun x => !x.1) && (backToKw pc (keywordEach [] X.env)).all (fun x => x.1.isSome)
      && decide ((a :: []).length + ([] : List Keyword).length + (if ([] : List Keyword).isEmpty then 0 else 1) < 30)) = true := by rfl)
    (hline : (pa.endLine == pc.line) = true := by rfl) (hs : starEach (a :: []) X.env = (false, eval a X.env) :: starEach [] X.env := by rfl) (hplain : (backTo pc (starEach [] X.env)).any (·.1) = false := by rfl)
    (hsw : swapsWith (.Call (.Attribute (.Name x px) "extend" pa) [a] [] pc) none pos.line X.env = pure false := by rfl) :
    YS X W Ξ (.Expr (.Call (.Attribute (.Name x px) "extend" pa) [a] [] pc) pos) (ysExt i re) := ys_ext i hN hv he hd hcd hbase hfew hline hs hplain hsw
theorem yePop' (i : Nat) {x : Str} {px pa pc : Pos} (hN : X.N[i]? = some x := by rfl) (hv : Vis X.env.scope x := by first | exact Or.inl rfl | exact Or.inr (Or.inl rfl) | exact Or.inr (Or.inr rfl)) (hd : (x == ("__debug__" : Str)) = false := by decide) (hcd : (x == ("__classdict__" : Str)) = false := by decide)
    (hbase : attributeBase (.Name x px) "pop" X.env (eval (.Name x px) X.env) = eval (.Name x px) X.env := by rfl) (hline : (pa.endLine == pc.line) = true := by rfl) :
    YE X W Ξ (.Call (.Attribute (.Name x px) "pop" pa) [] [] pc) (yPop i) := ye_pop i hN hv hd hcd hbase hline
/-- a module's constant: an int, a text -/
structure GlI (mg : Str → Option Value) (x : Str) (i : Int) : Prop where
  ex : ∃ t, mg x = some (.int i t)
structure GlS (mg : Str → Option Value) (x z : Str) : Prop where
  ex : ∃ t, mg x = some (.str z t)
theorem yeGlI {x : Str} {i : Int} (h : GlI X.mg x i) (hg : Gl X x := by rfl) (hd : (x == ("__debug__" : Str)) = false := by decide) : YE X W Ξ (.Name x pos) (yC (.int i)) := by
  obtain ⟨t, e⟩ := h.ex
  exact ye_glob (v := .int i) hg e ⟨t, rfl⟩ (fun _ _ => .int i) hd
theorem yeGlS {x z : Str} (h : GlS X.mg x z) (hg : Gl X x := by rfl) (hd : (x == ("__debug__" : Str)) = false := by decide) : YE X W Ξ (.Name x pos) (yC (.str z)) := by
  obtain ⟨t, e⟩ := h.ex
  exact ye_glob (v := .str z) hg e ⟨t, rfl⟩ (fun _ _ => .str z) hd
theorem peTy {x : Str} {n : String} (hm : X.mg x = none) (hv : bootBuiltins x = some (.type n)) (hg : Gl X x := by rfl) (hn : x ≠ "__name__" := by decide) (hd : (x == ("__debug__" : Str)) = false := by decide) : PE X (.Name x pos) (tC (.ty n)) := pe_bltn hg hm hv rfl hn hd
theorem ye_chain {op op' : CmpOp} {o o' : OP2} {ra rb rc : PTE} (ho : OpY X (compareOp op) o) (ho' : OpY X (compareOp op') o') (ha : YE X W Ξ a ra) (hb : YE X W Ξ b rb) (hc : YE X W Ξ c rc) (hm : lastMarks [op, op'] [b, c] = false := by with_unfolding_all rfl) :
    YE X W Ξ (.Compare a [op, op'] [b, c] pos) (yChain o o' ra rb rc) := by
  obtain ⟨r, hr, h⟩ := ho
  obtain ⟨r', hr', h'⟩ := ho'
  obtain ⟨ta, pa, ka⟩ := ha.ex
  obtain ⟨tb, pb, kb⟩ := hb.ex
  obtain ⟨tc, pc, kc⟩ := hc.ex
  refine ⟨_, pe_chain hr hr' pa pb pc hm, fun F Hs σ H ε Q' Q R L q k => ?_⟩
  refine ka F Hs σ H ε _ _ R L q fun v H1 Hs1 t1 ε1 e1 R1 p1 q1 => ?_
  refine kb F Hs1 σ H1 ε1 _ _ R1 (L.mono e1) q1 fun w H2 Hs2 t2 ε2 e2 R2 p2 q2 => ?_
  obtain ⟨d1, v1, q3⟩ := R2.res (p1.mono e2) q2
  obtain ⟨d2, v2, q4⟩ := R2.res p2 q3
  refine h F Hs2 σ H2 ε2 v w d1 d2 _ _ R2 v1 v2 q4 fun z H3 Hs3 d e3 R3 p3 q5 => ?_
  obtain ⟨kk, e4, q6⟩ := asB_rep p3 q5
  refine ⟨kk, e4, ?_⟩
  cases kk with
  | true =>
    show (if true = true then _ else _)
    rw [if_pos rfl]
    refine kc F Hs3 σ H3 ε2 _ _ R3 (L.mono ((e1.trans e2).trans e3)) q6 fun u H4 Hs4 t3 ε4 e5 R4 p4 q7 => ?_
    obtain ⟨d2', v2', q8⟩ := R4.res ((p2.mono e3).mono e5) q7
    obtain ⟨d3, v3, q9⟩ := R4.res p4 q8
    exact h' F Hs4 σ H4 ε4 w u d2' d3 _ Q R4 v2' v3 q9 fun z H' Hs' d e6 R6 p6 q => k z H' Hs' (.d d) ε4 ((((e1.trans e2).trans e3).trans e5).trans e6) R6 p6 q
  | false =>
    show (if false = true then _ else _)
    rw [if_neg Bool.false_ne_true]
    exact k _ H3 Hs3 (.d (.bl false)) ε2 ((e1.trans e2).trans e3) R3 (.bl false) q6
/-- {} -/
def yDic0 : PTE := fun ε Q => Q (.d (.dic [])) ε
theorem ye_dic0 : YE X W Ξ (.Dict [] [] pos) yDic0 := by
  refine ⟨_, pe_dnewK, fun F Hs σ H ε Q' Q R L q k => fun p hp => ?_⟩
  obtain ⟨R3, e3⟩ := R.new (o := .dK []) hp
  exact k (.ref p) _ _ (.d (.dic [])) ε e3 R3 (.dic upd_same rfl .nil) q
/-- not a, by truth -/
def yNotB (r : PTE) : PTE := fun ε Q => r ε fun t ε' => res ε' t (asB fun k => Q (.d (.bl (!k))) ε')
theorem ye_not {r : PTE} (h : YE X W Ξ a r) : YE X W Ξ (.UnaryOp .Not a pos) (yNotB r) := by
  obtain ⟨t, p, k⟩ := h.ex
  refine ⟨_, pe_not p, fun F Hs σ H ε Q' Q R L q kk => k F Hs σ H ε _ _ R L q fun v H1 Hs1 t1 ε1 e1 R1 p1 q1 => ?_⟩
  obtain ⟨d, rv, q2⟩ := R1.res p1 q1
  cases d with
  | bl b => exact ⟨b, rv.bl', kk _ H1 Hs1 (.d (.bl (!b))) ε1 e1 R1 (.bl _) q2⟩
  | _ => exact False.elim q2
/-- for x in a list, a tuple -/
def yiSeq (r : PTE) : PTN := fun ε Q => r ε fun t ε' => out ε' t fun d ε2 => match d with
  | .lst ds => Q ds ε2
  | .frl ds => Q ds ε2
  | .tup ds => Q ds ε2
  | _ => False
def iSeq (K : PySem.W.Frag) (tl : TE) : TI := fun σ H R => tl σ H fun x H1 => ∃ a, x = .ref a ∧ (((∃ xs, SqL K H1 a xs) ∧ R (Itl K a) H1) ∨ ((∃ xs, SqT K H1 a xs) ∧ R (Itt K a) H1))
theorem pi_seq {tg l : Expr} {tl : TE} (hl : PE X l tl) : PI X tg l (iSeq X.K tl) := by
  refine ⟨fun pins s σ H R I h => ?_⟩
  refine thn (hl.run pins s σ H _ I h) fun v s1 ⟨x, H1, I1, r1, q1⟩ => ?_
  obtain ⟨a, e, q⟩ := q1
  subst e
  cases r1
  rcases q with ⟨⟨xs, hq⟩, q⟩ | ⟨⟨xs, hq⟩, q⟩
  · obtain ⟨its, rv, p, hz⟩ := I1.list hq
    refine wpAny_pyIter_list p.isList ?_
    refine ⟨s1.heap.objs.size, [s1.heap.objs.size], _, _, H1, rfl, I1.kept (t' := s1.toks) fun b o e => Heap.get?_push_of_some _ e, turn_list a _, ⟨_, Heap.get?_push_size _ rfl, rfl, rfl⟩, fun b hb => ?_, q⟩
    have e : b = s1.heap.objs.size := by simpa using hb
    subst e
    exact I1.fpOk (Nat.le_refl _) (I1.hok.fresh (Nat.le_refl _))
  · obtain ⟨its, rv, p, hz⟩ := I1.tuple hq
    refine wpAny_pyIter_tuple (show s1.heap.IsTuple a its.toArray from p) ?_
    refine ⟨s1.heap.objs.size, [s1.heap.objs.size], _, _, H1, rfl, I1.kept (t' := s1.toks) fun b o e => Heap.get?_push_of_some _ e, turn_tuple a _, ⟨_, Heap.get?_push_size _ rfl, rfl, rfl⟩, fun b hb => ?_, q⟩
    have e : b = s1.heap.objs.size := by simpa using hb
    subst e
    exact I1.fpOk (Nat.le_refl _) (I1.hok.fresh (Nat.le_refl _))
theorem yi_seq {tg : Expr} {r : PTE} (h : YE X W Ξ a r) : YI X W Ξ tg a (yiSeq r) := by
  obtain ⟨t, p, k⟩ := h.ex
  refine ⟨_, pi_seq p, fun F Hs σ H ε Q' R' R L q kk => k F Hs σ H ε _ _ R L q fun v H1 Hs1 t ε1 e1 R1 p1 q1 => ?_⟩
  obtain ⟨d, ε2, Hs2, e2, R2, rv, q2⟩ := R1.out p1 q1
  split at q2
  · cases rv with
    | lst h1 r1 => exact ⟨_, rfl, .inl ⟨⟨_, SqL.of (R2.ex _ _ h1)⟩, kk _ H1 Hs2 _ ε2 (e1.trans e2) R2 (seqs_list (SqL.of h1) r1) q2⟩⟩
  · cases rv with
    | frl h1 r1 => exact ⟨_, rfl, .inl ⟨⟨_, Evl.ex_l R2.ex h1.sq⟩, kk _ H1 Hs2 _ ε2 (e1.trans e2) R2 (seqs_list h1.sq r1) q2⟩⟩
  · cases rv with
    | tup h1 r1 => exact ⟨_, rfl, .inr ⟨⟨_, Evl.ex_t R2.ex h1⟩, kk _ H1 Hs2 _ ε2 (e1.trans e2) R2 (seqs_tup h1 r1) q2⟩⟩
  · exact q2.elim
def yChainT (o o' : OP2) (ra rb rc : PTE) : PTT := yB (yChain o o' ra rb rc)
theorem yt_chain {op op' : CmpOp} {o o' : OP2} {ra rb rc : PTE} (ho : OpY X (compareOp op) o) (ho' : OpY X (compareOp op') o') (ha : YE X W Ξ a ra) (hb : YE X W Ξ b rb) (hc : YE X W Ξ c rc) (hm : lastMarks [op, op'] [b, c] = false := by with_unfolding_all rfl) :
    YT X W Ξ (.Compare a [op, op'] [b, c] pos) (yChainT o o' ra rb rc) := by
  obtain ⟨r, hr, h⟩ := ho
  obtain ⟨r', hr', h'⟩ := ho'
  obtain ⟨ta, pa, ka⟩ := ha.ex
  obtain ⟨tb, pb, kb⟩ := hb.ex
  obtain ⟨tc, pc, kc⟩ := hc.ex
  refine ⟨_, pt_chain hr hr' pa pb pc hm, fun F Hs σ H ε Q' Q R L q k => ?_⟩
  refine ka F Hs σ H ε _ _ R L q fun v H1 Hs1 t1 ε1 e1 R1 p1 q1 => ?_
  refine kb F Hs1 σ H1 ε1 _ _ R1 (L.mono e1) q1 fun w H2 Hs2 t2 ε2 e2 R2 p2 q2 => ?_
  obtain ⟨d1, v1, q3⟩ := R2.res (p1.mono e2) q2
  obtain ⟨d2, v2, q4⟩ := R2.res p2 q3
  refine h F Hs2 σ H2 ε2 v w d1 d2 _ _ R2 v1 v2 q4 fun z H3 Hs3 d e3 R3 p3 q5 => ?_
  obtain ⟨kk, e4, q6⟩ := asB_rep p3 q5
  refine ⟨kk, e4, ?_⟩
  cases kk with
  | true =>
    show (if true = true then _ else _)
    rw [if_pos rfl]
    refine kc F Hs3 σ H3 ε2 _ _ R3 (L.mono ((e1.trans e2).trans e3)) q6 fun u H4 Hs4 t3 ε4 e5 R4 p4 q7 => ?_
    obtain ⟨d2', v2', q8⟩ := R4.res ((p2.mono e3).mono e5) q7
    obtain ⟨d3, v3, q9⟩ := R4.res p4 q8
    refine h' F Hs4 σ H4 ε4 w u d2' d3 _ _ R4 v2' v3 q9 fun z H' Hs' d e6 R6 p6 q => ?_
    obtain ⟨b, e7, q7⟩ := asB_rep p6 q
    exact ⟨b, e7, k b H' Hs' ε4 ((((e1.trans e2).trans e3).trans e5).trans e6) R6 q7⟩
  | false =>
    show (if false = true then _ else _)
    rw [if_neg Bool.false_ne_true]
    exact ⟨false, rfl, k false H3 Hs3 ε2 ((e1.trans e2).trans e3) R3 q6⟩
def ysNever : PTS := fun _ _ => False
theorem ys_never {st : Stmt} : YS X W Ξ st ysNever := ⟨_, ps_never, fun _ _ _ _ _ _ _ _ _ q _ => q.elim⟩
def ysRetN : PTS := fun Δ ε => Δ.rt .non ε
theorem ys_retN : YS X W Ξ (.Return none pos) ysRetN := ⟨_, ps_retN, fun F Hs σ H ε Δ Dd R L q k => k.rt .non σ H Hs .non ε (Evl.Ex.refl _) R .non q⟩
abbrev exBase : List Value := [.type "Exception", .type "BaseException", .type "object"]
end
end PL

set_option Elab.async false
set_option linter.all false
set_option autoImplicit false
set_option maxRecDepth 100000
set_option maxHeartbeats 2000000
/-! Loops and comprehensions over lists that lie open. -/
namespace PL
open PySem PySem.Spec PyProof.Rows L2
def forRun (g : PTG) (rb : PTS) (Δ : PEnds) : List D → PEnv → Prop
  | [], ε => Δ.nx ε
  | d :: ds, ε => g d ε fun ε2 => rb { Δ with nx := forRun g rb Δ ds, ct := forRun g rb Δ ds, bk := Δ.nx } ε2
theorem drop_get {α : Type} {xs : List α} {i : Nat} {d : α} (h : xs[i]? = some d) : xs.drop i = d :: xs.drop (i + 1) := by
  obtain ⟨hi, e⟩ := List.getElem?_eq_some_iff.mp h
  rw [List.drop_eq_getElem_cons hi, e]
theorem for_run {g : PTG} {rb : PTS} {Δ : PEnds} {ds : List D} {ε1 : PEnv} (h : forRun g rb Δ ds ε1) : ∃ Wp : Nat → PEnv → Prop, Wp 0 ε1 ∧
    (∀ i d ε, i < ds.length → ds[i]? = some d → Wp i ε → g d ε fun ε2 => rb { Δ with nx := Wp (i + 1), ct := Wp (i + 1), bk := Δ.nx } ε2) ∧ ∀ ε, Wp ds.length ε → Δ.nx ε := by
  refine ⟨fun i ε => forRun g rb Δ (ds.drop i) ε, h, fun i d ε hi hd w => ?_, fun ε w => ?_⟩
  · replace w : forRun g rb Δ (ds.drop i) ε := w
    rw [drop_get hd] at w
    exact w
  · replace w : forRun g rb Δ (ds.drop ds.length) ε := w
    rw [List.drop_length] at w
    exact w
def lcRun (g : PTG) (rt : PTT) (re : PTE) (vs : List Nat) (ε1 : PEnv) (Q : List D → PEnv → Prop) : List D → List D → Prop
  | [], acc => Q acc ε1
  | d :: ds, acc => g d (wipeE ε1 vs) fun ε2 => rt ε2 fun k ε3 => match k with
    | true => re ε3 fun t ε4 => out ε4 t fun y ε5 => wipeE ε5 vs = wipeE ε1 vs ∧ lcRun g rt re vs ε1 Q ds (acc ++ [y])
    | false => wipeE ε3 vs = wipeE ε1 vs ∧ lcRun g rt re vs ε1 Q ds acc
theorem lc_run {g : PTG} {rt : PTT} {re : PTE} {vs : List Nat} {ε1 : PEnv} {Q : List D → PEnv → Prop} {ds : List D} (h : lcRun g rt re vs ε1 Q ds []) : ∃ Wp : Nat → List D → Prop, Wp 0 [] ∧
  (∀ i d acc, i < ds.length → ds[i]? = some d → acc.length ≤ i → Wp i acc → g d (wipeE ε1 vs) fun ε2 => rt ε2 fun k ε3 => match k with
    | true => re ε3 fun t ε4 => out ε4 t fun y ε5 => wipeE ε5 vs = wipeE ε1 vs ∧ Wp (i + 1) (acc ++ [y])
    | false => wipeE ε3 vs = wipeE ε1 vs ∧ Wp (i + 1) acc) ∧ ∀ acc, acc.length ≤ ds.length → Wp ds.length acc → Q acc ε1 := by
  refine ⟨fun i acc => lcRun g rt re vs ε1 Q (ds.drop i) acc, h, fun i d acc hi hd hl w => ?_, fun acc hl w => ?_⟩
  · replace w : lcRun g rt re vs ε1 Q (ds.drop i) acc := w
    rw [drop_get hd] at w
    exact w
  · replace w : lcRun g rt re vs ε1 Q (ds.drop ds.length) acc := w
    rw [List.drop_length] at w
    exact w
theorem seq_step {r u : PTS} {Δ : PEnds} {ε : PEnv} (ε' : PEnv) (h1 : ∀ K : PEnv → Prop, K ε' → r { Δ with nx := K } ε) (h2 : u Δ ε') : ysSeq r u Δ ε := h1 _ h2
theorem seq_post {r u : PTS} {Δ : PEnds} {ε : PEnv} (Po : PEnv → Prop) (h1 : ∀ K : PEnv → Prop, (∀ ε', Po ε' → K ε') → r { Δ with nx := K } ε) (h2 : ∀ ε', Po ε' → u Δ ε') : ysSeq r u Δ ε := h1 _ h2
theorem gtup2 {i j : Nat} {d1 d2 : D} {ε : PEnv} {Q : PEnv → Prop} (h : Q ((ε.set i (some (.v d1))).set j (some (.v d2)))) : gTupY 2 [gN i, gN j] (.tup [d1, d2]) ε Q := h
end PL

set_option Elab.async false
set_option linter.all false
set_option autoImplicit false
set_option maxRecDepth 100000
set_option maxHeartbeats 2000000
/-! A number is drawn, by hand. -/
namespace PL
open PySem PySem.Spec PyProof.Rows L2
section
variable {K : PySem.W.Frag}
def r_len (K : PySem.W.Frag) : List V → Hp → VK → Prop := fun xs H Q => ∃ x n, xs = [x] ∧ LenV K x H n ∧ Q (.int (n : Nat)) H
def t_pick (K : PySem.W.Frag) : TS :=
  tSeq (tAsg (tOp (rIxL K) (tVar 0) (tC (.int 0))) (gName 2))
    (tSeq (tAsg (tOp (rI0 fun i j => V.int (i + j)) (tVar 2) (tC (.int 1))) (gSub (tVar 0) (tC (.int 0)) rSetL))
      (tSeq (tIfS (tTest (tOp rEq (tOp (rIxL K) (tVar 0) (tC (.int 0))) (tCB (r_len K) (tCons (tVar 0) tNil))))
          (tAsg (tC (.int 1)) (gSub (tVar 0) (tC (.int 0)) rSetL)) tNext)
        (tRet (tOp (rI (fun _ j => 0 < j) fun i j => V.int (i % j))
            (tCB (fun xs H Q => (∃ i, xs = [V.int i] ∧ Q (V.int i) H) ∨ ∃ k, xs = [V.bl k] ∧ Q (V.int (if k = true then 1 else 0)) H)
              (tCons (tOp (rIxL K) (tVar 0) (tVar 2)) tNil))
            (tVar 1)))))
theorem atI_int {ns : List Int} {i : Int} {x : Int} (h : atI ns i = some x) : atI (ns.map V.int) i = some (.int x) := by
  unfold atI at h ⊢
  rw [List.length_map]
  cases e : ixN ns.length i with
  | none => rw [e] at h; cases h
  | some j =>
    rw [e] at h
    show (ns.map V.int)[j]? = some (.int x)
    replace h : ns[j]? = some x := h
    rw [List.getElem?_map, h]
    rfl
theorem ix0 {n : Nat} (h : 0 < n) : ixN n 0 = some 0 := by
  unfold ixN
  rw [if_pos (Int.le_refl 0), if_pos (by omega)]
  rfl
theorem at0 {x : V} {xs : List V} : atI (x :: xs) 0 = some x := atI_nat (j := 0) (v := x) rfl
theorem pick_pure {vs : List V} {H : Hp} {Q : VK} {E : XK} (h : spPick vs H Q E) : t_pick K { nx := fun _ H' => Q .non H', rt := Q } (L2.start ["pool", "many", "place"] vs) H := by
  obtain ⟨p, n, ns, rfl, hH, ⟨hl1, hl2, c, hc, c1, c2⟩, hn, hQ⟩ := h
  cases ns with
  | nil => cases hc
  | cons c' tl =>
    obtain rfl : c' = c := Option.some.inj hc
    have hx : ∀ (d : Int) (H : Hp), H p = some (.lst ((d :: tl).map V.int)) → 0 ≤ d → True := fun _ _ _ _ => trivial
    -- the item drawn: place c' of the list with another head
    have fin : ∀ (d : Int) (H' : Hp), H' = upd H p (.lst ((d :: tl).map V.int)) → PoolOk (d :: tl) →
        (tRet (tOp (rI (fun _ j => 0 < j) fun i j => V.int (i % j))
            (tCB (fun xs H Q => (∃ i, xs = [V.int i] ∧ Q (V.int i) H) ∨ ∃ k, xs = [V.bl k] ∧ Q (V.int (if k = true then 1 else 0)) H)
              (tCons (tOp (rIxL K) (tVar 0) (tVar 2)) tNil))
            (tVar 1))) { nx := fun _ H' => Q .non H', rt := Q } [some (.ref p), some (.int n), some (.int c')] H' := by
      intro d H' hH' ok
      subst hH'
      have hlen : c' < ((d :: tl).length : Int) := c2
      obtain ⟨x, hx, _⟩ := atI_in (xs := d :: tl) (i := c') (by omega) hlen
      refine ⟨_, rfl, _, rfl, p, (d :: tl).map V.int, c', .int x, rfl, rfl, SqL.of upd_same, atI_int hx, .inl ⟨x, rfl, _, rfl, x, n, rfl, rfl, hn, ?_⟩⟩
      exact hQ _ (d :: tl) (Int.emod_nonneg _ (by omega)) (Int.emod_lt_of_pos _ hn) ok
    refine ⟨_, rfl, p, _, 0, .int c', rfl, rfl, SqL.of hH, at0, ?_⟩
    refine ⟨_, rfl, c', 1, rfl, rfl, ?_⟩
    refine ⟨_, rfl, p, _, 0, 0, rfl, rfl, hH, ix0 (by rw [List.length_map]; exact Nat.succ_pos _), ?_⟩
    have e1 : upd H p (.lst (((c' :: tl).map V.int).set 0 (.int (c' + 1)))) = upd H p (.lst (((c' + 1) :: tl).map V.int)) := rfl
    refine ⟨_, rfl, p, _, 0, .int (c' + 1), rfl, rfl, SqL.of upd_same, at0, ?_⟩
    refine ⟨_, rfl, .ref p, (((c' + 1) :: tl).map V.int).length, rfl, .inl ⟨_, SqL.of upd_same, rfl⟩, ?_⟩
    refine ⟨rfl, _, rfl, ?_⟩
    have hm : (((c' + 1) :: tl).map V.int).length = tl.length + 1 := by rw [List.length_map]; rfl
    have hd : decide (V.int (c' + 1) = V.int ((((c' + 1) :: tl).map V.int).length : Nat)) = decide (c' + 1 = ((tl.length + 1 : Nat) : Int)) := by
      rw [hm]
      by_cases q : c' + 1 = ((tl.length + 1 : Nat) : Int)
      · rw [decide_eq_true q, decide_eq_true (by rw [q])]
      · rw [decide_eq_false q, decide_eq_false (fun z => q (V.int.inj z))]
    show (if decide (V.int (c' + 1) = V.int ((((c' + 1) :: tl).map V.int).length : Nat)) = true then _ else _)
    rw [hd]
    have hl : (((c' :: tl).length : Nat) : Int) = ((tl.length + 1 : Nat) : Int) := rfl
    by_cases q : c' + 1 = ((tl.length + 1 : Nat) : Int)
    · rw [if_pos (decide_eq_true q)]
      refine ⟨_, rfl, p, _, 0, 0, rfl, rfl, upd_same, ix0 (by rw [List.length_set, List.length_map]; exact Nat.succ_pos _), ?_⟩
      refine fin 1 _ ?_ ⟨hl1, hl2, 1, rfl, by decide, by show (1 : Int) < ((tl.length + 1 : Nat) : Int); replace hl1 : 2 ≤ tl.length + 1 := hl1; omega⟩
      rw [upd_upd]
      rfl
    · rw [if_neg (by rw [decide_eq_false q]; exact Bool.false_ne_true)]
      refine fin (c' + 1) _ rfl ⟨hl1, hl2, c' + 1, rfl, by omega, by show c' + 1 < ((tl.length + 1 : Nat) : Int); rw [hl] at c2; omega⟩
end
end PL

set_option Elab.async false
set_option linter.all false
set_option autoImplicit false
set_option maxRecDepth 100000
set_option maxHeartbeats 2000000
/-! The head: what is looked at; the law's end. -/
namespace PL
open PySem PySem.Spec PyProof.Rows L2
def excB (K : PySem.W.Frag) (a : Addr) : Bool :=
  He.eqO (PySem.W.findIn K (.ref a) "__getattribute__") (some (some (.builtin "BaseException.__getattribute__"))) &&
  (He.eqO (PySem.W.findIn K (.ref a) "__getattr__") (some none) && (decide (PySem.W.subIn K (.ref a) (.type "BaseException") = some true) &&
  (PySem.W.hasDictIn K a && (He.eqO (PySem.W.findIn K (.ref a) "__class__") (some (some (.builtin "object.__class__"))) &&
  (He.eqO (PySem.W.specialIn K (.builtin "object.__class__") "__get__") (some (some (.builtin "getset_descriptor.__get__"))) &&
  (decide (PySem.W.takesIn K (.builtin "object.__class__") = some true) && decide (PySem.W.mroIn K a (.type "object") = some true)))))))
theorem excB_ok {K : PySem.W.Frag} {a : Addr} (h : excB K a = true) : ExcC K a := by
  obtain ⟨h1, h⟩ := He.ba h
  obtain ⟨h2, h⟩ := He.ba h
  obtain ⟨h3, h⟩ := He.ba h
  obtain ⟨h4, h⟩ := He.ba h
  obtain ⟨h5, h⟩ := He.ba h
  obtain ⟨h6, h⟩ := He.ba h
  obtain ⟨h7, h8⟩ := He.ba h
  exact ⟨He.eqO_ok h1, He.eqO_ok h2, of_decide_eq_true h3, h4, He.eqO_ok h5, He.eqO_ok h6, of_decide_eq_true h7, of_decide_eq_true h8⟩
def exB (cs : List Nat) (K : PySem.W.Frag) : Bool := cs.all fun c =>
  PySem.W.excIn K (exA K c) exBase "Exception.__new__" && (PySem.W.keepIn K (.ref (exA K c)) && (decide (PySem.W.subIn K (.ref (exA K c)) (.type "BaseException") = some true) &&
  (decide (PySem.W.typeIn K (.ref (exA K c)) = some (.type "type")) && (excB K (exA K c) && (decide (PySem.W.exmOne K (.ref (exA K c)) (.ref (exA K 0)) = some true) &&
  cs.all fun t => decide (PySem.W.kitOne K (.ref (exA K c)) (.ref (exA K t)) = some (exSub c t)))))))
structure ExF (K : PySem.W.Frag) (c : Nat) : Prop where
  x : PySem.W.excIn K (exA K c) exBase "Exception.__new__" = true
  k : PySem.W.keepIn K (.ref (exA K c)) = true
  s : PySem.W.subIn K (.ref (exA K c)) (.type "BaseException") = some true
  t : PySem.W.typeIn K (.ref (exA K c)) = some (.type "type")
theorem exB_at {cs : List Nat} {K : PySem.W.Frag} (h : exB cs K = true) {c : Nat} (hc : c ∈ cs) : ExF K c ∧ ExcC K (exA K c) ∧ PySem.W.exmOne K (.ref (exA K c)) (.ref (exA K 0)) = some true ∧ ∀ t ∈ cs, PySem.W.kitOne K (.ref (exA K c)) (.ref (exA K t)) = some (exSub c t) := by
  have h := List.all_eq_true.mp h c hc
  obtain ⟨h1, h⟩ := He.ba h
  obtain ⟨h2, h⟩ := He.ba h
  obtain ⟨h3, h⟩ := He.ba h
  obtain ⟨h4, h⟩ := He.ba h
  obtain ⟨h5, h⟩ := He.ba h
  obtain ⟨h6, h7⟩ := He.ba h
  exact ⟨⟨h1, h2, of_decide_eq_true h3, of_decide_eq_true h4⟩, excB_ok h5, of_decide_eq_true h6, fun t ht => of_decide_eq_true (List.all_eq_true.mp h7 t ht)⟩
theorem exB_k {cs : List Nat} {K : PySem.W.Frag} (h : exB cs K = true) : ExK K cs :=
  ⟨fun c hc => (exB_at h hc).2.2.1, fun c hc => (exB_at h hc).2.2.2, fun c hc => (exB_at h hc).2.1⟩
/-- the law's end -/
theorem walk_ofP {l : PySem.W.OpenLaw} {k : Nat} {q : Program} {loose : List Str} {XP : (Str → Option Value) → Heap → Prop} {YP : World → Heap → Prop} {d : DefRec}
    (hn : l.most = some 63) (hdf : d.params.defaults = []) (hr : Room k callerA)
    (F : ∀ (w : World) (mg : Str → Option Value) (h : Heap), YP w h → h.Ns mainGlobals mg →
      ∃ (K : PySem.W.Frag), K.In h ∧ mg d.name = some (.ref (He.ga K "law")) ∧ ∀ base : Heap, CallOk l.prog w K mg base k "law" ["script"] φLaw) :
    PySem.W.WalkO q loose XP YP l.row.toRowW d [] (fun f vs => PySem.call f vs) := by
  refine Att.attach_call hn hdf fun w s₀ s₁ mg mb fa o pm cd doc a vs ns G Y ho hd hcd hmg hobj hints hlen hg => ?_
  obtain ⟨K, KX, gl, hF⟩ := F w mg _ Y G.T.g
  obtain rfl : fa = He.ga K "law" := by
    have e := hmg.symm.trans gl
    cases e
    rfl
  obtain ⟨fd, _, lk, hb⟩ := (hF s₁.heap).fn
  have hF2 : ∀ base : Heap, K.In base → base.Ns mainGlobals mg → FnOk l.prog w K mg base (L2.CX l.prog w) k (He.ga K "law") fd ["script"] (pSp K φLaw) := fun base _ _ => by
    obtain ⟨fd', F', lk', _⟩ := (hF base).fn
    obtain ⟨_, _, _, e1⟩ := lk
    obtain ⟨_, _, _, e2⟩ := lk'
    rw [e1] at e2
    cases e2
    exact F'
  exact law_call KX G.T.g G.T.b G.T.builtins G.T.nolimit hg hobj hints (Nat.le_trans hlen (by rw [sizeLine_eq]; decide)) hr hF2 (fun s u => hb s [u] rfl) (fun H hO hS => law_sp hlen hO hS) fun H e s' h => cx_never h
theorem CallOk.stream {P : Program} {w : World} {K : PySem.W.Frag} {mg : Str → Option Value} {base : Heap} {k : Nat} {x : Str} {ps : List Str} (h : CallOk P w K mg base k x ps φList) : CallOk P w K mg base k x ps φStream := by
  obtain ⟨⟨fd, F, lk, b⟩, kp, gl⟩ := h
  exact ⟨⟨fd, stream_close F, lk, b⟩, kp, gl⟩
end PL

set_option Elab.async false
set_option linter.all false
set_option autoImplicit false
set_option maxRecDepth 100000
set_option maxHeartbeats 2000000
/-! Texts: order, slices, walks, times; in; turned lists. -/
namespace PL
open PySem PySem.Spec PyProof.Rows L2
open Evl (Ex)
section
variable {X : Cx} {W : WX} {Ξ : Xi} {tg a b : Expr} {pos p : Pos}
/-- x in the order of texts -/
def ltS (x y : Str) : Bool := decide (x.cps.toList < y.cps.toList)
theorem op_le_str : OpR X (compareOp .LtE) (fun x y H Q => ∃ i j, x = .str i ∧ y = .str j ∧ Q (.bl (!ltS j i)) H) := by
  intro pins s σ H x y v u Q I rx ry h
  obtain ⟨i, j, rfl, rfl, q⟩ := h
  obtain ⟨t, rfl⟩ := rx
  obtain ⟨t', rfl⟩ := ry
  exact PySem.P.le_str (fin_bl I q rfl)
def oLeA : OP2
  | .int i, .int j, Q => Q (.bl (decide (i ≤ j)))
  | .str x, .str y, Q => Q (.bl (!ltS y x))
  | _, _, _ => False
theorem oy_leA : OpY X (compareOp .LtE) oLeA := by
  refine ⟨_, op_le.or op_le_str, fun F Hs σ H ε v w d1 d2 Q' Q R r1 r2 q k => ?_⟩
  unfold oLeA at q
  split at q
  · exact .inl ⟨_, _, r1.int', r2.int', k _ H Hs _ (Evl.Ex.refl _) R (.bl _) q⟩
  · exact .inr ⟨_, _, r1.str', r2.str', k _ H Hs _ (Evl.Ex.refl _) R (.bl _) q⟩
  · exact q.elim
/-- ord -/
def oOrd : OPC
  | [.str x], Q => gd (x.length = 1) (Q (.int (x.cps.getD 0 0 : Nat)))
  | _, _ => False
theorem cy_ord : CallY X (.builtin "ord") oOrd := by
  refine ⟨_, call_ord, fun F Hs σ H ε vs ds Q' Q R r q k => ?_⟩
  unfold oOrd at q
  split at q
  · obtain ⟨v, rfl, rv⟩ := r.one
    have q := gd_elim q
    exact ⟨_, by rw [rv.str'], q.1, k _ H Hs _ (Evl.Ex.refl _) R (.int _) q.2⟩
  · exact q.elim
/-- the signs of a text -/
def signsD (x : Str) : List D := x.cps.toList.map fun c => D.str ⟨#[c]⟩
theorem signsD_len {x : Str} : (signsD x).length = x.cps.size := by unfold signsD; rw [List.length_map, Array.length_toList]
theorem seqs_str {K : PySem.W.Frag} {Hs : Hp} {x : Str} : Seqs K Hs (Its x) (signsD x) where
  go := fun i H e hi => by rw [signsD_len] at hi; exact hi
  stop := fun i H e hi => by rw [signsD_len] at hi; exact hi
  yld := fun i F Hc σ H ε z H' e R hi y => by
    rw [signsD_len] at hi
    obtain ⟨rfl, c, hc, rfl⟩ := y
    refine ⟨Hc, .str ⟨#[c]⟩, Evl.Ex.refl _, R, ?_, .str _⟩
    unfold signsD
    rw [List.getElem?_map, Array.getElem?_toList, hc] <;> rfl
def asS (Q : Str → Prop) : D → Prop
  | .str x => Q x
  | _ => False
theorem asS_elim {d : D} {Q : Str → Prop} (h : asS Q d) : ∃ x, d = .str x ∧ Q x := by
  cases d with
  | str x => exact ⟨x, rfl, h⟩
  | _ => exact h.elim
/-- for sign in a text -/
def yiStr (r : PTE) : PTN := fun ε Q => r ε fun t ε' => res ε' t (asS fun x => Q (signsD x) ε')
theorem yi_str {r : PTE} (h : YE X W Ξ a r) : YI X W Ξ tg a (yiStr r) := by
  obtain ⟨t, p, k⟩ := h.ex
  refine ⟨_, pi_str p, fun F Hs σ H ε Q' R' R L q kk => k F Hs σ H ε _ _ R L q fun v H1 Hs1 t ε1 e1 R1 p1 q1 => ?_⟩
  obtain ⟨d, rv, q2⟩ := R1.res p1 q1
  obtain ⟨x, rfl, q2⟩ := asS_elim q2
  exact ⟨x, rv.str', kk _ H1 Hs1 _ ε1 e1 R1 seqs_str q2⟩
/-- x[a:b], a text -/
def ySlS (ra : PTE) (rl rh : PTO) : PTE := fun ε Q => ra ε fun t ε1 => rl ε1 fun lo ε2 => rh ε2 fun hi ε3 => res ε3 t (asS fun x => gd (x.length ≤ 16777216) (Q (.d (.str (cutS x lo hi))) ε3))
theorem ye_slS {lo hi : Option Expr} {p2 : Pos} {ra : PTE} {rl rh : PTO} (ha : YE X W Ξ a ra) (hl : YO X W Ξ lo rl) (hh : YO X W Ξ hi rh) : YE X W Ξ (.Subscript a (.Slice lo hi none p2) pos) (ySlS ra rl rh) := by
  obtain ⟨ta, pa, ka⟩ := ha.ex
  obtain ⟨tl, pl, kl⟩ := hl.ex
  obtain ⟨th, ph, kh⟩ := hh.ex
  refine ⟨_, pe_slice sl_str pa pl ph, fun F Hs σ H ε Q' Q R L q k => ?_⟩
  refine ka F Hs σ H ε _ _ R L q fun v H1 Hs1 t1 ε1 e1 R1 p1 q1 => ?_
  refine kl F Hs1 σ H1 ε1 _ _ R1 (L.mono e1) q1 fun l H2 Hs2 ε2 e2 R2 q2 => ?_
  refine kh F Hs2 σ H2 ε2 _ _ R2 (L.mono (e1.trans e2)) q2 fun h H3 Hs3 ε3 e3 R3 q3 => ?_
  obtain ⟨d, v1, q4⟩ := R3.res (p1.mono (e2.trans e3)) q3
  obtain ⟨x, rfl, q4⟩ := asS_elim q4
  have q4 := gd_elim q4
  exact ⟨x, v1.str', line_le q4.1, k _ H3 Hs3 _ ε3 ((e1.trans e2).trans e3) R3 (show RepT X.K Hs3 σ (.str (cutS x l h)) (.d (.str (cutS x l h))) from Rep.str _) q4.2⟩
/-- xs[::-1], a list -/
def ynRev (ra : PTE) : PTN := fun ε Q => ra ε fun t ε1 => res ε1 t (asL fun xs => Q xs.reverse ε1)
theorem Reps.rev {K : PySem.W.Frag} {H : Hp} : ∀ {vs : List V} {ds : List D}, Reps K H vs ds → Reps K H vs.reverse ds.reverse
  | _, _, .nil => .nil
  | _, _, .cons h t => by
    rw [List.reverse_cons, List.reverse_cons]
    exact (Reps.rev t).append (.cons h .nil)
theorem yn_rev {k : Nat} {p1 p2 p3 : Pos} {ra : PTE} (ha : YE X W Ξ a ra) : YN X W Ξ (.Subscript a (.Slice none none (some (.UnaryOp .USub (.Constant (.int 1) k p1) p2)) p3) pos) (ynRev ra) := by
  obtain ⟨ta, pa, ka⟩ := ha.ex
  refine ⟨_, pe_revL pa, fun F Hs σ H ε Q' Q R L q k => ?_⟩
  refine ka F Hs σ H ε _ _ R L q fun v H1 Hs1 t1 ε1 e1 R1 p1 q1 => ?_
  obtain ⟨d, v1, q4⟩ := R1.res p1 q1
  obtain ⟨xs, rfl, q4⟩ := asL_elim q4
  obtain ⟨a, vs, g1, h1, p1⟩ := v1.lst' R1.ex
  refine ⟨a, vs, g1, SqL.of h1, fun p hp => ?_⟩
  obtain ⟨n1, n2, n3⟩ := R1.nobody hp
  exact k p _ Hs1 _ _ ε1 e1 (R1.lay hp) upd_same n1 n2 n3 p1.rev q4
/-- text times a number -/
def repS (x : Str) (n : Nat) : Str := ⟨(List.replicate n x.cps.toList).flatten.toArray⟩
theorem foldl_repA (l : List Nat) : ∀ (n : Nat) (acc : Array Nat), (List.replicate n l.toArray).foldl (· ++ ·) acc = acc ++ (List.replicate n l).flatten.toArray
  | 0, acc => by simp
  | n + 1, acc => by
    rw [List.replicate_succ, List.foldl_cons, foldl_repA l n, List.replicate_succ, List.flatten_cons]
    simp
theorem repS_len {x : Str} {n : Nat} : (repS x n).length = x.length * n := by
  show ((List.replicate n x.cps.toList).flatten.toArray).size = x.cps.size * n
  rw [List.size_toArray, List.length_flatten, List.map_replicate, List.sum_replicate_nat, Array.length_toList, Nat.mul_comm]
theorem op_mul_str : OpR X (binaryOp .Mult) (fun x y H Q => ∃ z n, x = .str z ∧ y = .int n ∧ -(2 ^ 63) ≤ n ∧ n < 2 ^ 63 ∧ z.length * n.toNat ≤ sizeLine ∧ Q (.str (repS z n.toNat)) H) := by
  intro pins s σ H x y v u Q I rx ry h
  obtain ⟨z, n, rfl, rfl, h1, h2, hz, q⟩ := h
  obtain ⟨t, rfl⟩ := rx
  obtain ⟨t', rfl⟩ := ry
  have hs : sizeLine = 16777216 := sizeLine_eq
  have big : ¬ n < 1 → ((z.length : Int) * n ≤ 16777216) := fun h0 => by
    have e : n = ((n.toNat : Nat) : Int) := by omega
    rw [e]
    have : ((z.length * n.toNat : Nat) : Int) ≤ 16777216 := by omega
    rw [Int.natCast_mul] at this
    exact this
  refine PySem.P.mul_str ?_ (fun h0 _ => ?_) (fun h0 _ => ?_) ?_
  · rw [decide_eq_false (by omega), decide_eq_false (by omega)]
    rfl
  · have := big h0
    have hn : 0 < n := by omega
    have h3 : (z.length : Int) ≤ (2 ^ 63 - 1) / n := (Int.le_ediv_iff_mul_le hn).mpr (Int.le_trans this (by decide))
    omega
  · show decide (z.length * n.toNat > sizeLine) = false
    exact decide_eq_false (by omega)
  · by_cases h0 : n < 1
    · rw [if_pos h0]
      have e : repS z n.toNat = Str.empty := by
        have : n.toNat = 0 := by omega
        rw [this]
        rfl
      rw [e] at q
      exact ⟨by decide, .str Str.empty, H, I.tok _, ⟨_, rfl⟩, q⟩
    · rw [if_neg h0]
      by_cases h4 : (n == 1 || z.length == 0) = true
      · rw [if_pos h4]
        have e : repS z n.toNat = z := by
          rcases Bool.or_eq_true_iff.mp h4 with h5 | h5
          · have : n = 1 := by simpa using h5
            subst this
            obtain ⟨z⟩ := z
            show (⟨([z.toList].flatten).toArray⟩ : Str) = ⟨z⟩
            simp
          · have h6 : z.length = 0 := by simpa using h5
            obtain ⟨z⟩ := z
            have h7 : z = #[] := Array.eq_empty_of_size_eq_zero h6
            subst h7
            show (⟨((List.replicate n.toNat []).flatten).toArray⟩ : Str) = ⟨#[]⟩
            simp
        rw [e] at q
        exact ⟨.str z, H, I, ⟨_, rfl⟩, q⟩
      · rw [if_neg h4]
        have e : (⟨(List.replicate n.toNat z.cps).foldl (· ++ ·) #[]⟩ : Str) = repS z n.toNat := by
          have := foldl_repA z.cps.toList n.toNat #[]
          rw [Array.toArray_toList] at this
          rw [this]
          simp [repS]
        rw [e]
        exact ⟨by rw [repS_len]; exact hz, .str (repS z n.toNat), H, I.tok _, ⟨_, rfl⟩, q⟩
def oMulA : OP2
  | .int i, .int j, Q => gd ((-18446744073709551616 < i ∧ i < 18446744073709551616) ∨ (-18446744073709551616 < j ∧ j < 18446744073709551616)) (Q (.int (i * j)))
  | .lst xs, .int k, Q => gd (smallB k = true ∧ xs.length * k.toNat ≤ 16777216) (Q (.lst (List.replicate k.toNat xs).flatten))
  | .str x, .int k, Q => gd (smallB k = true ∧ x.length * k.toNat ≤ 16777216) (Q (.str (repS x k.toNat)))
  | _, _, _ => False
theorem oy_mulA : OpY X (binaryOp .Mult) oMulA := by
  refine ⟨_, op_mul.or (op_rep.or op_mul_str), fun F Hs σ H ε v w d1 d2 Q' Q R r1 r2 q k => ?_⟩
  unfold oMulA at q
  split at q
  · have q := gd_elim q
    refine .inl ⟨_, _, r1.int', r2.int', ?_, k _ H Hs _ (Evl.Ex.refl _) R (.int _) q.2⟩
    exact q.1
  · have q := gd_elim q
    obtain ⟨a, vs, e1, h1, p1⟩ := r1.lst' R.ex
    obtain ⟨s1, s2⟩ := small_of q.1.1
    refine .inr (.inl ⟨a, _, vs, e1, r2.int', h1, by omega, by omega, by rw [p1.len]; exact line_le q.1.2, fun p hp => ?_⟩)
    obtain ⟨R3, e3⟩ := R.new (o := .lst (List.replicate (Int.toNat _) vs).flatten) hp
    exact k (.ref p) _ _ _ e3 R3 (.lst upd_same ((p1.rep _).mono e3)) q.2
  · have q := gd_elim q
    obtain ⟨s1, s2⟩ := small_of q.1.1
    exact .inr (.inr ⟨_, _, r1.str', r2.int', by omega, by omega, line_le q.1.2, k _ H Hs _ (Evl.Ex.refl _) R (.str _) q.2⟩)
  · exact q.elim
/-! ### in a list, a tuple of flat items -/
def flatD : D → Bool
  | .non => true
  | .bl _ => true
  | .int _ => true
  | .str _ => true
  | _ => false
def eqF : D → D → Bool
  | .non, .non => true
  | .bl a, .bl b => a == b
  | .bl a, .int b => (if a then 1 else 0) == b
  | .int a, .bl b => a == (if b then 1 else 0)
  | .int a, .int b => a == b
  | .str a, .str b => a == b
  | _, _ => false
def inF (x : D) (ys : List D) : Bool := ys.any fun y => eqF y x
def flatAll : List D → Bool
  | [] => true
  | d :: ds => match flatD d with
    | true => flatAll ds
    | false => false
def oIn (neg : Bool) : OP2 := fun x y Q => match y with
  | .lst ys => gd (flatD x = true ∧ flatAll ys = true) (Q (.bl (match neg with | true => !inF x ys | false => inF x ys)))
  | .tup ys => gd (flatD x = true ∧ flatAll ys = true) (Q (.bl (match neg with | true => !inF x ys | false => inF x ys)))
  | _ => False
theorem flat_rep {K : PySem.W.Frag} {H : Hp} {v : V} {d : D} (r : Rep K H v d) (f : flatD d = true) : flatV v = true ∧ ∀ w e, Rep K H w e → flatD e = true → eqV v w = eqF d e := by
  cases r <;> first
    | (cases f; done)
    | (refine ⟨rfl, fun w e r2 f2 => ?_⟩
       cases r2 <;> first | (cases f2; done) | rfl)
theorem flat_all {K : PySem.W.Frag} {H : Hp} : ∀ {vs : List V} {ds : List D}, Reps K H vs ds → flatAll ds = true → vs.all flatV = true ∧ ∀ w e, Rep K H w e → flatD e = true → inV w vs = inF e ds
  | _, _, .nil, _ => ⟨rfl, fun _ _ _ _ => rfl⟩
  | _, _, .cons (d := d) (ds := ds) h t, f => by
    have f1 : flatD d = true ∧ flatAll ds = true := by
      unfold flatAll at f
      split at f
      · rename_i e
        exact ⟨e, f⟩
      · cases f
    obtain ⟨a1, a2⟩ := flat_rep h f1.1
    obtain ⟨b1, b2⟩ := flat_all t f1.2
    refine ⟨by rw [List.all_cons, a1, b1]; rfl, fun w e r2 f2 => ?_⟩
    show ((_ :: _ : List V).any _) = ((_ :: _ : List D).any _)
    rw [List.any_cons, List.any_cons, a2 w e r2 f2]
    have := b2 w e r2 f2
    unfold inV inF at this
    rw [this]
theorem oy_in_core {neg : Bool} {op : CmpOp} (h : OpR X (compareOp op) (rIn X.K neg)) : OpY X (compareOp op) (oIn neg) := by
  refine ⟨_, h, fun F Hs σ H ε v w d1 d2 Q' Q R r1 r2 q k => ?_⟩
  unfold oIn at q
  split at q
  · have q := gd_elim q
    obtain ⟨a, vs, e1, h1, p1⟩ := r2.lst' R.ex
    have r1' : Rep X.K Hs v d1 := by
      cases d1 <;> first | (cases q.1.1; done) | (first | (rw [r1.int']; exact .int _) | (rw [r1.str']; exact .str _) | (rw [r1.bl']; exact .bl _) | (rw [r1.non']; exact .non))
    obtain ⟨g1, g2⟩ := flat_all p1 q.1.2
    obtain ⟨g3, _⟩ := flat_rep r1' q.1.1
    refine ⟨a, vs, e1, .inl (SqL.of h1), g3, g1, ?_⟩
    rw [g2 v d1 r1' q.1.1]
    cases neg
    · exact k _ H Hs _ (Evl.Ex.refl _) R (.bl _) q.2
    · exact k _ H Hs _ (Evl.Ex.refl _) R (.bl _) q.2
  · have q := gd_elim q
    obtain ⟨a, vs, e1, h1, p1⟩ := r2.tup' R.ex
    have r1' : Rep X.K Hs v d1 := by
      cases d1 <;> first | (cases q.1.1; done) | (first | (rw [r1.int']; exact .int _) | (rw [r1.str']; exact .str _) | (rw [r1.bl']; exact .bl _) | (rw [r1.non']; exact .non))
    obtain ⟨g1, g2⟩ := flat_all p1 q.1.2
    obtain ⟨g3, _⟩ := flat_rep r1' q.1.1
    refine ⟨a, vs, e1, .inr h1, g3, g1, ?_⟩
    rw [g2 v d1 r1' q.1.1]
    cases neg
    · exact k _ H Hs _ (Evl.Ex.refl _) R (.bl _) q.2
    · exact k _ H Hs _ (Evl.Ex.refl _) R (.bl _) q.2
  · exact q.elim
theorem oy_in : OpY X (compareOp .In) (oIn false) := oy_in_core op_in_seq
theorem oy_notin : OpY X (compareOp .NotIn) (oIn true) := oy_in_core op_notIn_seq
/-! ### a, b, c = x, y, z: data -/
def ysPar3 (i j l : Nat) (rs : PTL) : PTS := fun Δ ε => rs ε fun ts ε1 => outs ε1 ts fun ds ε2 => match ds with
  | [d1, d2, d3] => Δ.nx (((ε2.set i (some (.v d1))).set j (some (.v d2))).set l (some (.v d3)))
  | _ => False
theorem ys_par3 (i j l : Nat) {x y z : Str} {a b c : Expr} {rs : PTL} {px py pz pt : Pos} {kt k2 : Nat} {pt2 : Pos} (hc : X.calm = true) (hN : X.N.Nodup) (hi : X.N[i]? = some x) (hj : X.N[j]? = some y) (hl : X.N[l]? = some z) (hij : i ≠ j) (hil : i ≠ l) (hjl : j ≠ l)
    (hx : X.env.scope.names.lookup x = some .local) (hy : X.env.scope.names.lookup y = some .local) (hz : X.env.scope.names.lookup z = some .local) (ha : YL X W Ξ [a, b, c] rs)
    (hw : swappedStores [.Tuple [.Name x px, .Name y py, .Name z pz] kt pt] (.Tuple [a, b, c] k2 pt2) X.env = pure (some [x, y, z]) := by rfl)
    (hs : swapsWithSole [.Tuple [.Name x px, .Name y py, .Name z pz] kt pt] (.Tuple [a, b, c] k2 pt2) pos.line X.env = pure false := by rfl) :
    YS X W Ξ (.Assign [.Tuple [.Name x px, .Name y py, .Name z pz] kt pt] (.Tuple [a, b, c] k2 pt2) pos) (ysPar3 i j l rs) := by
  obtain ⟨ta, pa, ka⟩ := ha.ex
  refine ⟨_, ps_par3 hc hN hi hj hl hij hil hjl hx hy hz pa hw hs, fun F Hs σ H ε Δ Dd R L q kk => ?_⟩
  refine ka F Hs σ H ε _ _ R L q fun vs H1 Hs1 ts ε1 e1 R1 p1 q1 => ?_
  obtain ⟨ds, ε2, Hs2, e2, R2, rv, q2⟩ := R1.outs p1 q1
  split at q2
  · cases rv with
    | cons r1 rv =>
      cases rv with
      | cons r2 rv =>
        cases rv with
        | cons r3 rv =>
          cases rv
          exact ⟨_, _, _, rfl, kk.nx _ H1 Hs2 _ (e1.trans e2) (((R2.store r1 i).store r2 j).store r3 l) q2⟩
  · exact q2.elim
end
end PL

set_option Elab.async false
set_option linter.all false
set_option autoImplicit false
set_option maxRecDepth 100000
set_option maxHeartbeats 1000000
/-! Texts as lists of signs; what two lists have alike; [f(x) for x in xs]. -/
namespace PL
open PySem PySem.Spec PyProof.Rows L2
/-- a text of signs -/
abbrev S0 (l : List Nat) : Str := ⟨⟨l⟩⟩
theorem str_eta (x : Str) : x = S0 x.cps.toList := rfl
theorem dec_sign {c d : Nat} : decide (S0 [c] = S0 [d]) = decide (c = d) := by
  by_cases h : c = d
  · subst h; rw [decide_eq_true rfl, decide_eq_true rfl]
  · rw [decide_eq_false h, decide_eq_false]
    intro z
    apply h
    have := congrArg (fun s : Str => s.cps.toList) z
    simpa using this
theorem lt_sign {c d : Nat} : ltS (S0 [c]) (S0 [d]) = decide (c < d) := by
  unfold ltS
  show decide ([c] < [d]) = decide (c < d)
  have e : [c] < [d] ↔ c < d := by
    rw [List.cons_lt_cons_iff]
    simp
  by_cases h : c < d
  · rw [decide_eq_true h, decide_eq_true (e.mpr h)]
  · rw [decide_eq_false h, decide_eq_false (fun z => h (e.mp z))]
theorem sIx_in {n d : Nat} {i : Int} (h0 : 0 ≤ i) (h1 : i ≤ n) : HT.sIx n d (some i) = i.toNat := by
  obtain ⟨j, rfl⟩ := Int.eq_ofNat_of_zero_le h0
  rw [HT.sIx_nat, Int.toNat_natCast]
  omega
theorem cut_from {l : List Nat} {i : Int} (h0 : 0 ≤ i) (h1 : i ≤ l.length) : cutS (S0 l) (some i) none = S0 (l.drop i.toNat) := by
  unfold cutS
  show (⟨((l.drop (HT.sIx l.length 0 (some i))).take (l.length - HT.sIx l.length 0 (some i))).toArray⟩ : Str) = _
  rw [sIx_in h0 h1, List.take_of_length_le (by rw [List.length_drop]; omega)]
theorem cut_to {l : List Nat} {i : Int} (h0 : 0 ≤ i) (h1 : i ≤ l.length) : cutS (S0 l) none (some i) = S0 (l.take i.toNat) := by
  unfold cutS
  show (⟨((l.drop 0).take (HT.sIx l.length l.length (some i) - 0)).toArray⟩ : Str) = _
  rw [sIx_in h0 h1]
  rfl
theorem cut_mid {l : List Nat} {i j : Int} (h0 : 0 ≤ i) (h1 : i ≤ j) (h2 : j ≤ l.length) : cutS (S0 l) (some i) (some j) = S0 ((l.drop i.toNat).take (j.toNat - i.toNat)) := by
  unfold cutS
  show (⟨((l.drop (HT.sIx l.length 0 (some i))).take (HT.sIx l.length l.length (some j) - HT.sIx l.length 0 (some i))).toArray⟩ : Str) = _
  rw [sIx_in h0 (by omega), sIx_in (by omega) h2]
/-- how far two lists are alike -/
def cpre : List Nat → List Nat → Nat
  | x :: xs, y :: ys => if x = y then cpre xs ys + 1 else 0
  | _, _ => 0
theorem cpre_le : ∀ xs ys : List Nat, cpre xs ys ≤ xs.length ∧ cpre xs ys ≤ ys.length
  | [], _ => ⟨Nat.zero_le _, Nat.zero_le _⟩
  | _ :: _, [] => ⟨Nat.zero_le _, Nat.zero_le _⟩
  | x :: xs, y :: ys => by
    unfold cpre
    split
    · obtain ⟨h1, h2⟩ := cpre_le xs ys
      exact ⟨Nat.succ_le_succ h1, Nat.succ_le_succ h2⟩
    · exact ⟨Nat.zero_le _, Nat.zero_le _⟩
/-- one more sign alike, or the end of it -/
theorem cpre_at : ∀ {xs ys : List Nat} {n : Nat} {a b : Nat}, n ≤ cpre xs ys → xs[n]? = some a → ys[n]? = some b → (a = b ∧ n + 1 ≤ cpre xs ys) ∨ (a ≠ b ∧ n = cpre xs ys)
  | [], _, n, a, b, _, h, _ => by simp at h
  | _ :: _, [], n, a, b, _, _, h => by simp at h
  | x :: xs, y :: ys, 0, a, b, hn, ha, hb => by
    obtain rfl : x = a := by simpa using ha
    obtain rfl : y = b := by simpa using hb
    unfold cpre
    split
    · rename_i e
      exact .inl ⟨e, by omega⟩
    · rename_i e
      exact .inr ⟨e, rfl⟩
  | x :: xs, y :: ys, n + 1, a, b, hn, ha, hb => by
    unfold cpre at hn ⊢
    split at hn
    · rename_i e
      rw [if_pos e]
      rcases cpre_at (xs := xs) (ys := ys) (n := n) (by omega) (by simpa using ha) (by simpa using hb) with ⟨h1, h2⟩ | ⟨h1, h2⟩
      · exact .inl ⟨h1, by omega⟩
      · exact .inr ⟨h1, by omega⟩
    · omega
theorem cpre_end {xs ys : List Nat} {n : Nat} (h : n ≤ cpre xs ys) (e : n = xs.length ∨ n = ys.length) : n = cpre xs ys := by
  have := cpre_le xs ys
  omega
/-- the sign at a place -/
theorem opt_sign {l : List Nat} {i : Int} {n : Nat} {c : Nat} {Q : Nat → Prop} (hi : i = (n : Int)) (h : l[n]? = some c) (k : Q c) : opt (atI l i) Q := by
  subst hi
  exact opt_of (atI_nat h) k
theorem get_of {l : List Nat} {n : Nat} (h : n < l.length) : ∃ c, l[n]? = some c := ⟨l[n], List.getElem?_eq_getElem h⟩
/-- [f(x) for x in xs] -/
theorem lc_map {g : PTG} {rt : PTT} {re : PTE} {vs : List Nat} {ε1 : PEnv} {Q : List D → PEnv → Prop} {ds : List D} (f : D → D)
    (st : ∀ (i : Nat) (d : D), ds[i]? = some d → ∀ (K : D → Prop) (N : Prop), K (f d) → g d (wipeE ε1 vs) fun ε2 => rt ε2 fun k ε3 => match k with
      | true => re ε3 fun t ε4 => out ε4 t fun y ε5 => wipeE ε5 vs = wipeE ε1 vs ∧ K y
      | false => wipeE ε3 vs = wipeE ε1 vs ∧ N) (fin : Q (ds.map f) ε1) : ∃ Wp : Nat → List D → Prop, Wp 0 [] ∧
  (∀ i d acc, i < ds.length → ds[i]? = some d → acc.length ≤ i → Wp i acc → g d (wipeE ε1 vs) fun ε2 => rt ε2 fun k ε3 => match k with
    | true => re ε3 fun t ε4 => out ε4 t fun y ε5 => wipeE ε5 vs = wipeE ε1 vs ∧ Wp (i + 1) (acc ++ [y])
    | false => wipeE ε3 vs = wipeE ε1 vs ∧ Wp (i + 1) acc) ∧ ∀ acc, acc.length ≤ ds.length → Wp ds.length acc → Q acc ε1 := by
  refine ⟨fun i acc => acc = (ds.take i).map f, rfl, fun i d acc hi hd hl w => ?_, fun acc hl w => ?_⟩
  · refine st i d hd (fun y => acc ++ [y] = (ds.take (i + 1)).map f) (acc = (ds.take (i + 1)).map f) ?_
    subst w
    have hd2 : ds[i] = d := by
      rw [List.getElem?_eq_getElem hi] at hd
      exact Option.some.inj hd
    rw [List.take_succ_eq_append_getElem hi, List.map_append, hd2]
    rfl
  · subst w
    rw [List.take_length]
    exact fin
theorem all_bls {xs : List Bool} {Q : D → Prop} (h : Q (.bl (xs.all id))) : oAll [.lst (xs.map D.bl)] Q := by
  show opt (toBls (xs.map D.bl)) _
  rw [toBls_map]
  exact h
end PL

set_option Elab.async false
set_option linter.all false
set_option autoImplicit false
set_option maxRecDepth 100000
set_option maxHeartbeats 1000000
/-! Small dicts of texts. -/
namespace PL
open PySem PySem.Spec PyProof.Rows L2
open Evl (Ex)
section
variable {X : Cx} {W : WX} {Ξ : Xi} {a b : Expr} {pos : Pos}
/-- {k1: v1, k2: v2}, of texts -/
def yDic2 (k1 v1 k2 v2 : Str) : PTE := fun ε Q => Q (.d (.dic [(.inr k1, .str v1), (.inr k2, .str v2)])) ε
theorem ye_dic2 {k1 v1 k2 v2 : Str} {j1 j2 j3 j4 : Nat} {p1 p2 p3 p4 : Pos} (hne : decide (k1 = k2) = false) : YE X W Ξ (.Dict [some (.Constant (.str k1) j1 p1), some (.Constant (.str k2) j2 p2)] [.Constant (.str v1) j3 p3, .Constant (.str v2) j4 p4] pos) (yDic2 k1 v1 k2 v2) := by
  have hk : k1 ≠ k2 := of_decide_eq_false hne
  refine ⟨_, pe_disp (pps_cons pe_str pe_str (pps_cons pe_str pe_str pps_nil)) rfl rfl (by simp) (by simp), fun F Hs σ H ε Q' Q R L q k => fun p hp => ?_⟩
  refine ⟨upd_same, [(.inr k1, .str v1), (.inr k2, .str v2)], rfl, by simp, ?_⟩
  have em : mergeK ([] : List (Key × V)) [(.inr k1, .str v1), (.inr k2, .str v2)] = [(.inr k1, .str v1), (.inr k2, .str v2)] := by
    show putK (putK ([] : List (Key × V)) (.inr k1) (.str v1)) (.inr k2) (.str v2) = _
    simp [putK, hk]
  rw [em, upd_upd]
  obtain ⟨R3, e3⟩ := R.new (o := .dK [(.inr k1, .str v1), (.inr k2, .str v2)]) hp
  exact k (.ref p) _ _ (.d (.dic [(.inr k1, .str v1), (.inr k2, .str v2)])) ε e3 R3 (show Rep X.K _ _ _ from .dic upd_same rfl (.cons (.str _) (.cons (.str _) .nil))) q
/-- d[x], x a text -/
def dGet : List (Key × D) → Str → Option D
  | [], _ => none
  | (.inr k, d) :: r, x => match decide (k = x) with
    | true => some d
    | false => dGet r x
  | (.inl _, _) :: r, x => dGet r x
theorem dGet_rep {K : PySem.W.Frag} {H : Hp} {x : Str} : ∀ {kvs : List (Key × V)} {ds : List (Key × D)} {d : D}, kvs.map (·.1) = ds.map (·.1) → Reps K H (kvs.map (·.2)) (ds.map (·.2)) → dGet ds x = some d → ∃ v, valV kvs (.inr x) = some v ∧ Rep K H v d
  | [], [], d, _, _, h => by cases h
  | [], _ :: _, _, e, _, _ => by cases e
  | _ :: _, [], _, e, _, _ => by cases e
  | (k, v) :: kvs, (k', d') :: ds, d, e, r, h => by
    rw [List.map_cons, List.map_cons, List.cons.injEq] at e
    obtain ⟨e1, e2⟩ := e
    replace e1 : k = k' := e1
    subst e1
    cases r with
    | cons r1 r2 =>
      cases k with
      | inl i =>
        obtain ⟨w, h1, h2⟩ := dGet_rep e2 r2 (show dGet ds x = some d from h)
        exact ⟨w, by rw [valV_neg (by simp)]; exact h1, h2⟩
      | inr k =>
        have h3 : (match decide (k = x) with | true => some d' | false => dGet ds x) = some d := h
        cases hd : decide (k = x) with
        | true =>
          rw [hd] at h3
          have hk := of_decide_eq_true hd
          subst hk
          cases h3
          exact ⟨v, valV_pos rfl, r1⟩
        | false =>
          rw [hd] at h3
          have hk := of_decide_eq_false hd
          obtain ⟨w, h1, h2⟩ := dGet_rep e2 r2 h3
          exact ⟨w, by rw [valV_neg (by simpa using hk)]; exact h1, h2⟩
def yIxD (ra rb : PTE) : PTE := fun ε Q => ra ε fun t1 ε1 => rb ε1 fun t2 ε2 => res ε2 t1 fun d1 => res ε2 t2 fun d2 => match d1, d2 with
  | .dic ds, .str x => opt (dGet ds x) fun d => Q (.d d) ε2
  | _, _ => False
theorem ye_ixD {ra rb : PTE} (hu : X.A.units + 64 < cLine) (ha : YE X W Ξ a ra) (hb : YE X W Ξ b rb) (hs : NoSl b := by intro _ _; rfl) : YE X W Ξ (.Subscript a b pos) (yIxD ra rb) := by
  obtain ⟨ta, pa, ka⟩ := ha.ex
  obtain ⟨tb, pb, kb⟩ := hb.ex
  refine ⟨_, pe_dget (by omega) pa pb hs, fun F Hs σ H ε Q' Q R L q k => ?_⟩
  refine ka F Hs σ H ε _ _ R L q fun v H1 Hs1 t1 ε1 e1 R1 p1 q1 => ?_
  refine kb F Hs1 σ H1 ε1 _ _ R1 (L.mono e1) q1 fun w H2 Hs2 t2 ε2 e2 R2 p2 q2 => ?_
  obtain ⟨d1, v1, q3⟩ := R2.res (p1.mono e2) q2
  obtain ⟨d2, v2, q4⟩ := R2.res p2 q3
  split at q4
  · obtain ⟨d, hd, q5⟩ := opt_elim q4
    obtain ⟨a, kvs, rfl, g1, g2, g3⟩ := v1.dic' R2.ex
    rw [v2.str']
    obtain ⟨v, h1, h2⟩ := dGet_rep g2 g3 hd
    refine ⟨a, v, rfl, ?_, k v H2 Hs2 (.d d) ε2 (e1.trans e2) R2 h2 q5⟩
    rw [← h1]
    exact DGet.k (k := .inr _) g1
  · exact q4.elim
/-- a, b, c = a new list, y, z -/
def ysPar3N (i j l : Nat) (rn : PTN) (rb rc : PTE) : PTS := fun Δ ε => rn ε fun ds ε1 => rb ε1 fun t2 ε2 => out ε2 t2 fun d2 ε3 => rc ε3 fun t3 ε4 => out ε4 t3 fun d3 ε5 =>
  Δ.nx (((ε5.set i (some (.o ds))).set j (some (.v d2))).set l (some (.v d3)))
theorem ys_par3N (i j l : Nat) {x y z : Str} {a b c : Expr} {rn : PTN} {rb rc : PTE} {px py pz pt : Pos} {kt k2 : Nat} {pt2 : Pos} (hc : X.calm = true) (hN : X.N.Nodup) (hi : X.N[i]? = some x) (hj : X.N[j]? = some y) (hl : X.N[l]? = some z) (hij : i ≠ j) (hil : i ≠ l) (hjl : j ≠ l)
    (hx : X.env.scope.names.lookup x = some .local) (hy : X.env.scope.names.lookup y = some .local) (hz : X.env.scope.names.lookup z = some .local) (ha : YN X W Ξ a rn) (hb : YE X W Ξ b rb) (hcc : YE X W Ξ c rc)
    (hst : starEach [a, b, c] X.env = (false, eval a X.env) :: starEach [b, c] X.env := by rfl) (hst2 : starEach [b, c] X.env = (false, eval b X.env) :: starEach [c] X.env := by rfl) (hst3 : starEach [c] X.env = (false, eval c X.env) :: starEach [] X.env := by rfl)
    (hw : swappedStores [.Tuple [.Name x px, .Name y py, .Name z pz] kt pt] (.Tuple [a, b, c] k2 pt2) X.env = pure (some [x, y, z]) := by rfl)
    (hs : swapsWithSole [.Tuple [.Name x px, .Name y py, .Name z pz] kt pt] (.Tuple [a, b, c] k2 pt2) pos.line X.env = pure false := by rfl) :
    YS X W Ξ (.Assign [.Tuple [.Name x px, .Name y py, .Name z pz] kt pt] (.Tuple [a, b, c] k2 pt2) pos) (ysPar3N i j l rn rb rc) := by
  obtain ⟨ta, pa, ka⟩ := ha.ex
  obtain ⟨tb, pb, kb⟩ := hb.ex
  obtain ⟨tc, pc, kc⟩ := hcc.ex
  refine ⟨_, ps_par3 hc hN hi hj hl hij hil hjl hx hy hz (pa_cons pa (pa_cons pb (pa_cons pc pa_nil hst3) hst2) hst) hw hs, fun F Hs σ H ε Δ Dd R L q kk => ?_⟩
  refine ka F Hs σ H ε _ _ R L q fun p H1 Hs1 vs ds ε1 e1 R1 g1 g2 g3 g4 rs q1 => ?_
  have R1' := R1.lend g1 g2 g4
  have L' : Lk X.K (upd F p (.lst vs)) Hs1 W Ξ := fun c σ' H' Hs' ε' xc e' R' => L c σ' H' Hs' ε' xc (e1.trans e') (R'.back g3).1
  refine kb _ Hs1 σ H1 ε1 _ _ R1' L' q1 fun w2 H2 Hs2 t2 ε2 e2 R2 p2 q2 => ?_
  obtain ⟨d2, ε3, Hs3, e3, R3, r3, q3⟩ := R2.out p2 q2
  refine kc _ Hs3 σ H2 ε3 _ _ R3 (L'.mono (e2.trans e3)) q3 fun w3 H4 Hs4 t3 ε4 e4 R4 p4 q4 => ?_
  obtain ⟨d3, ε5, Hs5, e5, R5, r5, q5⟩ := R4.out p4 q4
  refine ⟨.ref p, w2, w3, rfl, ?_⟩
  obtain ⟨R5', b1, b2, b3⟩ := R5.back g3
  have R6 := storeO_of R5' i b1 b2 g3 b3 (rs.mono (((e2.trans e3).trans e4).trans e5))
  exact kk.nx _ H4 Hs5 _ ((((e1.trans e2).trans e3).trans e4).trans e5) ((R6.store (r3.mono (e4.trans e5)) j).store r5 l) q5
/-- x[a:b], x a tuple -/
def asTp (Q : List D → Prop) : D → Prop
  | .tup xs => Q xs
  | _ => False
theorem asTp_elim {d : D} {Q : List D → Prop} (h : asTp Q d) : ∃ i, d = .tup i ∧ Q i := by
  cases d with
  | tup i => exact ⟨i, rfl, h⟩
  | _ => exact h.elim
def ySlT (ra : PTE) (rl rh : PTO) : PTE := fun ε Q => ra ε fun t ε1 => rl ε1 fun lo ε2 => rh ε2 fun hi ε3 => res ε3 t (asTp fun xs => gd (¬ (HT.sIx xs.length 0 lo = 0 ∧ HT.sIx xs.length xs.length hi = xs.length)) (Q (.d (.tup (cutD xs lo hi))) ε3))
theorem ye_slT {lo hi : Option Expr} {p2 : Pos} {ra : PTE} {rl rh : PTO} (ha : YE X W Ξ a ra) (hl : YO X W Ξ lo rl) (hh : YO X W Ξ hi rh) : YE X W Ξ (.Subscript a (.Slice lo hi none p2) pos) (ySlT ra rl rh) := by
  obtain ⟨ta, pa, ka⟩ := ha.ex
  obtain ⟨tl, pl, kl⟩ := hl.ex
  obtain ⟨th, ph, kh⟩ := hh.ex
  refine ⟨_, pe_slice sl_tup pa pl ph, fun F Hs σ H ε Q' Q R L q k => ?_⟩
  refine ka F Hs σ H ε _ _ R L q fun v H1 Hs1 t1 ε1 e1 R1 p1 q1 => ?_
  refine kl F Hs1 σ H1 ε1 _ _ R1 (L.mono e1) q1 fun l H2 Hs2 ε2 e2 R2 q2 => ?_
  refine kh F Hs2 σ H2 ε2 _ _ R2 (L.mono (e1.trans e2)) q2 fun h H3 Hs3 ε3 e3 R3 q3 => ?_
  obtain ⟨d, v1, q4⟩ := R3.res (p1.mono (e2.trans e3)) q3
  obtain ⟨xs, rfl, q4⟩ := asTp_elim q4
  obtain ⟨a, vs, g1, h1, p1⟩ := v1.tup' R3.ex
  obtain ⟨hn, q5⟩ := gd_elim q4
  refine ⟨a, vs, g1, h1, by rw [p1.len]; exact hn, fun p hp => ?_⟩
  obtain ⟨R4, e4⟩ := R3.new (o := .tup (cutV vs l h)) hp
  exact k (.ref p) _ _ (.d (.tup (cutD _ l h))) ε3 (((e1.trans e2).trans e3).trans e4) R4 (show Rep X.K _ _ (.tup _) from .tup (SqT.of upd_same) ((p1.cut l h).mono e4)) q5
end
/-- [f(x) for x in xs if p(x)] -/
theorem lc_filter {g : PTG} {rt : PTT} {re : PTE} {vs : List Nat} {ε1 : PEnv} {Q : List D → PEnv → Prop} {ds : List D} (f : D → D) (p : D → Bool)
    (st : ∀ (i : Nat) (d : D), ds[i]? = some d → ∀ (K : D → Prop) (N : Prop), (p d = true → K (f d)) → (p d = false → N) → g d (wipeE ε1 vs) fun ε2 => rt ε2 fun k ε3 => match k with
      | true => re ε3 fun t ε4 => out ε4 t fun y ε5 => wipeE ε5 vs = wipeE ε1 vs ∧ K y
      | false => wipeE ε3 vs = wipeE ε1 vs ∧ N) (fin : Q ((ds.filter p).map f) ε1) : ∃ Wp : Nat → List D → Prop, Wp 0 [] ∧
  (∀ i d acc, i < ds.length → ds[i]? = some d → acc.length ≤ i → Wp i acc → g d (wipeE ε1 vs) fun ε2 => rt ε2 fun k ε3 => match k with
    | true => re ε3 fun t ε4 => out ε4 t fun y ε5 => wipeE ε5 vs = wipeE ε1 vs ∧ Wp (i + 1) (acc ++ [y])
    | false => wipeE ε3 vs = wipeE ε1 vs ∧ Wp (i + 1) acc) ∧ ∀ acc, acc.length ≤ ds.length → Wp ds.length acc → Q acc ε1 := by
  refine ⟨fun i acc => acc = ((ds.take i).filter p).map f, rfl, fun i d acc hi hd hl w => ?_, fun acc hl w => ?_⟩
  · have hd2 : ds[i] = d := by
      rw [List.getElem?_eq_getElem hi] at hd
      exact Option.some.inj hd
    have ht : ds.take (i + 1) = ds.take i ++ [d] := by rw [List.take_succ_eq_append_getElem hi, hd2]
    refine st i d hd (fun y => acc ++ [y] = ((ds.take (i + 1)).filter p).map f) (acc = ((ds.take (i + 1)).filter p).map f) (fun h => ?_) fun h => ?_
    · subst w
      rw [ht, List.filter_append, List.map_append]
      simp [h]
    · subst w
      rw [ht, List.filter_append, List.map_append]
      simp [h]
  · subst w
    rw [List.take_length]
    exact fin
theorem gtup5 {i j k l m : Nat} {d1 d2 d3 d4 d5 : D} {ε : PEnv} {Q : PEnv → Prop} (h : Q (((((ε.set i (some (.v d1))).set j (some (.v d2))).set k (some (.v d3))).set l (some (.v d4))).set m (some (.v d5)))) : gTupY 5 [gN i, gN j, gN k, gN l, gN m] (.tup [d1, d2, d3, d4, d5]) ε Q := h
theorem eqv_pair {a b c d : Int} : PyData.eqv (D.py (.tup [.int a, .int b])) (D.py (.tup [.int c, .int d])) = (decide (a = c) && decide (b = d)) := by
  show ((a == c) && ((b == d) && true)) = _
  rw [Bool.and_true]
  rfl
end PL

set_option Elab.async false
set_option linter.all false
set_option autoImplicit false
set_option maxRecDepth 100000
set_option maxHeartbeats 1000000
/-! A list that a name owns is lent to a def. -/
namespace PL
open PySem PySem.Spec PyProof.Rows L2
open Evl (Ex)
mutual
/-- no list in it -/
def noLst : D → Bool
  | .non => true
  | .bl _ => true
  | .int _ => true
  | .str _ => true
  | .tup ds => noLsts ds
  | _ => false
def noLsts : List D → Bool
  | [] => true
  | d :: ds => noLst d && noLsts ds
end
/-- a heap without the object at p -/
def less (H : Hp) (p : Addr) : Hp := fun b => if b = p then none else H b
theorem less_same {H : Hp} {p : Addr} : less H p p = none := if_pos rfl
theorem less_ne {H : Hp} {p b : Addr} (h : b ≠ p) : less H p b = H b := if_neg h
theorem sqt_less {K : PySem.W.Frag} {H : Hp} {p a : Addr} {xs ys : List V} (hp : H p = some (.lst xs)) (s : SqT K H a ys) : SqT K (less H p) a ys := by
  rcases s with s | s
  · have ne : a ≠ p := by
      intro z
      subst z
      rcases s with s | ⟨o, s⟩ <;> (rw [hp] at s; cases s)
    left
    rcases s with s | ⟨o, s⟩
    · exact .inl (by rw [less_ne ne]; exact s)
    · exact .inr ⟨o, by rw [less_ne ne]; exact s⟩
  · exact .inr s
mutual
theorem rep_less {K : PySem.W.Frag} {H : Hp} {p : Addr} {xs : List V} (hp : H p = some (.lst xs)) : ∀ {v : V} {d : D}, Rep K H v d → noLst d = true → Rep K (less H p) v d
  | _, _, .non, _ => .non
  | _, _, .bl b, _ => .bl b
  | _, _, .int i, _ => .int i
  | _, _, .str x, _ => .str x
  | _, _, .lst _ _, h => by unfold noLst at h; cases h
  | _, _, .frl _ _, h => by unfold noLst at h; cases h
  | _, _, .tup (a := a) s r, h => by
    unfold noLst at h
    exact .tup (sqt_less hp s) (reps_less hp r h)
  | _, _, .dic _ _ _, h => by unfold noLst at h; cases h
  | _, _, .vl _, h => by unfold noLst at h; cases h
  | _, _, .pool _, h => by unfold noLst at h; cases h
  | _, _, .err _, h => by unfold noLst at h; cases h
theorem reps_less {K : PySem.W.Frag} {H : Hp} {p : Addr} {xs : List V} (hp : H p = some (.lst xs)) : ∀ {vs : List V} {ds : List D}, Reps K H vs ds → noLsts ds = true → Reps K (less H p) vs ds
  | _, _, .nil, _ => .nil
  | _, _, .cons h t, q => by
    unfold noLsts at q
    obtain ⟨q1, q2⟩ := Bool.and_eq_true_iff.mp q
    exact .cons (rep_less hp h q1) (reps_less hp t q2)
end
section
variable {K : PySem.W.Frag} {F Hs H Hs' H' : Hp} {σ : St} {ε : PEnv} {p : Addr} {vs : List V}
/-- what the callee sees of the caller's state: p stands still for the call -/
theorem lend_ex (R : RelS K F Hs σ H ε) (hH : H p = some (.lst vs)) (hp : Hs p = none) : Ex (upd Hs p (.lst vs)) H := fun b o e => by
  by_cases hb : b = p
  · subst hb
    rw [upd_same] at e
    cases e
    exact hH
  · rw [upd_ne hb] at e
    exact R.ex b o e
/-- behind the call: p is the name's own again -/
theorem lend_back (R : RelS K F Hs σ H ε) (hH : H p = some (.lst vs)) (hp : Hs p = none) (kp : Keeps (upd Hs p (.lst vs)) H Hs' H') : Keeps Hs H (less Hs' p) H' ∧ Hs' p = some (.lst vs) := by
  obtain ⟨k1, k2, k3⟩ := kp
  have hp' : Hs' p = some (.lst vs) := k1 p _ upd_same
  refine ⟨⟨fun b o e => ?_, fun b o e => ?_, fun b o e1 e2 => ?_⟩, hp'⟩
  · have ne : b ≠ p := fun z => by
      subst z
      rw [hp] at e
      cases e
    rw [less_ne ne]
    exact k1 b o (by rw [upd_ne ne]; exact e)
  · by_cases hb : b = p
    · subst hb
      rw [less_same] at e
      cases e
    · rw [less_ne hb] at e
      exact k2 b o e
  · by_cases hb : b = p
    · subst hb
      rw [hH] at e1
      cases e1
      exact ⟨k2 _ _ hp', less_same⟩
    · rw [less_ne hb]
      exact k3 b o e1 (by rw [upd_ne hb]; exact e2)
end
section
variable {X : Cx} {W : WX} {Ξ : Xi} {a : Expr} {es : List Expr} {pos : Pos}
/-- f(x, ..): x's own list is lent; what comes back holds no list -/
def yLend (φ : Spec) (Ξ : Xi) (i : Nat) (rs : PTL) : PTE := fun ε Q => match ε[i]? with
  | some (some (.o _)) => rs ε fun ts ε1 => outs ε1 ts fun ds ε2 => match ε2[i]? with
    | some (some (.o xs)) => φ (.lst xs :: ds) (fun d => noLst d = true ∧ Q (.d d) ε2) fun c => Ξ c ε2
    | _ => False
  | _ => False
theorem ye_lend {φ : Spec} {rs : PTL} {k i : Nat} {f : Addr} {fd : FuncData} {ps : List Str} {x y : Str} {p py : Pos} (Fn : FnOk X.prog X.w X.K X.mg X.base (L2.CX X.prog X.w) k f fd ps (pSp X.K φ)) (tk : Takes X W) (hr : Room k X.A) (hg : Gl X x)
    (hm : X.mg x = some (.ref f)) (hk : PySem.W.keepIn X.K (.ref f) = true) (hb : Binds X.K fd ps []) (h : YL X W Ξ es rs)
    (hN : X.N[i]? = some y) (hv : Vis X.env.scope y) (hd : (y == ("__debug__" : Str)) = false) (hcd : (y == ("__classdict__" : Str)) = false)
    (hdb : (x == ("__debug__" : Str)) = false := by decide)
    (he : starEach (.Name y py :: es) X.env = (false, eval (.Name y py) X.env) :: starEach es X.env := by rfl) (hpl : (backTo pos (starEach es X.env)).any (·.1) = false := by rfl) :
    YE X W Ξ (.Call (.Name x p) (.Name y py :: es) [] pos) (yLend φ Ξ i rs) := by
  obtain ⟨ts, pas, ks⟩ := h.ex
  refine ⟨_, pe_callS Fn hr hg hm hk hb (fun σ => passAt tk σ) (pa_cons (pe_var hN hv hd hcd) pas he) hdb he hpl, fun F Hs σ H ε Q' Q R L q k => ?_⟩
  unfold yLend at q
  split at q
  · rename_i e0
    obtain ⟨p0, vs0, s0, _⟩ := R.sl i _ e0
    refine ⟨_, s0, ks F Hs σ H ε _ _ R L q fun vs H1 Hs1 t1 ε1 e1 R1 p1 q1 => ?_⟩
    obtain ⟨ds, ε2, Hs2, e2, R2, rs, q2⟩ := R1.outs p1 q1
    split at q2
    · rename_i xs e3
      obtain ⟨p, ws, s1, g1, g2, g3, g4⟩ := R2.sl i _ e3
      have ep : p0 = p := by
        rw [s0] at s1
        exact V.ref.inj (Option.some.inj (Option.some.inj s1))
      subst ep
      have eu : Ex Hs2 (upd Hs2 p0 (.lst ws)) := ex_upd g1
      refine ⟨upd Hs2 p0 (.lst ws), .lst xs :: ds, _, _, lend_ex R2 g3 g1, .cons (.lst upd_same (g4.mono eu)) (rs.mono eu), q2, fun d qd v H' Hs' kp rv => ?_, fun c ec H' Hs' kp => ?_⟩
      · obtain ⟨kp2, hp'⟩ := lend_back R2 g3 g1 kp
        exact k v H' (less Hs' p0) (.d d) ε2 ((e1.trans e2).trans kp2.1) (R2.called kp2) (rep_less hp' rv qd.1) qd.2
      · obtain ⟨kp2, hp'⟩ := lend_back R2 g3 g1 kp
        exact L c σ H' (less Hs' p0) ε2 ec ((e1.trans e2).trans kp2.1) (R2.called kp2)
    · exact q2.elim
  · exact q.elim
theorem yeLend {φ : Spec} {rs : PTL} {k : Nat} {ps : List Str} {x y : Str} {p py : Pos} (i : Nat) (C : CallOk X.prog X.w X.K X.mg X.base k x ps φ) (tk : Takes X W) (hr : Room k X.A) (h : YL X W Ξ es rs) (hg : Gl X x := by rfl) (hN : X.N[i]? = some y := by rfl)
    (hv : Vis X.env.scope y := by first | exact Or.inl rfl | exact Or.inr (Or.inl rfl) | exact Or.inr (Or.inr rfl)) (hd : (y == ("__debug__" : Str)) = false := by decide) (hcd : (y == ("__classdict__" : Str)) = false := by decide) (hdb : (x == ("__debug__" : Str)) = false := by decide)
    (he : starEach (.Name y py :: es) X.env = (false, eval (.Name y py) X.env) :: starEach es X.env := by rfl) (hpl : (backTo pos (starEach es X.env)).any (·.1) = false := by rfl) :
    YE X W Ξ (.Call (.Name x p) (.Name y py :: es) [] pos) (yLend φ Ξ i rs) := by
  obtain ⟨⟨fd, F, _, b⟩, kp, gl⟩ := C
  exact ye_lend F tk hr hg gl kp (fun s us _ hl => by rw [List.append_nil] at hl ⊢; exact b s us hl) h hN hv hd hcd hdb he hpl
end
end PL

set_option Elab.async false
set_option linter.all false
set_option autoImplicit false
set_option maxRecDepth 100000
set_option maxHeartbeats 2000000
/-! An own error whose __init__ says super().__init__(key); self.key = key: its run. -/
namespace PX
open PySem PySem.Spec PySem.W PySem.Calls PyProof.Rows
/-- what the written part says of the class at C and its __init__ at fI -/
structure BsF (K : Frag) (P : Program) (C fI cc cda : Addr) (fd : FuncData) : Prop where
  ini : findIn K (.ref C) "__init__" = some (some (.ref fI))
  lk : ∃ oc od osl, K.lookup fI = some ⟨oc, od, .func fd, osl⟩
  fn : typeIn K (.ref fI) = some (.type "function")
  clo : fd.closure = [(("__class__" : Str), cc)]
  glb : fd.globals = mainGlobals
  blt : fd.builtins = builtinsNs
  dfl : fd.defaults = .none
  kwd : fd.kwdefaults = .none
  cdv : fd.code = .ref cda
  cd : codeIn K (.ref cda) fd.qualname = true
  cdf : ∃ cl cdd vs css file tf, K.lookup cda = some ⟨cl, cdd, .fields vs, css⟩ ∧ vs[2]? = some (.str file tf) ∧ ((P.main.file : Str) == file) = true
  cell : ∃ cl cld csl, K.lookup cc = some ⟨cl, cld, .cell (some (.ref C)), csl⟩
  par : ∃ p1 p2 : Pos, fd.params = ⟨[], [⟨"self", none, p1⟩, ⟨"key", none, p2⟩], none, [], [], none, []⟩
  bdy : ∃ q1 q2 q3 q4 q5 q6 q7 q8 q9 q10 : Pos, (q3.endLine == q5.line) = true ∧ fd.body = .stmts [.Expr (.Call (.Attribute (.Call (.Name "super" q1) [] [] q2) "__init__" q3) [.Name "key" q4] [] q5) q6, .Assign [.Attribute (.Name "self" q7) "key" q8] (.Name "key" q9) q10]
  sk : fd.scope.kind = .function
  sg : fd.scope.isGenerator = false
  so : fd.scope.isCoroutine = false
  s1 : fd.scope.names.lookup ("super" : Str) = some .globalImplicit
  s2 : fd.scope.names.lookup ("__class__" : Str) = some .free
  s3 : fd.scope.names.lookup ("self" : Str) = some .local
  s4 : fd.scope.names.lookup ("key" : Str) = some .local
  s5 : ∀ x ∈ fd.scope.names, x.2 ≠ .cell
  top : (P.main.scope.names.lookup ("super" : Str)).isSome = false
  cls : ∃ nm q N bs bm sn sub ab col dd k0 k1 k2 k3 k5, K.lookup C = some (excClassObj nm q C N bs bm true sn sub ab col dd k0 k1 k2 k3 k5 "Exception.__new__")
  bas : excInitIn K C [.type "Exception", .type "BaseException", .type "object"] "Exception.__new__" = true
  ovr : excOver K C [.type "Exception", .type "BaseException", .type "object"] = true
  sup : ks_superIn K C C "__init__" = some (some (.builtin "Exception.__init__"))
  sbE : subIn K (.ref C) (.type "Exception") = some true
  mro : mroIn K C (.ref C) = some true
  opq : nsIn K cStatics "thirdparty.any" = some none
  nsu : nsIn K mainGlobals "super" = some none
  sa : findIn K (.ref C) "__setattr__" = some (some (.builtin "object.__setattr__"))
  key : findIn K (.ref C) "key" = some none
theorem boot_super : bootBuiltins "super" = some (.type "super") := by decide +kernel
section
variable {P : Program} {w : World} {A : Around} {K : Frag} {C fI cc cda e : Addr} {fd : FuncData} {R : Result → Shared → Prop} {mg mb : Str → Option Value} {u : Value} {t0 : Addr}
theorem store_key {hp : Heap} {g : Array GenState} {d : Drawn} {t : Nat} {os : OsState} {E : Value → Shared → Prop} {Q : Unit → Shared → Prop} (F : BsF K P C fI cc cda fd) (X : K.In hp) (hx : hp.get? e = some (HandSPX.excO C t0))
    (hq : ∀ h' tk' dx, (∀ b o, b ≠ e → hp.get? b = some o → h'.get? b = some o) → hp.objs.size ≤ dx → dx ≠ e → h'.get? e = some { cls := .ref C, dict := some dx, data := .fields #[.ref t0, .none, .none, .none, .bool false, .none] } →
      h'.Ns1 dx (fun y => if y = "key" then some u else none) → Q () ⟨h', g, d, tk', os⟩) : wpAny (model P w) A (setAttr (.ref e) "key" u) Q E ⟨hp, g, d, t, os⟩ := by
  obtain ⟨nm, q, N, bs, bm, sn, sub, ab, col, dd, k0, k1, k2, k3, k5, hC⟩ := F.cls
  have hcl : clsIn K C = some { name := nm, bases := bs, mro := .ref C :: bm, ns := N, qualname := q, hasDict := true, slotNames := sn, subclasses := sub, abstract := ab, collection := col, hasDel := false } := by unfold clsIn; rw [hC] <;> rfl
  have J : InstAt hp e (HandSPX.excO C t0) C none := ⟨hx, rfl, rfl, trivial⟩
  have hcls := looks_clsIn (M := model P w) X hcl
  have hes : e ≠ hp.objs.size := Nat.ne_of_lt (Heap.lt_size hx)
  have tk : takerIn K C "key" = some none := by
    unfold takerIn
    rw [F.key] <;> rfl
  refine set_plain X (od := none) J F.sa ?_
  refine osa_openX (s := ⟨hp, g, d, t + 1, os⟩) PySem.F.store_Exception X J F.ovr tk fun b => ?_
  show wpAny _ _ (Builtin.ObjectAttr.storeInOwnDict (.ref e) (.ref C) (.str "key" t) "key" u b) _ _ _
  unfold Builtin.ObjectAttr.storeInOwnDict Builtin.ObjectAttr.ownDictForStores
  repeat (first
    | with_reducible refine HandSPX.store_in_new ?_ ?_
    | with_reducible refine wpAny_loadPart_at hx ?_
    | with_reducible refine hcls.at ?_
    | wp_step)
  · exact ⟨_, #[], _, (Heap.get?_update_ne _ _ _ _ hes.symm).trans
      (Heap.get?_push_at rfl rfl), rfl, fun z hz => absurd hz (by simp), fun _ => rfl⟩
  · intro h2 t2 n2 sb
    have up : (hp.push { cls := .type "dict", data := .dict #[] }).get? e = some (HandSPX.excO C t0) := Heap.get?_push_of_some _ hx
    refine hq h2 t2 hp.objs.size (fun b o hb ho => ?_) (Nat.le_refl _) hes.symm ?_ n2
    · refine (sb.2 b (Nat.ne_of_lt (Heap.lt_size ho))).trans ?_
      exact (Heap.get?_update_ne _ _ _ _ hb).trans (Heap.get?_push_of_some _ ho)
    · exact (sb.2 e hes).trans (Heap.get?_update_self _ up rfl)
theorem mc_line {env : Env} {o a : Expr} {name : Str} {apos pos : Pos} (hl : (apos.endLine == pos.line) = true) (hf : methodCallForm 1 (backTo pos (starEach [a] env)) [] = true) :
    eval (.Call (.Attribute o name apos) [a] [] pos) env = (do
      let ov ← attributeBase o name env (eval o env)
      standAt apos.atName
      let (f, first) ← holding [ov] (getMethod ov name (L2.plainOf o env))
      callWith pos f first (backTo pos (starEach [a] env)) []) := by
  have z : eval (.Call (.Attribute o name apos) [a] [] pos) env = (attributeBase o name env (eval o env) >>= fun ov => standAt apos.atName >>= fun _ => methodCall o name apos pos env ov 1 (backTo pos (starEach [a] env)) []) := rfl
  rw [z]
  refine congrArg _ (funext fun ov => congrArg _ (funext fun _ => ?_))
  exact L2.mcall_line hf hl
theorem bs_run {s : Shared} (F : BsF K P C fI cc cda fd) (X : K.In s.heap) (hroom : A.depth < recursionLimit) (hlim : s.heap.NoLimit) (G : s.heap.Ns mainGlobals mg) (B : s.heap.Ns builtinsNs mb) (hb : ∀ x : Str, x ≠ "__name__" → mb x = bootBuiltins x)
    (he : s.heap.get? e = some (HandSPX.excO C t0)) (hK : K.lookup e = none)
    (hq : ∀ h' tk' dx t1, (∀ b o, b ≠ e → s.heap.get? b = some o → h'.get? b = some o) → s.heap.objs.size ≤ dx → dx ≠ e → h'.get? e = some { cls := .ref C, dict := some dx, data := .fields #[.ref t1, .none, .none, .none, .bool false, .none] } →
      h'.Ns1 dx (fun y => if y = "key" then some u else none) → R (.ok (.ret .none)) { s with heap := h', toks := tk' }) : codeAny (model P w) A (.call (.ref fI) ⟨[.ref e, u], []⟩) R s := by
  obtain ⟨nm, q, N, bs, bm, sn, sub, ab, col, dd, k0, k1, k2, k3, k5, hC⟩ := F.cls
  obtain ⟨oc, od, osl, lk⟩ := F.lk
  obtain ⟨cl, cdd, vs, css, file, tf, lcd, hvs, hfile⟩ := F.cdf
  obtain ⟨ccl, cld, csl, lcc⟩ := F.cell
  obtain ⟨p1, p2, par⟩ := F.par
  obtain ⟨q1, q2, q3, q4, q5, q6, q7, q8, q9, q10, hl, bdy⟩ := F.bdy
  have hcl : clsIn K C = some { name := nm, bases := bs, mro := .ref C :: bm, ns := N, qualname := q, hasDict := true, slotNames := sn, subclasses := sub, abstract := ab, collection := col, hasDel := false } := by unfold clsIn; rw [hC] <;> rfl
  have hsz := Heap.lt_size he
  have hsup := F.sup
  have bas := F.bas
  obtain ⟨f1, f2, f3, f4, f5, f6, f7, f8, f9, f10, f11, f12, f13, f14, f15⟩ := fd
  have clo := F.clo; have glb := F.glb; have blt := F.blt; have dfl := F.dfl; have kwd := F.kwd; have cdv := F.cdv; have cd := F.cd
  have sk := F.sk; have sg := F.sg; have so := F.so; have s1 := F.s1; have s2 := F.s2; have s3 := F.s3; have s4 := F.s4; have s5 := F.s5
  dsimp only at par bdy clo glb blt dfl kwd cdv cd sk sg so s1 s2 s3 s4 s5
  subst par bdy clo glb blt dfl kwd cdv
  obtain ⟨g1, g2, g3, g4, g5⟩ := f5
  dsimp only at sk sg so s1 s2 s3 s4 s5
  subst sk sg so
  refine ks_codeAny_call_defAt (binds := [("self", .ref e), ("key", u)]) hroom (X _ _ lk) rfl hlim (codeRec_of X cd) rfl (.of_eq (by rfl)) s5 (fun x hx => ?_) (fun h1 hns k1 => ?_) rfl rfl rfl
  · rcases List.mem_cons.mp hx with rfl | hx
    · exact s3
    rcases List.mem_cons.mp hx with rfl | hx
    · exact s4
    · cases hx
  have X1 : K.In h1 := X.keeps k1
  have J1 : InstAt h1 e (HandSPX.excO C t0) C none := ⟨k1 _ _ he, rfl, rfl, trivial⟩
  have heC : e ≠ C := ks_ne X1 J1 hcl
  obtain ⟨oD, hD1, hD2⟩ : ∃ oD, h1.get? C = some oD ∧ oD.data = .cls _ := ⟨_, X1 _ _ hC, rfl⟩
  refine ks_wpAt_execs_cons (ks_wpAt_Expr_any (ks_wpAt_MethodCall ?_ (mc_line hl rfl)))
  refine ks_wpAt_super_base (f := fI) s1 s2 (by decide) rfl (X1 _ _ lk) rfl rfl rfl (X1 _ _ lcd) rfl hvs hfile F.top ?_
  refine ks_loadName_global rfl s1 (loadGlobal_builtin (mg := mg) (mb := mb) (G.keeps k1) (mg_none_of X G F.nsu) (B.keeps k1) ((hb _ (by decide +kernel)).trans boot_super) ⟨rfl, ?_⟩)
  refine wpAny_loadName_free rfl s2 rfl ⟨_, X1 _ _ lcc, rfl⟩ ?_
  refine wpAny_loadName_local rfl s3 hns rfl ?_
  refine ks_wpAny_isType_cls hD1 hD2 ⟨rfl, ?_⟩
  refine ks_wpAny_call_super hD1 hD2 J1.at_ J1.cls (fun c z => ?_) (looks_mroIn X1 F.mro) (fun h2 e2 k2 => ?_)
  · cases z
  have X2 : K.In h2 := X1.keeps k2
  have e2e := k2 _ _ J1.at_
  have C2 := X2 _ _ hC
  have J2 : InstAt h2 e (HandSPX.excO C t0) C none := ⟨e2e, rfl, rfl, trivial⟩
  have hal : alongIn K "__init__" (((Value.ref C :: bm).dropWhile (· != .ref C)).drop 1) = some (some (.builtin "Exception.__init__")) := by
    have z := hsup
    unfold ks_superIn at z
    rw [hcl] at z
    exact z
  refine ESX.getMethod_super e2 (looks_opaque X2 F.opq) (l₀ := .ref C :: bm) (fun A Q E s k q => wpAny_bind ((looks_clsIn X2 hcl) A _ E s k (wpAny_pure q))) rfl X2 hal heC (by decide +kernel) (J2.type.andThen (looks_subIn X2 F.sbE)) ?_
  have k3 : ∀ b o, h2.get? b = some o → (h2.push (ESX.bw e)).get? b = some o := fun b o z => Heap.get?_push_of_some _ z
  have k13 : ∀ b o, h1.get? b = some o → (h2.push (ESX.bw e)).get? b = some o := fun b o z => k3 _ _ (k2 _ _ z)
  have X3 : K.In (h2.push (ESX.bw e)) := X1.keeps k13
  refine ESX.callWith_bound (x := e) ?_
  show wpAny _ _ (spliced ((false, eval (.Name "key" q4) _) :: backTo q5 (starEach [] _))) _ _ _
  refine Calls.spliced_cons (ESX.ldL (hns.keeps k13) rfl ?_ rfl s4)
  refine Calls.spliced_nil ⟨Heap.get?_push_at rfl rfl, ?_⟩
  refine ESX.call_bw (X3 _ _ hC) (k13 _ _ J1.at_) (Heap.get?_push_at rfl rfl) (show 1 ≤ sizeLine by rw [sizeLine_eq]; decide) (fun h4 t4 k4 e4 => ?_)
  have k14 : ∀ b o, b ≠ e → h1.get? b = some o → h4.get? b = some o := fun b o hb z => k4 b o hb (k13 _ _ z)
  have X4 : K.In h4 := fun b o z => k14 b o (fun q => by rw [q, hK] at z; cases z) (X1 b o z)
  have hns4 : h4.Ns s.heap.objs.size (fun x => [(("self" : Str), Value.ref e), ("key", u)].reverse.lookup x) := by
    obtain ⟨o, es, ep, ho, r⟩ := hns
    exact ⟨o, es, ep, k14 _ _ (Nat.ne_of_gt hsz) ho, r⟩
  show PySem.wpAt _ _ _ (execs _ _) _ _ _
  refine ks_wpAt_execs_cons (ks_wpAt_Assign_Attr (wpAt_of_wpAny (ESX.ldL hns4 rfl ?_ rfl s4)))
  refine ESX.ldL hns4 rfl ?_ rfl s3
  refine store_key (t0 := t4) F X4 e4 (fun h5 tk5 dx k5 z1 z2 e5 n5 => ?_)
  show PySem.wpAt _ _ _ (execs [] _) _ _ _
  rw [execs_nil]
  refine wpAt_of_wpAny (wpAny_pure ?_)
  obtain ⟨oL, _, _, hoL, _⟩ := hns4
  exact hq h5 tk5 dx t4 (fun b o hb z => k5 b o hb (k14 b o hb (k1 _ _ z))) (Nat.le_trans (Nat.le_of_lt (Heap.lt_size hoL)) z1) z2 e5 n5
end
end PX

set_option Elab.async false
set_option linter.all false
set_option autoImplicit false
set_option maxRecDepth 100000
set_option maxHeartbeats 2000000
/-! Errors as data: they are made, asked for their class, their key is read. -/
namespace PX
open PySem PySem.Spec PyProof.Rows L2 PL
open Evl (Ex)
section
variable {X : Cx} {C : Addr} {x : Str} {p pos : Pos} {e : Expr} {te : TE}
/-- C(), C without own __init__ -/
theorem pe_exc0 {bmB : List Value} {B newId initId : String} (F : ExcBaseFacts B newId initId bmB) (q : PySem.W.excIn X.K C bmB newId = true) (gC : X.mg x = some (.ref C)) (kC : PySem.W.keepIn X.K (.ref C) = true) (hg : Gl X x)
    (hdb : (x == ("__debug__" : Str)) = false := by decide) : PE X (.Call (.Name x p) [] [] pos) (fun _ H Q => ∀ a, H a = none → Q (.ref a) (upd H a (exo a C none))) := by
  refine ⟨fun pins s σ H Q I h => ?_⟩
  refine wpAny_Call_Name_kw (ld_glob I hg gC ?_ hdb)
  refine PySem.W.callWith_K0 I.kIn kC ?_
  obtain ⟨bm, N, nm, qn, bs, hdct, sn, sub, ab, col, dd, k0, k1, k2, k3, k5, mN, hC, hN, hni, T⟩ := exc_obj I.kIn q
  refine wpAny_call_exc_subT F T hC hN hni (fun h' a hm => ?_) (by decide)
  have hn : H a = none := I.hok.gone hm.new
  obtain ⟨t, ht, _, _⟩ := hm.there
  exact ⟨.ref a, upd H a (exo a C none), I.laidN hm.keeps hm.new hn (exo_ok ht), rfl, h a hn⟩
/-- two new objects, laid at once -/
theorem inv_two {pins : List (Addr × Obj)} {σ : L2.St} {H : Hp} {s : Shared} {h' : Heap} {a d : Addr} {oa od : HO} {t' : Nat} (I : L2.Inv X pins σ H s) (k : ∀ b o, s.heap.get? b = some o → h'.get? b = some o) (na : s.heap.objs.size ≤ a) (nd : s.heap.objs.size ≤ d)
    (ha : ObjOk X.prog X.w (upd (upd H d od) a oa) h' a oa) (hd : ObjOk X.prog X.w (upd (upd H d od) a oa) h' d od) : L2.Inv X pins σ (upd (upd H d od) a oa) { s with heap := h', toks := t' } := by
  have ea : H a = none := I.hok.fresh na
  have ed : H d = none := I.hok.fresh nd
  have far : ∀ {b : Addr} {o : Obj}, s.heap.get? b = some o → b ≠ a ∧ b ≠ d := fun {b o} q => ⟨Nat.ne_of_lt (Nat.lt_of_lt_of_le (Heap.lt_size q) na), Nat.ne_of_lt (Nat.lt_of_lt_of_le (Heap.lt_size q) nd)⟩
  have out : ∀ {b : Addr} {o : HO}, H b = some o → upd (upd H d od) a oa b = some o := fun {b o} q => by rw [upd_ne (ne_of_none q ea), upd_ne (ne_of_none q ed)]; exact q
  refine I.un (t' := t') ⟨fun b o q _ _ _ => k b o q, fun b o q _ _ _ => ⟨o.slots, k b o q⟩, fun b o q n _ => ?_, fun b o q _ => ⟨o, k b o q⟩, fun b xs q => out q, fun b o v q => out q, fun b ps q => ⟨#[], by rw [out q]; simp⟩⟩ fun b o q => ?_
  · obtain ⟨z1, z2⟩ := far q
    rw [upd_ne z1, upd_ne z2]
    exact n
  · by_cases hb : b = a
    · subst hb
      rw [upd_same] at q
      cases q
      exact ha
    · rw [upd_ne hb] at q
      by_cases hc : b = d
      · subst hc
        rw [upd_same] at q
        cases q
        exact hd
      · rw [upd_ne hc] at q
        exact (I.hok b o q).stay (fun c v _ z => k c v z) (fun c z => out z) fun c xs z => out z
theorem nolim_up {h h' : Heap} (n : h.NoLimit) (k : ∀ b o, h.get? b = some o → h'.get? b = some o) : h'.NoLimit := n.keeps k
/-- C(e), C's __init__ says super().__init__(key); self.key = key -/
theorem pe_bs {fI cc cda : Addr} {fd : FuncData} {n : Nat} (F : BsF X.K X.prog C fI cc cda fd) (hr : Room (n + 1) X.A) (gC : X.mg x = some (.ref C)) (kC : PySem.W.keepIn X.K (.ref C) = true) (hg : Gl X x) (he : PE X e te)
    (hs : starEach [e] X.env = (false, eval e X.env) :: starEach [] X.env := by rfl) (hdb : (x == ("__debug__" : Str)) = false := by decide) :
    PE X (.Call (.Name x p) [e] [] pos) (fun σ H Q => te σ H fun v H1 => ∀ a d, H1 a = none → H1 d = none → d ≠ a → Q (.ref a) (upd (upd H1 d (exd d [(("key" : Str), v)])) a (exo a C (some d)))) := by
  refine ⟨fun pins s σ H Q I h => ?_⟩
  refine wpAny_Call_Name_kw (ld_glob I hg gC ?_ hdb)
  refine PySem.W.callWith_K (h₀ := X.base) I.ok.mod.kin kC ?_ hs (by rfl)
  rw [hs]
  show wpAny _ _ (spliced ((false, eval e X.env) :: backTo pos (starEach [] X.env))) _ _ s
  refine Calls.spliced_cons (thn (he.run pins s σ H _ I h) fun u s1 ⟨v, H1, I1, r1, q1⟩ => ?_)
  refine Calls.spliced_nil ⟨I1.kIn, ?_⟩
  show wpAny _ _ (call (.ref C) [u]) _ _ _
  obtain ⟨nm, N, qn, bs, bm, hdct, sn, sub, ab, col, dd, k0, k1, k2, k3, k5, hC, hT⟩ := PySem.W.excInit_of I1.kIn F.bas
  obtain ⟨mm, fr⟩ := I1.fr
  obtain ⟨mb, hB, hbb⟩ := I1.ok.mod.blt
  have G1 := I1.ok.mod.glob.keeps fr.keep
  have B1 := hB.keeps fr.keep
  have L1 := I1.ok.mod.nolimit.keeps fr.keep
  have KI := I1.kIn
  obtain ⟨hp, g, dr, tk, os⟩ := s1
  have kk : ∀ b o, hp.get? b = some o → ((hp.push (PySem.W.kdv_tup [u])).push (PySem.HandSPX.excO C hp.objs.size)).get? b = some o := fun b o z => Heap.get?_push_of_some _ (Heap.get?_push_of_some _ z)
  have hget : ((hp.push (PySem.W.kdv_tup [u])).push (PySem.HandSPX.excO C hp.objs.size)).get? (hp.objs.size + 1) = some (PySem.HandSPX.excO C hp.objs.size) := by heap_get
  have hKn : X.K.lookup (hp.objs.size + 1) = none := by
    cases z : X.K.lookup (hp.objs.size + 1) with
    | none => rfl
    | some o => exact absurd (Heap.lt_size (KI _ _ z)) (Nat.not_lt.mpr (Nat.le_succ _))
  refine wpAny_call (PySem.HandSPX.call_own PySem.F.excBase_Exception hT hC (PySem.W.looks_findIn KI F.ini) (fun self => PySem.W.bind_fn KI self F.fn) (show 1 ≤ sizeLine by rw [sizeLine_eq]; decide) ?_)
  refine bs_run (s := ⟨(hp.push (PySem.W.kdv_tup [u])).push (PySem.HandSPX.excO C hp.objs.size), g, dr, tk, os⟩) (mg := X.mg) (mb := mb) F (KI.keeps kk) (hr.make C [u] []).depth (L1.keeps kk) (G1.keeps kk) (B1.keeps kk) hbb hget hKn fun h' tk' dx t1 k' z1 z2 e5 n5 => ?_
  have kx : ∀ b o, hp.get? b = some o → h'.get? b = some o := fun b o z => k' b o (Nat.ne_of_lt (Nat.lt_succ_of_lt (Heap.lt_size z))) (kk b o z)
  have nd : hp.objs.size ≤ dx := Nat.le_trans (by rw [Heap.size_push, Heap.size_push]; omega) z1
  have J := inv_two (t' := tk') (oa := exo (hp.objs.size + 1) C (some dx)) (od := exd dx [(("key" : Str), v)]) I1 kx (Nat.le_succ _) nd (exo_ok e5) (exd_ok n5 (relO_put (fs := []) r1 fun g => True.intro))
  exact ⟨rfl, .ref (hp.objs.size + 1), _, J, rfl, q1 _ dx (I1.hok.fresh (Nat.le_succ _)) (I1.hok.fresh nd) z2⟩
end
end PX

set_option Elab.async false
set_option linter.all false
set_option autoImplicit false
set_option maxRecDepth 100000
set_option maxHeartbeats 2000000
/-! Errors as data: the rules over plain data. -/
namespace PX
open PySem PySem.Spec PyProof.Rows L2 PL
open Evl (Ex)
def bltE : List String := ["Exception", "ValueError", "LookupError", "ArithmeticError", "TypeError", "RuntimeError"]
/-- what the written part says of the classes in cs and of the one with an attribute -/
structure ErrK (K : PySem.W.Frag) (P : Program) (cs : List Nat) : Prop where
  exc : ∀ c ∈ cs, ExcC K (exA K c)
  kit : ∀ c ∈ cs, ∀ t ∈ cs, PySem.W.kitOne K (.ref (exA K c)) (.ref (exA K t)) = some (exSub c t)
  blt : ∀ c ∈ cs, ∀ n ∈ bltE, PySem.W.kitOne K (.ref (exA K c)) (.type n) = some (n == "Exception")
  mkn : ∀ c ∈ cs, c ≠ 28 → PySem.W.excIn K (exA K c) exBase "Exception.__new__" = true
  kp : ∀ c ∈ cs, PySem.W.keepIn K (.ref (exA K c)) = true
  bs : ∃ fI cc cda fd, BsF K P (exA K 28) fI cc cda fd
section
variable {X : Cx} {W : WX} {Ξ : Xi} {cs : List Nat} {x : Str} {p pos : Pos} {e : Expr}
def yErr (c : Nat) : PTE := fun ε Q => Q (.d (.err c none)) ε
theorem ye_err (c : Nat) (E : ErrK X.K X.prog cs) (hc : c ∈ cs) (hb : c ≠ 28) (hx : exS c = x) (gC : X.mg x = some (.ref (exA X.K c))) (hg : Gl X x) (hdb : (x == ("__debug__" : Str)) = false := by decide) : YE X W Ξ (.Call (.Name x p) [] [] pos) (yErr c) := by
  refine ⟨_, pe_exc0 PySem.F.excBase_Exception (E.mkn c hc hb) gC (E.kp c hc) hg hdb, fun F Hs σ H ε Q' Q R L q k a ha => ?_⟩
  obtain ⟨R2, e2⟩ := R.new (o := exo a (exA X.K c) none) ha
  exact k (.ref a) _ _ (.d (.err c none)) ε e2 R2 (.err (k := none) (show upd Hs a _ a = _ from upd_same)) q
def yBs (r : PTE) : PTE := fun ε Q => r ε fun t1 ε1 => PL.out ε1 t1 fun d ε2 => match d with
  | .str x => Q (.d (.err 28 (some x))) ε2
  | _ => False
theorem ye_bs {r : PTE} {n : Nat} (E : ErrK X.K X.prog cs) (hc : 28 ∈ cs) (hr : Room (n + 1) X.A) (hx : exS 28 = x) (gC : X.mg x = some (.ref (exA X.K 28))) (hg : Gl X x) (h : YE X W Ξ e r)
    (hs : starEach [e] X.env = (false, eval e X.env) :: starEach [] X.env := by rfl) (hdb : (x == ("__debug__" : Str)) = false := by decide) : YE X W Ξ (.Call (.Name x p) [e] [] pos) (yBs r) := by
  obtain ⟨te, pe, ke⟩ := h.ex
  obtain ⟨fI, cc, cda, fd, F⟩ := E.bs
  refine ⟨_, pe_bs F hr gC (E.kp 28 hc) hg pe hs hdb, fun F Hs σ H ε Q' Q R L q k => ke F Hs σ H ε _ _ R L q fun v H1 Hs1 t1 ε1 e1 R1 p1 q1 a d ha hd hda => ?_⟩
  obtain ⟨dd, ε2, Hs2, e2, R2, rp, q2⟩ := R1.out p1 q1
  cases dd with
  | str x =>
    obtain rfl : v = .str x := by cases rp; rfl
    obtain ⟨R3, e3⟩ := R2.new (o := exd d [(("key" : Str), V.str x)]) hd
    obtain ⟨R4, e4⟩ := R3.new (p := a) (o := exo a (exA X.K 28) (some d)) (by rw [upd_ne (Ne.symm hda)]; exact ha)
    refine k (.ref a) _ _ (.d (.err 28 (some x))) ε2 (((e1.trans e2).trans e3).trans e4) R4 (.err (k := some x) ⟨d, upd_same, ?_⟩) q2
    rw [upd_ne hda, upd_same]
  | _ => exact q2.elim
/-- the error's object, for a look -/
theorem err_inst {pins : List (Addr × Obj)} {σ : L2.St} {H : Hp} {s : Shared} {a : Addr} {c : Nat} {k : Option Str} (I : L2.Inv X pins σ H s) (h : ErrAt X.K H a c k) : ∃ ox od, PySem.W.InstAt s.heap a ox (exA X.K c) od := by
  cases k with
  | none =>
    obtain ⟨t1, ho⟩ := exo_at I.hok h
    exact ⟨_, none, ho, rfl, rfl, trivial⟩
  | some x =>
    obtain ⟨d, h1, h2⟩ := h
    obtain ⟨t1, ho⟩ := exo_at I.hok h1
    obtain ⟨mA, ⟨o, es, ep, hd, _⟩, _⟩ := exd_at I.hok h2
    exact ⟨_, some o, ho, rfl, rfl, hd⟩
def rIsX (K : PySem.W.Frag) (cs : List Nat) : List V → Hp → VK → Prop := fun xs H Q => ∃ (a : Addr) (c : Nat) (k : Option Str) (tv : V) (cv : Value) (b : Bool), xs = [.ref a, tv] ∧ c ∈ cs ∧ ErrAt K H a c k ∧ (∀ u, RelV tv u → u = cv) ∧ PySem.W.kitOne K (.ref (exA K c)) cv = some b ∧ Q (.bl b) H
theorem call_isX (E : ErrK X.K X.prog cs) : CallR X (.builtin "isinstance") (rIsX X.K cs) := by
  intro pins s σ H xs us Q I r h
  obtain ⟨a, c, k, tv, cv, b, rfl, hc, ha, hcv, hb, q⟩ := h
  cases r with
  | cons rx rr =>
    cases rr with
    | cons rt rr =>
      cases rr
      cases rx
      have ec := hcv _ rt
      subst ec
      obtain ⟨ox, od, J⟩ := err_inst I ha
      have T := E.exc c hc
      have hcl : (PySem.W.clsIn X.K (exA X.K c)).isSome = true := by
        obtain ⟨cd, z, _⟩ := PySem.W.any_some T.hd
        rw [z] <;> rfl
      exact PySem.W.kia_one (PySem.W.kitx_exc (ox := ox) (od := od) hcl T.hg T.hk T.hs T.ha T.hn T.ht T.hm) I.kIn J hb (fun z => nomatch z) fun tk => ⟨.bl b, H, I.kept (t' := tk) fun _ _ z => z, rfl, q⟩
def yIsX (cs : List Nat) (f : Nat → Bool) (r : PTE) : PTE := fun ε Q => r ε fun t1 ε1 => res ε1 t1 fun d => match d with
  | .err c _ => cs.contains c = true ∧ Q (.d (.bl (f c))) ε1
  | _ => False
theorem ye_isX {r : PTE} {a c : Expr} {tv : V} {cv : Value} {f : Nat → Bool} (E : ErrK X.K X.prog cs) (h : YE X W Ξ a r) (hc : PE X c (tC tv)) (hcv : ∀ u, RelV tv u → u = cv) (hf : ∀ c ∈ cs, PySem.W.kitOne X.K (.ref (exA X.K c)) cv = some (f c)) (hg : Gl X "isinstance") (hm : X.mg "isinstance" = none)
    (hst : starEach [a, c] X.env = (false, eval a X.env) :: starEach [c] X.env := by rfl) (hs2 : starEach [c] X.env = (false, eval c X.env) :: starEach [] X.env := by rfl) (hpl : (backTo pos (starEach [c] X.env)).any (·.1) = false := by rfl) :
    YE X W Ξ (.Call (.Name "isinstance" p) [a, c] [] pos) (yIsX cs f r) := by
  obtain ⟨ta, pa, ka⟩ := h.ex
  refine ⟨_, pe_callB (call_isX E) hg hm PyProof.Rows.boot_isinstance (pa_cons pa (pa_cons hc pa_nil hs2) hst) (by decide) (by decide) hst hpl, fun F Hs σ H ε Q' Q R L q k => ?_⟩
  refine ka F Hs σ H ε _ _ R L q fun v H1 Hs1 t1 ε1 e1 R1 p1 q1 => ?_
  obtain ⟨d, v1, q2⟩ := R1.res p1 q1
  cases d with
  | err c ky =>
    obtain ⟨hc, q3⟩ := q2
    have hc : c ∈ cs := List.contains_iff_mem.mp hc
    cases v1 with
    | sc rr =>
      cases rr with
      | err ea => exact ⟨_, c, ky, tv, cv, f c, rfl, hc, ea.mono R1.ex, hcv, hf c hc, k (.bl (f c)) H1 Hs1 (.d (.bl (f c))) ε1 e1 R1 (.bl _) q3⟩
  | _ => exact q2.elim
/-- isinstance(e, C), C of the program -/
theorem ye_isO {r : PTE} {a : Expr} (t : Nat) {y : Str} {p2 : Pos} (E : ErrK X.K X.prog cs) (h : YE X W Ξ a r) (ht : t ∈ cs) (gC : X.mg y = some (.ref (exA X.K t))) (hy : Gl X y) (hg : Gl X "isinstance") (hm : X.mg "isinstance" = none) (hdb : (y == ("__debug__" : Str)) = false := by decide)
    (hst : starEach [a, .Name y p2] X.env = (false, eval a X.env) :: starEach [.Name y p2] X.env := by rfl) (hs2 : starEach [.Name y p2] X.env = (false, eval (.Name y p2) X.env) :: starEach [] X.env := by rfl) (hpl : (backTo pos (starEach [.Name y p2] X.env)).any (·.1) = false := by rfl) :
    YE X W Ξ (.Call (.Name "isinstance" p) [a, .Name y p2] [] pos) (yIsX cs (fun c => exSub c t) r) :=
  ye_isX E h (pe_glob (v := .ref (exA X.K t)) hy gC rfl hdb) (fun u z => z) (fun c hc => E.kit c hc t ht) hg hm hst hs2 hpl
/-- isinstance(e, C), C built in -/
theorem ye_isB {r : PTE} {a c : Expr} (n : String) (E : ErrK X.K X.prog cs) (h : YE X W Ξ a r) (hn : n ∈ bltE) (hc : PE X c (tC (.ty n))) (hg : Gl X "isinstance") (hm : X.mg "isinstance" = none)
    (hst : starEach [a, c] X.env = (false, eval a X.env) :: starEach [c] X.env := by rfl) (hs2 : starEach [c] X.env = (false, eval c X.env) :: starEach [] X.env := by rfl) (hpl : (backTo pos (starEach [c] X.env)).any (·.1) = false := by rfl) :
    YE X W Ξ (.Call (.Name "isinstance" p) [a, c] [] pos) (yIsX cs (fun _ => n == "Exception") r) :=
  ye_isX E h hc (fun u z => z) (fun c hc => E.blt c hc n hn) hg hm hst hs2 hpl
/-- e.key -/
def yKey (r : PTE) : PTE := fun ε Q => r ε fun t1 ε1 => res ε1 t1 fun d => match d with
  | .err 28 (some x) => Q (.d (.str x)) ε1
  | _ => False
def tKey (K : PySem.W.Frag) (te : TE) : TE := fun σ H Q => te σ H fun v H1 => ∃ a x, v = .ref a ∧ ErrAt K H1 a 28 (some x) ∧ Q (.str x) H1
theorem pe_key {te : TE} (E : ErrK X.K X.prog cs) (hc : 28 ∈ cs) (he : PE X e te) (hb : attributeBase e "key" X.env (eval e X.env) = eval e X.env := by rfl) : PE X (.Attribute e "key" pos) (tKey X.K te) := by
  refine ⟨fun pins s σ H Q I h => ?_⟩
  refine attr_of hb (thn (he.run pins s σ H _ I h) fun u s1 hh => ?_)
  obtain ⟨v, H1, I1, rx, a, x, rfl, ⟨d, h1, h2⟩, q⟩ := hh
  obtain rfl : u = Value.ref a := rx
  obtain ⟨fI, cc, cda, fd, F⟩ := E.bs
  have T := E.exc 28 hc
  obtain ⟨t1, ho⟩ := exo_at I1.hok h1
  obtain ⟨mA, hns, hr⟩ := exd_at I1.hok h2
  obtain ⟨od, hd, hl⟩ := lookIn_ns hns
  obtain ⟨w, hw, rw_⟩ := RelO.some_of (v := V.str x) (o := mA "key") (hr "key")
  exact PySem.HandSPX.exc_get I1.kIn (od := some od) ⟨ho, rfl, rfl, hd⟩ T.hg T.hk T.hs (PySem.W.findObj_own T.hd F.key rfl (by rw [hl, hw])) (handed_of rw_) ⟨.str x, H1, I1.tok _, rw_, q⟩
theorem ye_key {r : PTE} (E : ErrK X.K X.prog cs) (hc : 28 ∈ cs) (h : YE X W Ξ e r) (hb : attributeBase e "key" X.env (eval e X.env) = eval e X.env := by rfl) : YE X W Ξ (.Attribute e "key" pos) (yKey r) := by
  obtain ⟨te, pe, ke⟩ := h.ex
  refine ⟨_, pe_key E hc pe hb, fun F Hs σ H ε Q' Q R L q k => ke F Hs σ H ε _ _ R L q fun v H1 Hs1 t1 ε1 e1 R1 p1 q1 => ?_⟩
  obtain ⟨d, v1, q2⟩ := R1.res p1 q1
  unfold yKey at q
  split at q2
  · rename_i x
    cases v1 with
    | sc rr =>
      cases rr with
      | err ea => exact ⟨_, x, rfl, ea.mono R1.ex, k (.str x) H1 Hs1 (.d (.str x)) ε1 e1 R1 (.str _) q2⟩
  · exact q2.elim
end
end PX

set_option Elab.async false
set_option linter.all false
set_option autoImplicit false
set_option maxRecDepth 100000
set_option maxHeartbeats 2000000
/-! Errors as data: what the head looks at. -/
namespace PX
open PySem PySem.Spec PyProof.Rows L2 PL
open PySem.W (Frag findIn typeIn codeIn clsIn nsIn subIn mroIn excInitIn excOver ks_superIn)
def exT : List Value := [.type "Exception", .type "BaseException", .type "object"]
def aFI (K : Frag) (C : Addr) : Addr := match findIn K (.ref C) "__init__" with
  | some (some (.ref f)) => f
  | _ => 0
def aFd (K : Frag) (f : Addr) : FuncData := match K.lookup f with
  | some ⟨_, _, .func fd, _⟩ => fd
  | _ => default
def aCc (fd : FuncData) : Addr := match fd.closure with
  | [(_, c)] => c
  | _ => 0
def aCd (fd : FuncData) : Addr := match fd.code with
  | .ref c => c
  | _ => 0
def parB (a : Arguments) : Bool := match a with
  | ⟨[], [⟨x, none, _⟩, ⟨y, none, _⟩], none, [], [], none, []⟩ => decide (x = ("self" : Str)) && decide (y = ("key" : Str))
  | _ => false
theorem parB_ok {a : Arguments} (h : parB a = true) : ∃ p1 p2 : Pos, a = ⟨[], [⟨"self", none, p1⟩, ⟨"key", none, p2⟩], none, [], [], none, []⟩ := by
  unfold parB at h
  split at h
  · obtain ⟨h1, h2⟩ := He.ba h
    rw [of_decide_eq_true h1, of_decide_eq_true h2]
    exact ⟨_, _, rfl⟩
  · cases h
def bdyB (b : FuncBody) : Bool := match b with
  | .stmts [.Expr (.Call (.Attribute (.Call (.Name a _) [] [] _) b q3) [.Name c _] [] q5) _, .Assign [.Attribute (.Name d _) e _] (.Name f _) _] =>
    decide (a = ("super" : Str)) && (decide (b = ("__init__" : Str)) && (decide (c = ("key" : Str)) && (decide (d = ("self" : Str)) && (decide (e = ("key" : Str)) && (decide (f = ("key" : Str)) && (q3.endLine == q5.line))))))
  | _ => false
theorem bdyB_ok {b : FuncBody} (h : bdyB b = true) : ∃ q1 q2 q3 q4 q5 q6 q7 q8 q9 q10 : Pos, (q3.endLine == q5.line) = true ∧ b = .stmts [.Expr (.Call (.Attribute (.Call (.Name "super" q1) [] [] q2) "__init__" q3) [.Name "key" q4] [] q5) q6, .Assign [.Attribute (.Name "self" q7) "key" q8] (.Name "key" q9) q10] := by
  unfold bdyB at h
  split at h
  · obtain ⟨h1, h⟩ := He.ba h
    obtain ⟨h2, h⟩ := He.ba h
    obtain ⟨h3, h⟩ := He.ba h
    obtain ⟨h4, h⟩ := He.ba h
    obtain ⟨h5, h⟩ := He.ba h
    obtain ⟨h6, h7⟩ := He.ba h
    rw [of_decide_eq_true h1, of_decide_eq_true h2, of_decide_eq_true h3, of_decide_eq_true h4, of_decide_eq_true h5, of_decide_eq_true h6]
    exact ⟨_, _, _, _, _, _, _, _, _, _, h7, rfl⟩
  · cases h
def lkB (K : Frag) (f : Addr) : Bool := match K.lookup f with
  | some ⟨_, _, .func _, _⟩ => true
  | _ => false
theorem lkB_ok {K : Frag} {f : Addr} (h : lkB K f = true) : ∃ oc od osl, K.lookup f = some ⟨oc, od, .func (aFd K f), osl⟩ := by
  unfold lkB at h
  unfold aFd
  split at h
  · rename_i oc od fd osl e
    rw [e]
    exact ⟨oc, od, osl, rfl⟩
  · cases h
def cdfB (P : Program) (K : Frag) (c : Addr) : Bool := match K.lookup c with
  | some ⟨_, _, .fields vs, _⟩ => (match (vs[2]? : Option Value) with
    | some (.str file _) => ((P.main.file : Str) == file)
    | _ => false)
  | _ => false
theorem cdfB_ok {P : Program} {K : Frag} {c : Addr} (h : cdfB P K c = true) : ∃ cl cdd vs css file tf, K.lookup c = some ⟨cl, cdd, .fields vs, css⟩ ∧ vs[2]? = some (.str file tf) ∧ ((P.main.file : Str) == file) = true := by
  unfold cdfB at h
  split at h
  · rename_i vs _ e
    split at h
    · rename_i file tf e2
      exact ⟨_, _, _, _, _, _, e, e2, h⟩
    · cases h
  · cases h
def cellB (K : Frag) (c C : Addr) : Bool := match K.lookup c with
  | some ⟨_, _, .cell (some (.ref D)), _⟩ => decide (D = C)
  | _ => false
theorem cellB_ok {K : Frag} {c C : Addr} (h : cellB K c C = true) : ∃ cl cld csl, K.lookup c = some ⟨cl, cld, .cell (some (.ref C)), csl⟩ := by
  unfold cellB at h
  split at h
  · rename_i D _ e
    rw [of_decide_eq_true h] at e
    exact ⟨_, _, _, e⟩
  · cases h
def clsB (K : Frag) (C : Addr) : Bool := match K.lookup C with
  | some ⟨.type "type", _, .cls cd, sl⟩ => (match cd.mro, sl.toList with
    | .ref C' :: _, [_, _, _, _, some (.builtin n), _] => decide (C' = C) && (decide (n = "Exception.__new__") && (!cd.hasDel && cd.hasDict))
    | _, _ => false)
  | _ => false
theorem clsB_ok {K : Frag} {C : Addr} (h : clsB K C = true) : ∃ nm q N bs bm sn sub ab col dd k0 k1 k2 k3 k5, K.lookup C = some (excClassObj nm q C N bs bm true sn sub ab col dd k0 k1 k2 k3 k5 "Exception.__new__") := by
  unfold clsB at h
  split at h
  · rename_i dd cd sl e
    split at h
    · rename_i C' bm k0 k1 k2 k3 n k5 hm hs
      obtain ⟨h1, h⟩ := He.ba h
      obtain ⟨h2, h⟩ := He.ba h
      obtain ⟨h3, h4⟩ := He.ba h
      have h1 := of_decide_eq_true h1
      have h2 := of_decide_eq_true h2
      subst h1 h2
      obtain ⟨nm, bs, mro, ns, qn, hd, sn, sub, ab, col, del⟩ := cd
      obtain ⟨l⟩ := sl
      dsimp only at hm h3 h4 hs
      simp only [Bool.not_eq_true'] at h3
      subst hm h3 h4 hs
      exact ⟨_, _, _, _, _, _, _, _, _, _, _, _, _, _, _, e⟩
    · cases h
  · cases h
def bsB2 (P : Program) (K : Frag) (C : Addr) (fd : FuncData) : Bool :=
  decide (fd.closure = [(("__class__" : Str), aCc fd)]) && (decide (fd.globals = mainGlobals) && (decide (fd.builtins = builtinsNs) && (decide (fd.defaults = .none) && (decide (fd.kwdefaults = .none) && (decide (fd.code = .ref (aCd fd)) &&
  (codeIn K (.ref (aCd fd)) fd.qualname && (cdfB P K (aCd fd) && (cellB K (aCc fd) C && (parB fd.params && bdyB fd.body)))))))))
def bsB3 (P : Program) (sc : Scope) : Bool :=
  decide (sc.kind = .function) && (decide (sc.isGenerator = false) && (decide (sc.isCoroutine = false) && (decide (sc.names.lookup ("super" : Str) = some .globalImplicit) && (decide (sc.names.lookup ("__class__" : Str) = some .free) && (decide (sc.names.lookup ("self" : Str) = some .local) &&
  (decide (sc.names.lookup ("key" : Str) = some .local) && (sc.names.all (fun x => decide (x.2 ≠ .cell)) && decide ((P.main.scope.names.lookup ("super" : Str)).isSome = false))))))))
def bsB4 (K : Frag) (C : Addr) : Bool :=
  clsB K C && (excInitIn K C exT "Exception.__new__" && (excOver K C exT && (He.eqO (ks_superIn K C C "__init__") (some (some (.builtin "Exception.__init__"))) && (decide (subIn K (.ref C) (.type "Exception") = some true) && (decide (mroIn K C (.ref C) = some true) &&
  (He.eqO (nsIn K cStatics "thirdparty.any") (some none) && (He.eqO (nsIn K mainGlobals "super") (some none) && (He.eqO (findIn K (.ref C) "__setattr__") (some (some (.builtin "object.__setattr__"))) && He.eqO (findIn K (.ref C) "key") (some none)))))))))
def bsB1 (K : Frag) (C : Addr) : Bool := He.eqO (findIn K (.ref C) "__init__") (some (some (.ref (aFI K C)))) && (lkB K (aFI K C) && decide (typeIn K (.ref (aFI K C)) = some (.type "function")))
def bsB (P : Program) (K : Frag) (C : Addr) : Bool := bsB1 K C && (bsB2 P K C (aFd K (aFI K C)) && (bsB3 P (aFd K (aFI K C)).scope && bsB4 K C))
theorem bsB_ok {P : Program} {K : Frag} {C : Addr} (h : bsB P K C = true) : ∃ fI cc cda fd, BsF K P C fI cc cda fd := by
  obtain ⟨h1, h⟩ := He.ba h
  obtain ⟨h2, h⟩ := He.ba h
  obtain ⟨h3, h4⟩ := He.ba h
  obtain ⟨a1, h1⟩ := He.ba h1
  obtain ⟨a2, a3⟩ := He.ba h1
  obtain ⟨b1, h2⟩ := He.ba h2
  obtain ⟨b2, h2⟩ := He.ba h2
  obtain ⟨b3, h2⟩ := He.ba h2
  obtain ⟨b4, h2⟩ := He.ba h2
  obtain ⟨b5, h2⟩ := He.ba h2
  obtain ⟨b6, h2⟩ := He.ba h2
  obtain ⟨b7, h2⟩ := He.ba h2
  obtain ⟨b8, h2⟩ := He.ba h2
  obtain ⟨b9, h2⟩ := He.ba h2
  obtain ⟨b10, b11⟩ := He.ba h2
  obtain ⟨c1, h3⟩ := He.ba h3
  obtain ⟨c2, h3⟩ := He.ba h3
  obtain ⟨c3, h3⟩ := He.ba h3
  obtain ⟨c4, h3⟩ := He.ba h3
  obtain ⟨c5, h3⟩ := He.ba h3
  obtain ⟨c6, h3⟩ := He.ba h3
  obtain ⟨c7, h3⟩ := He.ba h3
  obtain ⟨c8, c9⟩ := He.ba h3
  obtain ⟨d1, h4⟩ := He.ba h4
  obtain ⟨d2, h4⟩ := He.ba h4
  obtain ⟨d3, h4⟩ := He.ba h4
  obtain ⟨d4, h4⟩ := He.ba h4
  obtain ⟨d5, h4⟩ := He.ba h4
  obtain ⟨d6, h4⟩ := He.ba h4
  obtain ⟨d7, h4⟩ := He.ba h4
  obtain ⟨d8, h4⟩ := He.ba h4
  obtain ⟨d9, d10⟩ := He.ba h4
  exact ⟨aFI K C, aCc (aFd K (aFI K C)), aCd (aFd K (aFI K C)), aFd K (aFI K C), {
    ini := He.eqO_ok a1, lk := lkB_ok a2, fn := of_decide_eq_true a3, clo := of_decide_eq_true b1, glb := of_decide_eq_true b2, blt := of_decide_eq_true b3, dfl := of_decide_eq_true b4, kwd := of_decide_eq_true b5, cdv := of_decide_eq_true b6,
    cd := b7, cdf := cdfB_ok b8, cell := cellB_ok b9, par := parB_ok b10, bdy := bdyB_ok b11, sk := of_decide_eq_true c1, sg := of_decide_eq_true c2, so := of_decide_eq_true c3, s1 := of_decide_eq_true c4, s2 := of_decide_eq_true c5, s3 := of_decide_eq_true c6,
    s4 := of_decide_eq_true c7, s5 := fun x hx => of_decide_eq_true (List.all_eq_true.mp c8 x hx), top := of_decide_eq_true c9, cls := clsB_ok d1, bas := d2, ovr := d3, sup := He.eqO_ok d4, sbE := of_decide_eq_true d5, mro := of_decide_eq_true d6,
    opq := He.eqO_ok d7, nsu := He.eqO_ok d8, sa := He.eqO_ok d9, key := He.eqO_ok d10 }⟩
def errB (P : Program) (cs : List Nat) (K : Frag) : Bool := (cs.all fun c => PySem.W.keepIn K (.ref (exA K c)) && (excB K (exA K c) && ((cs.all fun t => decide (PySem.W.kitOne K (.ref (exA K c)) (.ref (exA K t)) = some (exSub c t))) &&
  ((bltE.all fun n => decide (PySem.W.kitOne K (.ref (exA K c)) (.type n) = some (n == "Exception"))) && (c == 28 || PySem.W.excIn K (exA K c) exBase "Exception.__new__"))))) && bsB P K (exA K 28)
theorem errB_ok {P : Program} {cs : List Nat} {K : Frag} (h : errB P cs K = true) : ErrK K P cs := by
  obtain ⟨h1, h2⟩ := He.ba h
  have at_ : ∀ c ∈ cs, PySem.W.keepIn K (.ref (exA K c)) = true ∧ ExcC K (exA K c) ∧ (∀ t ∈ cs, PySem.W.kitOne K (.ref (exA K c)) (.ref (exA K t)) = some (exSub c t)) ∧ (∀ n ∈ bltE, PySem.W.kitOne K (.ref (exA K c)) (.type n) = some (n == "Exception")) ∧ (c == 28 || PySem.W.excIn K (exA K c) exBase "Exception.__new__") = true := fun c hc => by
    obtain ⟨e1, e⟩ := He.ba (List.all_eq_true.mp h1 c hc)
    obtain ⟨e2, e⟩ := He.ba e
    obtain ⟨e3, e⟩ := He.ba e
    obtain ⟨e4, e5⟩ := He.ba e
    exact ⟨e1, excB_ok e2, fun t ht => of_decide_eq_true (List.all_eq_true.mp e3 t ht), fun n hn => of_decide_eq_true (List.all_eq_true.mp e4 n hn), e5⟩
  refine ⟨fun c hc => (at_ c hc).2.1, fun c hc => (at_ c hc).2.2.1, fun c hc => (at_ c hc).2.2.2.1, fun c hc hn => ?_, fun c hc => (at_ c hc).1, bsB_ok h2⟩
  have z := (at_ c hc).2.2.2.2
  rw [show (c == 28) = false from beq_eq_false_iff_ne.mpr hn, Bool.false_or] at z
  exact z
theorem boot_Exception : bootBuiltins "Exception" = some (.type "Exception") := by decide +kernel
theorem boot_ValueError : bootBuiltins "ValueError" = some (.type "ValueError") := by decide +kernel
theorem boot_LookupError : bootBuiltins "LookupError" = some (.type "LookupError") := by decide +kernel
theorem boot_ArithmeticError : bootBuiltins "ArithmeticError" = some (.type "ArithmeticError") := by decide +kernel
theorem boot_TypeError : bootBuiltins "TypeError" = some (.type "TypeError") := by decide +kernel
theorem boot_RuntimeError : bootBuiltins "RuntimeError" = some (.type "RuntimeError") := by decide +kernel
/-- 'a'.join(xs) -/
def yJoinC (a : Str) (r : PTE) : PTE := fun ε Q => r ε fun t1 ε1 => res ε1 t1 fun d => ∃ ys : List Str, d = .lst (ys.map D.str) ∧ (ys.map (·.length)).sum + ys.length * a.length ≤ 16777216 ∧ Q (.d (.str (Txt.join a ys))) ε1
theorem ye_joinC {X : Cx} {W : WX} {Ξ : Xi} {a : Str} {r : PTE} {e : Expr} {j : Nat} {p apos pos : Pos} (h : YE X W Ξ e r) (hs : starEach [e] X.env = [(false, eval e X.env)] := by rfl)
    (hbase : attributeBase (.Constant (.str a) j p) "join" X.env (eval (.Constant (.str a) j p) X.env) = eval (.Constant (.str a) j p) X.env := by rfl) (hline : (apos.endLine == pos.line) = true := by rfl) :
    YE X W Ξ (.Call (.Attribute (.Constant (.str a) j p) "join" apos) [e] [] pos) (yJoinC a r) := by
  obtain ⟨te, pe, ke⟩ := h.ex
  refine ⟨_, pe_join pe_str pe hs hbase hline, fun F Hs σ H ε Q' Q R L q k => ⟨⟨a, rfl⟩, ke F Hs σ H ε _ _ R L q fun v H1 Hs1 t1 ε1 e1 R1 p1 q1 => ?_⟩⟩
  obtain ⟨d, v1, ys, rfl, hl, q2⟩ := R1.res p1 q1
  obtain ⟨b, vs, rfl, h1, rs⟩ := v1.lst' R1.ex
  have ev := rs.inv_strs
  subst ev
  exact ⟨a, b, ys, rfl, rfl, .inl (SqL.of h1), hl, k (.str _) H1 Hs1 (.d (.str _)) ε1 e1 R1 (.str _) q2⟩
/-- what the names reach in n steps, and the interpreter's own statics -/
def asY (g : Addr → Option Obj) (n : Nat) : List Addr := He.asD g n ++ [cStatics]
abbrev AlY : Type := He.AlT × Bool
def obsY (n : Nat) (fa : List He.Fa) (fn : List He.DefD) (ex : Frag → Bool) (g : Addr → Option Obj) : AlY := (He.obsT fa fn [] (He.frT g (asY g n)), ex (He.frT g (asY g n)))
def hookY (n : Nat) (fa : List He.Fa) (fn : List He.DefD) (ex : Frag → Bool) : PySem.W.Hook where
  α := AlY
  obs := fun s => obsY n fa fn ex s.heap.get?
  val := fun w => (He.valT fn [] w, true)
  says := fun w h => ∃ K : Frag, K.In h ∧ (He.SaysT fa fn [] w K ∧ ex K = true)
  of := fun _ _ e => ⟨_, He.frT_in, congrArg (fun z : AlY => z.1) e, congrArg (fun z : AlY => z.2) e⟩
  keeps := fun _ _ _ ⟨K, hK, c⟩ k => ⟨K, PySem.W.Frag.In.keeps hK k, c⟩
theorem obsY_eq {n : Nat} {fa : List He.Fa} {fn : List He.DefD} {ex : Frag → Bool} {g : Addr → Option Obj} {s : Shared} (h : ∀ a, g a = s.heap.get? a) : obsY n fa fn ex g = (hookY n fa fn ex).obs s := by
  have e : g = s.heap.get? := funext h
  rw [e] <;> rfl
end PX

set_option Elab.async false
set_option linter.all false
set_option autoImplicit false
set_option maxRecDepth 100000
set_option maxHeartbeats 1000000
namespace PL.K00
open PySem PySem.Spec PyProof.Rows L2 PX
local macro_rules | `(tactic| walk_at "y") => `(tactic| conv => whnf)
/-! ### the stream -/
def φ_law_pool : Spec := fun ds Q _ => ∃ xs : List Int, ds = [.frl (xs.map D.int)] ∧ xs.length ≤ 63 ∧ ∀ ns : List Int, 300 ≤ ns.length → ns.length ≤ 5000 → Q (.lst (ns.map D.int))
def φ_law_pick : Spec := φPick
theorem int_of {xs : List Int} {i : Nat} {d : D} (h : (xs.map D.int)[i]? = some d) : ∃ x, d = .int x := by
  rw [List.getElem?_map] at h
  cases e : xs[i]? with
  | none => rw [e] at h; cases h
  | some x => rw [e] at h; exact ⟨x, (Option.some.inj h).symm⟩
theorem map_snoc {ns : List Int} {x : Int} : ns.map D.int ++ [D.int x] = (ns ++ [x]).map D.int := by simp
theorem map_snoc2 {ns : List Int} {x y : Int} : ns.map D.int ++ [D.int x, D.int y] = (ns ++ [x, y]).map D.int := by simp
abbrev N_law_pool : List Str := ["script", "pool", "state", "cell", "rest", "k"]
def r_law_pool (Ξ : Xi) : PTS :=
  (ysSeq (ysPar 1 2 (yxN (ynLst ylNil)) (yxE (yC (.int 17))))
  (ysSeq (ysFor (yiFrl (yVar 0)) (gN 3)
  (ysSeq (ysAsg (yBin oMod (yCB oInt (ylCons (yVar 3) ylNil)) (yBin oPow (yC (.int 60)) (yC (.int 60)))) 4)
  (ysSeq (ysAsg (yBin oMod (yCB oInt (ylCons (yBin oAdd (yBin oMulA (yVar 2) (yC (.int 31))) (yVar 4)) ylNil)) (yC (.int 2147483647))) 2)
  (ysIf (yBinT oGe (yVar 4) (yBin oPow (yC (.int 10)) (yC (.int 18))))
  (ysFor (yiRg1 (ylCons (yC (.int 60)) ylNil)) (gN 5)
  (ysSeq (ysApp 1 (yBin oMod (yCB oInt (ylCons (yVar 4) ylNil)) (yC (.int 60))))
  (ysSeq (ysAsg (yCB oInt (ylCons (yBin oFdiv (yVar 4) (yC (.int 60))) ylNil)) 4)
  (ysIf (yBinT (oEq false) (yVar 4) (yC (.int 0)))
  ysBrk
  ysNext))))
  (ysAsgO (ynAdd (yVar 1) (yNew (ynLst (ylCons (yBin oMod (yCB oInt (ylCons (yVar 4) ylNil)) (yC (.int 60))) (ylCons (yBin oMod (yCB oInt (ylCons (yBin oFdiv (yVar 4) (yC (.int 60))) ylNil)) (yC (.int 60))) ylNil))))) 1)))))
  (ysSeq (ysFor (yiRg1 (ylCons (yC (.int 300)) ylNil)) (gN 5)
  (ysSeq (ysAsg (yBin oMod (yBin oAdd (yBin oMulA (yVar 2) (yC (.int 48271))) (yC (.int 11))) (yC (.int 2147483647))) 2)
  (ysApp 1 (yBin oMod (yCB oInt (ylCons (yBin oFdiv (yVar 2) (yC (.int 97))) ylNil)) (yC (.int 60))))))
  (ysRet (yVar 1)))))
theorem vc_law_pool (ds : List D) (Q' : D → Prop) (E' : Nat → Prop) (h : φ_law_pool ds Q' E') : r_law_pool (fun c _ => E' c) { nx := fun _ => Q' .non, rt := fun d _ => Q' d } (startE N_law_pool ds) := by
  obtain ⟨xs, rfl, hx, h⟩ := h
  let I (i : Int) : Option S := some (.v (.int i))
  let e (ns : List Int) (s c r k : Option S) : PEnv := [some (.v (.frl (xs.map D.int))), some (.o (ns.map D.int)), s, c, r, k]
  refine seq_step (e [] (I 17) none none none) (fun K k => k) ?_
  refine seq_post (fun ε => ∃ ns s c r k, ns.length ≤ 60 * 63 ∧ ε = e ns (I s) c r k) (fun K kk => ⟨fun i ε => ∃ ns s c r k, ns.length ≤ 60 * i ∧ ε = e ns (I s) c r k, ⟨[], 17, none, none, none, Nat.zero_le _, rfl⟩, fun i d ε hi hd w => ?_, fun ε ⟨ns, s, c, r, k, hl, q⟩ => kk ε ⟨ns, s, c, r, k, by rw [List.length_map] at hl; omega, q⟩⟩) fun ε w => ?_
  · obtain ⟨x, rfl⟩ := int_of hd
    obtain ⟨ns, s, c, r, k, hl, rfl⟩ := w
    rw [List.length_map] at hi
    refine seq_step (e ns (I s) (I x) (I (x % 60 ^ 60)) k) (fun K k => k) ?_
    refine seq_post (fun ε => ∃ s, ε = e ns (I s) (I x) (I (x % 60 ^ 60)) k) (fun K kk => gd_of (.inr ⟨by decide, by decide⟩) (kk _ ⟨_, rfl⟩)) ?_
    rintro _ ⟨s, rfl⟩
    walk_at "y"
    split
    · refine ⟨fun j ε => ∃ ns r k, ns.length ≤ 60 * i + j ∧ ε = e ns (I s) (I x) (I r) k, ⟨ns, _, k, hl, rfl⟩, fun j d ε hj hd w => ?_, fun ε w => ?_⟩
      · have hdd := rangeD_get hd
        rw [hdd.2]
        obtain ⟨ns, r, k, hl, rfl⟩ := w
        have hj : j < 60 := hdd.1
        refine gd_of (show (ns.map D.int).length < 16777216 by rw [List.length_map]; omega) ?_
        rw [map_snoc]
        walk_at "y"
        split
        · exact ⟨_, _, _, _, _, by rw [List.length_append]; show ns.length + 1 ≤ 60 * (i + 1); omega, rfl⟩
        · exact ⟨_, _, _, by rw [List.length_append]; show ns.length + 1 ≤ 60 * i + (j + 1); omega, rfl⟩
      · obtain ⟨ns, r, k, hl, rfl⟩ := w
        rw [rangeD_len] at hl
        exact ⟨ns, _, _, _, _, by show ns.length ≤ 60 * (i + 1); exact Nat.le_trans hl (by show 60 * i + 60 ≤ _; omega), rfl⟩
    · refine gd_of (show (ns.map D.int).length + 2 ≤ 16777216 by rw [List.length_map]; omega) ?_
      rw [map_snoc2]
      exact ⟨_, _, _, _, _, by rw [List.length_append]; show ns.length + 2 ≤ 60 * (i + 1); omega, rfl⟩
  · obtain ⟨ns, s, c, r, k, hl, rfl⟩ := w
    refine seq_post (fun ε => ∃ ns' k s, ns'.length = ns.length + 300 ∧ ε = e ns' (I s) c r k) (fun K kk => ⟨fun j ε => ∃ ns' k s, ns'.length = ns.length + j ∧ ε = e ns' (I s) c r k, ⟨ns, k, s, rfl, rfl⟩, fun j d ε hj hd w => ?_, fun ε w => ?_⟩) ?_
    · have hdd := rangeD_get hd
      rw [hdd.2]
      obtain ⟨ns', k, s, hl', rfl⟩ := w
      have hj : j < 300 := hdd.1
      refine gd_of (.inr ⟨by decide, by decide⟩) ?_
      refine gd_of (show (ns'.map D.int).length < 16777216 by rw [List.length_map]; omega) ?_
      rw [map_snoc]
      exact ⟨_, _, _, by rw [List.length_append, hl']; rfl, rfl⟩
    · obtain ⟨ns', k, s, hl', rfl⟩ := w
      rw [rangeD_len] at hl'
      exact kk _ ⟨ns', k, s, hl', rfl⟩
    · rintro _ ⟨ns', k, s, hl', rfl⟩
      exact h ns' (by omega) (by omega)
theorem len_law_pool (ds : List D) (Q : D → Prop) (E : Nat → Prop) (h : φ_law_pool ds Q E) : ds.length = 1 := by
  obtain ⟨xs, rfl, _⟩ := h
  rfl
def φ_law_stream : Spec := φStream
abbrev N_law_stream : List Str := ["script"]
def r_law_stream (Ξ : Xi) : PTS :=
  (ysRet (yBin oAdd (yNew (ynLst (ylCons (yC (.int 1)) ylNil))) (yCall φ_law_pool Ξ (ylCons (yVar 0) ylNil))))
theorem vc_law_stream (ds : List D) (Q' : D → Prop) (E' : Nat → Prop) (h : φList ds Q' E') : r_law_stream (fun c _ => E' c) { nx := fun _ => Q' .non, rt := fun d _ => Q' d } (startE N_law_stream ds) := by
  unfold φList at h
  split at h
  · obtain ⟨xs, rfl, hx, h⟩ := h
    refine ⟨xs, rfl, hx, fun ns h1 h2 => ?_⟩
    refine gd_of (show 1 + (ns.map D.int).length ≤ 16777216 by rw [List.length_map]; omega) ?_
    refine h (1 :: ns) ⟨?_, ?_, 1, rfl, by decide, ?_⟩
    · show 2 ≤ ns.length + 1; omega
    · show ns.length + 1 ≤ _; omega
    · show (1 : Int) < ((ns.length + 1 : Nat) : Int); omega
  · exact h.elim

end PL.K00

set_option Elab.async false
set_option linter.all false
set_option autoImplicit false
set_option maxRecDepth 100000
set_option maxHeartbeats 1000000
namespace PL.K00
open PySem PySem.Spec PyProof.Rows L2 PX
local macro_rules | `(tactic| walk_at "y") => `(tactic| conv => whnf)
/-! ### the key, the errors -/
theorem pick_strs {ws : List Str} {r : Int} {Q : D → Prop} (h0 : 0 ≤ r) (h1 : r < (ws.length : Int)) (k : ∀ w, Q (.str w)) : opt (atI (ws.map D.str) r) Q := by
  refine pick_of h0 (by rw [List.length_map]; exact h1) fun d hd => ?_
  obtain ⟨v, hv, rfl⟩ := List.mem_map.mp hd
  exact k v
def φ_law_key : Spec
  | [.pool], Q, _ => ∀ x : Str, Q (.str x)
  | _, _, _ => False
def abcL : List Nat := [97, 98, 99, 100, 101, 102, 103, 104, 105, 106, 107, 108, 109, 110, 111, 112, 113, 114, 115, 116, 117, 118, 119, 120, 121, 122, 32, 126]
theorem s_abc : ("abcdefghijklmnopqrstuvwxyz ~" : Str) = S0 abcL := by kernel_rfl
theorem str_snoc {ys : List Str} {x : Str} : ys.map D.str ++ [D.str x] = (ys ++ [x]).map D.str := by simp
abbrev N_law_key : List Str := ["pool", "words", "k"]
def r_law_key (Ξ : Xi) : PTS :=
  (ysSeq (ysAsg (yNew (ynLst (ylCons (yC (.str ("" : Str))) (ylCons (yC (.str ("pages" : Str))) (ylCons (yC (.str ("sheets" : Str))) (ylCons (yC (.str ("width" : Str))) (ylCons (yC (.str ("height" : Str))) (ylCons (yC (.str ("shown" : Str))) (ylCons (yC (.str ("wishes" : Str))) (ylCons (yC (.str ("hovered" : Str))) (ylCons (yC (.str ("focused" : Str))) (ylCons (yC (.str ("caret" : Str))) (ylCons (yC (.str ("past" : Str))) (ylCons (yC (.str ("future" : Str))) ylNil)))))))))))))) 1)
  (ysSeq (ysIf (yBinT (oEq false) (yCall φ_law_pick Ξ (ylCons (yVar 0) (ylCons (yC (.int 4)) ylNil))) (yC (.int 0)))
  (ysRet (yJoinC ("" : Str) (yNew (ynLc (yiRg1 (ylCons (yCall φ_law_pick Ξ (ylCons (yVar 0) (ylCons (yC (.int 60)) ylNil))) ylNil)) (gN 2) yYes (yIx (yC (.str ("abcdefghijklmnopqrstuvwxyz ~" : Str))) (yCall φ_law_pick Ξ0 (ylCons (yVar 0) (ylCons (yC (.int 28)) ylNil)))) [2]))))
  ysNext)
  (ysRet (yIx (yVar 1) (yCall φ_law_pick Ξ (ylCons (yVar 0) (ylCons (yC (.int 12)) ylNil)))))))
theorem vc_law_key (ds : List D) (Q' : D → Prop) (E' : Nat → Prop) (h : φ_law_key ds Q' E') : r_law_key (fun c _ => E' c) { nx := fun _ => Q' .non, rt := fun d _ => Q' d } (startE N_law_key ds) := by
  unfold φ_law_key at h
  split at h
  · delta r_law_key
    rw [s_abc]
    let W : Option S := some (.v (.lst ((["", "pages", "sheets", "width", "height", "shown", "wishes", "hovered", "focused", "caret", "past", "future"] : List Str).map D.str)))
    let e : PEnv := [some (.v .pool), W, none]
    refine seq_step e (fun K k => k) ?_
    refine seq_step e (fun K k => fun q q0 q1 => ?_) ?_
    · show (match decide (q = 0) with | true => _ | false => _)
      cases decide (q = 0) with
      | false => exact k
      | true =>
        refine fun n n0 n1 => gd_of (small_by (by omega) (by omega)) ⟨⟨trivial, trivial⟩, by rw [rangeD_len]; omega, fun i acc => ∃ ys : List Str, acc = ys.map D.str ∧ ys.length ≤ i ∧ (ys.map (·.length)).sum ≤ i, ⟨[], rfl, Nat.zero_le _, Nat.zero_le _⟩, fun i d acc hi hd hl w => ?_, fun acc hl w => ?_⟩
        · obtain ⟨ys, rfl, y1, y2⟩ := w
          refine fun r r0 r1 => ?_
          obtain ⟨m, rfl⟩ := Int.eq_ofNat_of_zero_le r0
          have hm : m < 28 := by omega
          refine gd_of (show abcL.length ≤ 16777216 from Nat.le_of_ble_eq_true rfl) ?_
          refine opt_sign (l := abcL) rfl (List.getElem?_eq_getElem (show m < abcL.length from hm)) ⟨rfl, ys ++ [⟨#[abcL[m]'hm]⟩], str_snoc, ?_, ?_⟩
          · rw [List.length_append]; show ys.length + 1 ≤ i + 1; omega
          · rw [List.map_append, List.sum_append]; show (ys.map (·.length)).sum + 1 ≤ i + 1; omega
        · obtain ⟨ys, rfl, y1, y2⟩ := w
          rw [rangeD_len] at y1 y2
          exact ⟨ys, rfl, by show (ys.map (·.length)).sum + ys.length * 0 ≤ _; omega, h _⟩
    · exact fun q q0 q1 => pick_strs (ws := ["", "pages", "sheets", "width", "height", "shown", "wishes", "hovered", "focused", "caret", "past", "future"]) q0 q1 fun w => h w
  · exact h.elim
/-- the classes, in the law's order -/
def kindL : List Nat := [1, 2, 3, 4, 5, 6, 7, 8, 9, 10, 11, 12, 13, 14, 15, 16, 17, 18, 19, 20, 23, 21, 22, 24, 25, 26, 27, 28]
def errsL (x : Str) : List D := ((kindL.take 27).map fun c => D.err c none) ++ [D.err 28 (some x)]
abbrev exAll : List Nat := [0, 1, 2, 3, 4, 5, 6, 7, 8, 9, 10, 11, 12, 13, 14, 15, 16, 17, 18, 19, 20, 21, 22, 23, 24, 25, 26, 27, 28]
def φ_law_made : Spec
  | [.str x], Q, _ => Q (.lst (errsL x))
  | _, _, _ => False
def φ_law_kinds : Spec
  | [.err c _], Q, _ => exAll.contains c = true ∧ Q (.lst ((kindL.map fun t => exSub c t).map D.bl))
  | _, _, _ => False
def φ_law_narrower : Spec
  | [.err c _], Q, _ => exAll.contains c = true ∧ Q (.bl false)
  | _, _, _ => False
abbrev exCs : List Nat := exAll
abbrev N_law_made : List Str := ["key", "found"]
def r_law_made (Ξ : Xi) : PTS :=
  (ysSeq (ysAsg (yNew (ynLst (ylCons (yErr 1) (ylCons (yErr 2) (ylCons (yErr 3) (ylCons (yErr 4) (ylCons (yErr 5) (ylCons (yErr 6) (ylCons (yErr 7) (ylCons (yErr 8) (ylCons (yErr 9) ylNil))))))))))) 1)
  (ysSeq (ysAsg (yBin oAdd (yVar 1) (yNew (ynLst (ylCons (yErr 10) (ylCons (yErr 11) (ylCons (yErr 12) (ylCons (yErr 13) (ylCons (yErr 14) (ylCons (yErr 15) (ylCons (yErr 16) (ylCons (yErr 17) (ylCons (yErr 18) ylNil)))))))))))) 1)
  (ysSeq (ysAsg (yBin oAdd (yVar 1) (yNew (ynLst (ylCons (yErr 19) (ylCons (yErr 20) (ylCons (yErr 23) (ylCons (yErr 21) (ylCons (yErr 22) (ylCons (yErr 24) (ylCons (yErr 25) (ylCons (yErr 26) (ylCons (yErr 27) ylNil)))))))))))) 1)
  (ysRet (yBin oAdd (yVar 1) (yNew (ynLst (ylCons (yBs (yVar 0)) ylNil))))))))
theorem vc_law_made (ds : List D) (Q' : D → Prop) (E' : Nat → Prop) (h : φ_law_made ds Q' E') : r_law_made (fun c _ => E' c) { nx := fun _ => Q' .non, rt := fun d _ => Q' d } (startE N_law_made ds) := by
  unfold φ_law_made at h
  split at h
  · have g : ∀ a b : Nat, Nat.ble a b = true → a ≤ b := fun a b z => Nat.le_of_ble_eq_true z
    refine gd_of (show (9 + 9 : Nat) ≤ 16777216 from g _ _ rfl) ?_
    refine gd_of (show (18 + 9 : Nat) ≤ 16777216 from g _ _ rfl) ?_
    exact gd_of (show (27 + 1 : Nat) ≤ 16777216 from g _ _ rfl) h
  · exact h.elim
abbrev N_law_kinds : List Str := ["error", "found"]
def r_law_kinds (Ξ : Xi) : PTS :=
  (ysSeq (ysAsg (yNew (ynLst (ylCons (yIsX exCs (fun c => exSub c 1) (yVar 0)) (ylCons (yIsX exCs (fun c => exSub c 2) (yVar 0)) (ylCons (yIsX exCs (fun c => exSub c 3) (yVar 0)) (ylCons (yIsX exCs (fun c => exSub c 4) (yVar 0)) ylNil)))))) 1)
  (ysSeq (ysAsg (yBin oAdd (yVar 1) (yNew (ynLst (ylCons (yIsX exCs (fun c => exSub c 5) (yVar 0)) (ylCons (yIsX exCs (fun c => exSub c 6) (yVar 0)) (ylCons (yIsX exCs (fun c => exSub c 7) (yVar 0)) (ylCons (yIsX exCs (fun c => exSub c 8) (yVar 0)) ylNil))))))) 1)
  (ysSeq (ysAsg (yBin oAdd (yVar 1) (yNew (ynLst (ylCons (yIsX exCs (fun c => exSub c 9) (yVar 0)) (ylCons (yIsX exCs (fun c => exSub c 10) (yVar 0)) (ylCons (yIsX exCs (fun c => exSub c 11) (yVar 0)) (ylCons (yIsX exCs (fun c => exSub c 12) (yVar 0)) ylNil))))))) 1)
  (ysSeq (ysAsg (yBin oAdd (yVar 1) (yNew (ynLst (ylCons (yIsX exCs (fun c => exSub c 13) (yVar 0)) (ylCons (yIsX exCs (fun c => exSub c 14) (yVar 0)) (ylCons (yIsX exCs (fun c => exSub c 15) (yVar 0)) (ylCons (yIsX exCs (fun c => exSub c 16) (yVar 0)) ylNil))))))) 1)
  (ysSeq (ysAsg (yBin oAdd (yVar 1) (yNew (ynLst (ylCons (yIsX exCs (fun c => exSub c 17) (yVar 0)) (ylCons (yIsX exCs (fun c => exSub c 18) (yVar 0)) (ylCons (yIsX exCs (fun c => exSub c 19) (yVar 0)) (ylCons (yIsX exCs (fun c => exSub c 20) (yVar 0)) ylNil))))))) 1)
  (ysSeq (ysAsg (yBin oAdd (yVar 1) (yNew (ynLst (ylCons (yIsX exCs (fun c => exSub c 23) (yVar 0)) (ylCons (yIsX exCs (fun c => exSub c 21) (yVar 0)) (ylCons (yIsX exCs (fun c => exSub c 22) (yVar 0)) (ylCons (yIsX exCs (fun c => exSub c 24) (yVar 0)) ylNil))))))) 1)
  (ysSeq (ysAsg (yBin oAdd (yVar 1) (yNew (ynLst (ylCons (yIsX exCs (fun c => exSub c 25) (yVar 0)) (ylCons (yIsX exCs (fun c => exSub c 26) (yVar 0)) (ylCons (yIsX exCs (fun c => exSub c 27) (yVar 0)) (ylCons (yIsX exCs (fun c => exSub c 28) (yVar 0)) ylNil))))))) 1)
  (ysRet (yVar 1)))))))))
theorem vc_law_kinds (ds : List D) (Q' : D → Prop) (E' : Nat → Prop) (h : φ_law_kinds ds Q' E') : r_law_kinds (fun c _ => E' c) { nx := fun _ => Q' .non, rt := fun d _ => Q' d } (startE N_law_kinds ds) := by
  unfold φ_law_kinds at h
  split at h
  · obtain ⟨h1, h2⟩ := h
    have g : ∀ a b : Nat, Nat.ble a b = true → a ≤ b := fun a b z => Nat.le_of_ble_eq_true z
    refine ⟨h1, h1, h1, h1, h1, h1, h1, h1, ?_⟩
    refine gd_of (show (4 + 4 : Nat) ≤ 16777216 from g _ _ rfl) ⟨h1, h1, h1, h1, ?_⟩
    refine gd_of (show (8 + 4 : Nat) ≤ 16777216 from g _ _ rfl) ⟨h1, h1, h1, h1, ?_⟩
    refine gd_of (show (12 + 4 : Nat) ≤ 16777216 from g _ _ rfl) ⟨h1, h1, h1, h1, ?_⟩
    refine gd_of (show (16 + 4 : Nat) ≤ 16777216 from g _ _ rfl) ⟨h1, h1, h1, h1, ?_⟩
    refine gd_of (show (20 + 4 : Nat) ≤ 16777216 from g _ _ rfl) ⟨h1, h1, h1, h1, ?_⟩
    refine gd_of (show (24 + 4 : Nat) ≤ 16777216 from g _ _ rfl) ?_
    exact h2
  · exact h.elim
abbrev N_law_narrower : List Str := ["error", "narrow"]
def r_law_narrower (Ξ : Xi) : PTS :=
  (ysSeq (ysAsg (yOrV (yIsX exCs (fun _ => "ValueError" == "Exception") (yVar 0)) (yOrV (yIsX exCs (fun _ => "LookupError" == "Exception") (yVar 0)) (yIsX exCs (fun _ => "ArithmeticError" == "Exception") (yVar 0)))) 1)
  (ysRet (yOrV (yVar 1) (yOrV (yIsX exCs (fun _ => "TypeError" == "Exception") (yVar 0)) (yIsX exCs (fun _ => "RuntimeError" == "Exception") (yVar 0))))))
theorem vc_law_narrower (ds : List D) (Q' : D → Prop) (E' : Nat → Prop) (h : φ_law_narrower ds Q' E') : r_law_narrower (fun c _ => E' c) { nx := fun _ => Q' .non, rt := fun d _ => Q' d } (startE N_law_narrower ds) := by
  unfold φ_law_narrower at h
  split at h
  · obtain ⟨h1, h2⟩ := h
    exact ⟨h1, h1, h1, h1, h1, h2⟩
  · exact h.elim

end PL.K00

set_option Elab.async false
set_option linter.all false
set_option autoImplicit false
set_option maxRecDepth 100000
set_option maxHeartbeats 1000000
namespace PL.K00
open PySem PySem.Spec PyProof.Rows L2 PX
local macro_rules | `(tactic| walk_at "y") => `(tactic| conv => whnf)
/-! ### the law -/
theorem errs_at (x : Str) : ∀ k, k < 28 → ∃ c ky, (errsL x)[k]? = some (.err c ky) ∧ kindL[k]? = some c ∧ exAll.contains c = true ∧ (exSub c 0 = true) ∧ exSub c c = true ∧ (((kindL.map fun t => exSub c t).filter id).length = 1) := by
  intro k hk
  iterate 28
    rcases k with _ | k
    · exact ⟨_, _, rfl, rfl, by decide, by decide, by decide, by decide⟩
  omega
theorem atI_k {xs : List D} {k : Nat} {d : D} (h : xs[k]? = some d) : atI xs (0 + (k : Int)) = some d := by
  rw [Int.zero_add]
  exact atI_nat h
def φ_law : Spec := φLaw
abbrev N_law : List Str := ["script", "pool", "one", "other", "made", "later", "errors", "k", "kinds", "error", "key", "base", "kind"]
def r_law (Ξ : Xi) : PTS :=
  (ysSeq (ysAsg (yCall φ_law_stream Ξ (ylCons (yVar 0) ylNil)) 1)
  (ysSeq (ysPar 2 3 (yxE (yCall φ_law_key Ξ (ylCons (yVar 1) ylNil))) (yxE (yCall φ_law_key Ξ (ylCons (yVar 1) ylNil))))
  (ysSeq (ysPar 4 5 (yxE (yCall φ_law_made Ξ (ylCons (yVar 2) ylNil))) (yxE (yCall φ_law_made Ξ (ylCons (yVar 3) ylNil))))
  (ysSeq (ysFor (yiSeq (yNew (ynLst (ylCons (yVar 4) (ylCons (yVar 5) ylNil))))) (gN 6)
  (ysFor (yiRg1 (ylCons (yCB oLen (ylCons (yVar 6) ylNil)) ylNil)) (gN 7)
  (ysSeq (ysIf (yOr (yNot (yTru (yIsX exCs (fun c => exSub c 0) (yIx (yVar 6) (yVar 7))))) (yOr (yNot (yTru (yIsX exCs (fun _ => "Exception" == "Exception") (yIx (yVar 6) (yVar 7))))) (yTru (yCall φ_law_narrower Ξ (ylCons (yIx (yVar 6) (yVar 7)) ylNil)))))
  (ysRet (yC (.bl false)))
  ysNext)
  (ysSeq (ysAsg (yCall φ_law_kinds Ξ (ylCons (yIx (yVar 6) (yVar 7)) ylNil)) 8)
  (ysIf (yOr (yBinT (oEq true) (yCB oLen (ylCons (yNew (ynLc (yiSeq (yVar 8)) (gN 12) (yTru (yVar 12)) (yC (.int 1)) [12])) ylNil)) (yC (.int 1))) (yNot (yTru (yIx (yVar 8) (yVar 7)))))
  (ysRet (yC (.bl false)))
  ysNext)))))
  (ysSeq (ysFor (yiSeq (yNew (ynLst (ylCons (yTup (ylCons (yIx (yVar 4) (yBin oSub (yCB oLen (ylCons (yVar 4) ylNil)) (yC (.int 1)))) (ylCons (yVar 2) ylNil))) (ylCons (yTup (ylCons (yIx (yVar 5) (yBin oSub (yCB oLen (ylCons (yVar 5) ylNil)) (yC (.int 1)))) (ylCons (yVar 3) ylNil))) ylNil))))) (gTupY 2 [(gN 9), (gN 10)])
  (ysIf (yOr (yNot (yTru (yIs .str (yKey (yVar 9))))) (yBinT (oEq true) (yKey (yVar 9)) (yVar 10)))
  (ysRet (yC (.bl false)))
  ysNext))
  (ysSeq (ysAsg (yErr 0) 11)
  (ysRet (yAndV (yIsX exCs (fun _ => "Exception" == "Exception") (yVar 11)) (yAndV (yNotB (yCB oAny (ylCons (yCall φ_law_kinds Ξ (ylCons (yVar 11) ylNil)) ylNil))) (yNotB (yCall φ_law_narrower Ξ (ylCons (yVar 11) ylNil))))))))))))
theorem vc_law (ds : List D) (Q' : D → Prop) (E' : Nat → Prop) (h : φ_law ds Q' E') : r_law (fun c _ => E' c) { nx := fun _ => Q' .non, rt := fun d _ => Q' d } (startE N_law ds) := by
  unfold φ_law φLaw at h
  split at h
  · obtain ⟨xs, rfl, hx, h⟩ := h
    let X (x : Str) : Option S := some (.v (.str x))
    let L (x : Str) : Option S := some (.v (.lst (errsL x)))
    let e (one other made later errors k kinds error key base : Option S) : PEnv := [some (.v (.frl (xs.map D.int))), some (.v .pool), one, other, made, later, errors, k, kinds, error, key, base, none]
    refine seq_step (e none none none none none none none none none none) (fun K k => ⟨⟨xs, rfl, hx⟩, k⟩) ?_
    refine seq_post (fun ε => ∃ a b, ε = e (X a) (X b) none none none none none none none none) (fun K kk => fun a b => kk _ ⟨a, b, rfl⟩) ?_
    rintro _ ⟨a, b, rfl⟩
    refine seq_step (e (X a) (X b) (L a) (L b) none none none none none none) (fun K k => k) ?_
    refine seq_post (fun ε => ∃ er k ki, ε = e (X a) (X b) (L a) (L b) er k ki none none none) (fun K kk => ⟨fun i ε => ∃ er k ki, ε = e (X a) (X b) (L a) (L b) er k ki none none none, ⟨none, none, none, rfl⟩, fun i d ε hi hd w => ?_, fun ε w => kk ε w⟩) ?_
    · obtain ⟨er, k, ki, rfl⟩ := w
      obtain ⟨x, rfl⟩ : ∃ x, d = .lst (errsL x) := by
        rcases i with _ | _ | i
        · exact ⟨a, (Option.some.inj hd).symm⟩
        · exact ⟨b, (Option.some.inj hd).symm⟩
        · exact absurd hi (by show ¬ (i + 2 < 2); omega)
      have hl : ((errsL x).length : Int) = 28 := rfl
      refine gd_of (small_by (j := ((errsL x).length : Int)) (by rw [hl]; decide) (by rw [hl]; decide)) ?_
      refine ⟨fun j ε => ∃ k ki, ε = e (X a) (X b) (L a) (L b) (L x) k ki none none none, ⟨_, _, rfl⟩, fun j d ε hj hd w => ?_, fun ε ⟨k, ki, q⟩ => ⟨_, k, ki, q⟩⟩
      obtain ⟨k, ki, rfl⟩ := w
      have hdd := rangeD_get hd
      rw [hdd.2]
      have hj : j < 28 := hdd.1
      obtain ⟨c, ky, g1, g2, g3, g4, g5, g6⟩ := errs_at x j hj
      have g1' := atI_k g1
      refine seq_step (e (X a) (X b) (L a) (L b) (L x) (some (.v (.int (0 + (j : Int))))) ki none none none) (fun K k => ?_) ?_
      · refine opt_of g1' ⟨g3, ?_⟩
        show (match !(exSub c 0) with | true => _ | false => _)
        rw [g4]
        exact opt_of g1' ⟨g3, opt_of g1' ⟨g3, k⟩⟩
      refine seq_step (e (X a) (X b) (L a) (L b) (L x) (some (.v (.int (0 + (j : Int))))) (some (.v (.lst ((kindL.map fun t => exSub c t).map D.bl)))) none none none) (fun K k => opt_of g1' ⟨g3, k⟩) ?_
      refine ⟨⟨trivial, trivial⟩, Nat.le_of_ble_eq_true (show Nat.ble 28 16777216 = true from rfl), fun i acc => acc.length = (((kindL.map fun t => exSub c t).take i).filter id).length, rfl, fun i d acc hi hd hl w => ?_, fun acc hl w => ?_⟩
      · obtain ⟨b, hb, rfl⟩ : ∃ b, (kindL.map fun t => exSub c t)[i]? = some b ∧ d = .bl b := by
          rw [List.getElem?_map] at hd
          cases z : (kindL.map fun t => exSub c t)[i]? with
          | none => rw [z] at hd; cases hd
          | some b => rw [z] at hd; exact ⟨b, rfl, (Option.some.inj hd).symm⟩
        have tk : (kindL.map fun t => exSub c t).take (i + 1) = (kindL.map fun t => exSub c t).take i ++ [b] := by
          rw [List.take_add_one, hb] <;> rfl
        have w : acc.length = (((kindL.map fun t => exSub c t).take i).filter id).length := w
        cases b with
        | true =>
          refine ⟨rfl, ?_⟩
          show (acc ++ [D.int 1]).length = (((kindL.map fun t => exSub c t).take (i + 1)).filter id).length
          rw [tk, List.filter_append, List.length_append, List.length_append, w]
          rfl
        | false =>
          refine ⟨rfl, ?_⟩
          show acc.length = (((kindL.map fun t => exSub c t).take (i + 1)).filter id).length
          rw [tk, List.filter_append, List.length_append, w]
          rfl
      · have w : acc.length = (((kindL.map fun t => exSub c t).take 28).filter id).length := w
        rw [show (kindL.map fun t => exSub c t).take 28 = kindL.map fun t => exSub c t from rfl, g6] at w
        show (match !(decide ((acc.length : Int) = 1)) with | true => _ | false => _)
        rw [w]
        have hk : ((kindL.map fun t => exSub c t).map D.bl)[j]? = some (.bl (exSub c c)) := by
          rw [List.getElem?_map, List.getElem?_map, g2] <;> rfl
        refine opt_of (atI_k hk) ?_
        show (match !(exSub c c) with | true => _ | false => _)
        rw [g5]
        exact ⟨_, _, rfl⟩
    · rintro _ ⟨er, k, ki, rfl⟩
      refine seq_post (fun ε => ∃ er2 ky, ε = e (X a) (X b) (L a) (L b) er k ki er2 ky none) (fun K kk => ?_) ?_
      · walk_at "y"
        refine ⟨fun i ε => ∃ er2 ky, ε = e (X a) (X b) (L a) (L b) er k ki er2 ky none, ⟨none, none, rfl⟩, fun i d ε hi hd w => ?_, fun ε w => kk ε w⟩
        obtain ⟨er2, ky, rfl⟩ := w
        obtain ⟨x, rfl⟩ : ∃ x, d = .tup [.err 28 (some x), .str x] := by
          rcases i with _ | _ | i
          · exact ⟨a, (Option.some.inj hd).symm⟩
          · exact ⟨b, (Option.some.inj hd).symm⟩
          · exact absurd hi (by show ¬ (i + 2 < 2); omega)
        refine gtup2 ?_
        show (match !(decide (x = x)) with | true => _ | false => _)
        rw [decide_eq_true rfl]
        exact ⟨_, _, rfl⟩
      · rintro _ ⟨er2, ky, rfl⟩
        refine seq_step (e (X a) (X b) (L a) (L b) er k ki er2 ky (some (.v (.err 0 none)))) (fun K k => k) ?_
        exact ⟨rfl, rfl, rfl, h⟩
  · exact h.elim

end PL.K00

set_option Elab.async false
set_option linter.all false
set_option autoImplicit false
set_option maxRecDepth 100000
set_option maxHeartbeats 2000000
namespace PL.K00
open PySem PySem.Spec PyProof.Rows L2 PX
def topS (i : Nat) : Stmt := PySem.Challenge.pw_pageseen_k00_errors_stand_apart.main.body.getD i (.Pass ⟨0, 0, 0, 0⟩)
abbrev s_law_pool : Stmt := topS 31
abbrev s_law_stream : Stmt := topS 32
abbrev s_law_pick : Stmt := topS 33
abbrev s_law_key : Stmt := topS 34
abbrev s_law_made : Stmt := topS 35
abbrev s_law_kinds : Stmt := topS 36
abbrev s_law_narrower : Stmt := topS 37
abbrev s_law : Stmt := topS 38
/-- what the head tells -/
structure Txt (P : Program) (K : PySem.W.Frag) (mg : Str → Option Value) : Prop where
  g_law_pool : mg "_law_pool" = some (.ref (He.ga K "_law_pool"))
  d_law_pool : ∃ fd, FunD K "_law_pool" "_law_pool" (defArgs s_law_pool) (defBody s_law_pool) (defScope s_law_pool) [] [] (He.ga K "_law_pool") fd
  g_law_stream : mg "_law_stream" = some (.ref (He.ga K "_law_stream"))
  d_law_stream : ∃ fd, FunD K "_law_stream" "_law_stream" (defArgs s_law_stream) (defBody s_law_stream) (defScope s_law_stream) [] [] (He.ga K "_law_stream") fd
  g_law_pick : mg "_law_pick" = some (.ref (He.ga K "_law_pick"))
  d_law_pick : ∃ fd, FunD K "_law_pick" "_law_pick" (defArgs s_law_pick) (defBody s_law_pick) (defScope s_law_pick) [] [] (He.ga K "_law_pick") fd
  g_law_key : mg "_law_key" = some (.ref (He.ga K "_law_key"))
  d_law_key : ∃ fd, FunD K "_law_key" "_law_key" (defArgs s_law_key) (defBody s_law_key) (defScope s_law_key) [] [] (He.ga K "_law_key") fd
  g_law_made : mg "_law_made" = some (.ref (He.ga K "_law_made"))
  d_law_made : ∃ fd, FunD K "_law_made" "_law_made" (defArgs s_law_made) (defBody s_law_made) (defScope s_law_made) [] [] (He.ga K "_law_made") fd
  g_law_kinds : mg "_law_kinds" = some (.ref (He.ga K "_law_kinds"))
  d_law_kinds : ∃ fd, FunD K "_law_kinds" "_law_kinds" (defArgs s_law_kinds) (defBody s_law_kinds) (defScope s_law_kinds) [] [] (He.ga K "_law_kinds") fd
  g_law_narrower : mg "_law_narrower" = some (.ref (He.ga K "_law_narrower"))
  d_law_narrower : ∃ fd, FunD K "_law_narrower" "_law_narrower" (defArgs s_law_narrower) (defBody s_law_narrower) (defScope s_law_narrower) [] [] (He.ga K "_law_narrower") fd
  g_law : mg "law" = some (.ref (He.ga K "law"))
  d_law : ∃ fd, FunD K "law" "law" (defArgs s_law) (defBody s_law) (defScope s_law) [] [] (He.ga K "law") fd
  n_ArithmeticError : mg "ArithmeticError" = none
  n_Exception : mg "Exception" = none
  n_LookupError : mg "LookupError" = none
  n_RuntimeError : mg "RuntimeError" = none
  n_TypeError : mg "TypeError" = none
  n_ValueError : mg "ValueError" = none
  n_any : mg "any" = none
  n_int : mg "int" = none
  n_isinstance : mg "isinstance" = none
  n_len : mg "len" = none
  n_range : mg "range" = none
  n_str : mg "str" = none
  g_PageError : mg "PageError" = some (.ref (He.ga K "PageError"))
  g_BadText : mg "BadText" = some (.ref (He.ga K "BadText"))
  g_BadTree : mg "BadTree" = some (.ref (He.ga K "BadTree"))
  g_BadSplice : mg "BadSplice" = some (.ref (He.ga K "BadSplice"))
  g_BadDeed : mg "BadDeed" = some (.ref (He.ga K "BadDeed"))
  g_BadPlace : mg "BadPlace" = some (.ref (He.ga K "BadPlace"))
  g_BadSelector : mg "BadSelector" = some (.ref (He.ga K "BadSelector"))
  g_BadName : mg "BadName" = some (.ref (He.ga K "BadName"))
  g_BadValue : mg "BadValue" = some (.ref (He.ga K "BadValue"))
  g_BadPieces : mg "BadPieces" = some (.ref (He.ga K "BadPieces"))
  g_BadList : mg "BadList" = some (.ref (He.ga K "BadList"))
  g_BadMarks : mg "BadMarks" = some (.ref (He.ga K "BadMarks"))
  g_BadParts : mg "BadParts" = some (.ref (He.ga K "BadParts"))
  g_BadCell : mg "BadCell" = some (.ref (He.ga K "BadCell"))
  g_BadRow : mg "BadRow" = some (.ref (He.ga K "BadRow"))
  g_NoNode : mg "NoNode" = some (.ref (He.ga K "NoNode"))
  g_NoBox : mg "NoBox" = some (.ref (He.ga K "NoBox"))
  g_NoPage : mg "NoPage" = some (.ref (He.ga K "NoPage"))
  g_NotPlain : mg "NotPlain" = some (.ref (He.ga K "NotPlain"))
  g_TooLong : mg "TooLong" = some (.ref (He.ga K "TooLong"))
  g_TooManyNodes : mg "TooManyNodes" = some (.ref (He.ga K "TooManyNodes"))
  g_BadKey : mg "BadKey" = some (.ref (He.ga K "BadKey"))
  g_BadQuestion : mg "BadQuestion" = some (.ref (He.ga K "BadQuestion"))
  g_TooManyActions : mg "TooManyActions" = some (.ref (He.ga K "TooManyActions"))
  g_NothingToUndo : mg "NothingToUndo" = some (.ref (He.ga K "NothingToUndo"))
  g_NothingToRedo : mg "NothingToRedo" = some (.ref (He.ga K "NothingToRedo"))
  g_NothingBack : mg "NothingBack" = some (.ref (He.ga K "NothingBack"))
  g_NothingForward : mg "NothingForward" = some (.ref (He.ga K "NothingForward"))
  g_BadState : mg "BadState" = some (.ref (He.ga K "BadState"))
  ek : ErrK K P exCs

section
variable {P : Program} {w : World} {K : PySem.W.Frag} {mg : Str → Option Value} {base : Heap}
abbrev N_law_pick : List Str := ["pool", "many", "place"]
abbrev P_law_pick : List Str := ["pool", "many"]
theorem sc_law_pick : FnScope N_law_pick P_law_pick (defScope s_law_pick) := ⟨rfl, rfl, rfl, by decide +kernel, rfl, by decide +kernel, by decide +kernel⟩
theorem ok_law_pick (T : Txt P K mg) : CallOk P w K mg base 1 "_law_pick" P_law_pick φ_law_pick := by
  obtain ⟨fd, F⟩ := T.d_law_pick
  refine ⟨⟨fd, pick_close (F.ok sc_law_pick (fun vs H Q E h => ?_) (fun cdv A outer s H vs Q E hr h => ?_)), funLook F, F.bindsA fun _ _ _ _ _ _ us hl => match us, hl with | [_, _], _ => rfl⟩, F.kp, T.g_law_pick⟩
  · obtain ⟨p, n, ns, rfl, _⟩ := h
    rfl
  · refine ⟨_, PSs.nox (pss_cons (ps_set (i := 2) sc_law_pick.nd rfl (Or.inl rfl) (pe_ix ix_list (pv 0) pe_int (fun _ _ => rfl)))
      (pss_cons (ps_asg (pe_op op_add (pv 2) pe_int) (pg_sub (pv 0) pe_int set_list))
      (pss_cons (ps_if (pt_cmpR op_eq (pe_ix ix_list (pv 0) pe_int (fun _ _ => rfl)) (pe_callB call_len rfl T.n_len PySem.boot_len (pa_cons (pv 0) pa_nil)) (nomark _))
        (pss_one (ps_asg pe_int (pg_sub (pv 0) pe_int set_list))) pss_nil)
      (pss_one (ps_ret (pe_op op_mod (pe_callTy call_int1 rfl T.n_int boot_int (pa_cons (pe_ix ix_list (pv 0) (pv 2) (fun _ _ => rfl)) pa_nil)) (pv 1))))))), ?_⟩
    exact pick_pure h

abbrev P_law_pool : List Str := ["script"]
theorem sc_law_pool : FnScope N_law_pool P_law_pool (defScope s_law_pool) := ⟨rfl, rfl, rfl, by decide +kernel, rfl, by decide +kernel, by decide +kernel⟩
theorem ok_law_pool (T : Txt P K mg) (vc : ∀ (ds : List D) (Q' : D → Prop) (E' : Nat → Prop), φ_law_pool ds Q' E' → r_law_pool (fun c _ => E' c) { nx := fun _ => Q' .non, rt := fun d _ => Q' d } (startE N_law_pool ds)) (len : ∀ ds Q E, φ_law_pool ds Q E → ds.length = 1) :
    CallOk P w K mg base 1 "_law_pool" P_law_pool φ_law_pool := by
  obtain ⟨fd, F⟩ := T.d_law_pool
  refine ⟨⟨fd, fun_ok F sc_law_pool len r_law_pool (fun cdv A outer s H E Ξ hr => ?_) vc, funLook F, F.bindsA fun _ _ _ _ _ _ us hl => match us, hl with | [_], _ => rfl⟩, F.kp, T.g_law_pool⟩
  exact (yss_cons (ys_par 1 2 rfl sc_law_pool.nd (by rfl) (by rfl) (by decide) rfl rfl (yx_n (yn_lst yl_nil)) (yx_e ye_int))
  (yss_cons (ys_for (passes_of rfl) rfl (yi_frl (ye_var 0)) (ygN 3 sc_law_pool.nd)
  (yss_cons (ysSet 4 sc_law_pool.nd (ye_bin oy_mod (ye_callTy cy_int (by rfl) T.n_int boot_int (yl_cons (ye_var 3) yl_nil)) (ye_bin oy_pow ye_int ye_int)))
  (yss_cons (ysSet 2 sc_law_pool.nd (ye_bin oy_mod (ye_callTy cy_int (by rfl) T.n_int boot_int (yl_cons (ye_bin oy_add (ye_bin oy_mulA (ye_var 2) ye_int) (ye_var 4)) yl_nil)) ye_int))
  (yss_one (ys_if (yt_cmp oy_ge (ye_var 4) (ye_bin oy_pow ye_int ye_int))
  (yss_one (ys_for (passes_of rfl) rfl (yi_range1 (by rfl) T.n_range (yl_cons ye_int yl_nil)) (ygN 5 sc_law_pool.nd)
  (yss_cons (ysApp' 1 (ye_bin oy_mod (ye_callTy cy_int (by rfl) T.n_int boot_int (yl_cons (ye_var 4) yl_nil)) ye_int))
  (yss_cons (ysSet 4 sc_law_pool.nd (ye_callTy cy_int (by rfl) T.n_int boot_int (yl_cons (ye_bin oy_fdiv (ye_var 4) ye_int) yl_nil)))
  (yss_one (ys_if (yt_cmp (oy_eq hr.units) (ye_var 4) ye_int)
  (yss_one ys_break)
  yss_nil))))))
  (yss_one (ysSetO 1 sc_law_pool.nd (yn_add (ye_var 1) (yn_lst (yl_cons (ye_bin oy_mod (ye_callTy cy_int (by rfl) T.n_int boot_int (yl_cons (ye_var 4) yl_nil)) ye_int) (yl_cons (ye_bin oy_mod (ye_callTy cy_int (by rfl) T.n_int boot_int (yl_cons (ye_bin oy_fdiv (ye_var 4) ye_int) yl_nil)) ye_int) yl_nil))).ye))))))))
  (yss_cons (ys_for (passes_of rfl) rfl (yi_range1 (by rfl) T.n_range (yl_cons ye_int yl_nil)) (ygN 5 sc_law_pool.nd)
  (yss_cons (ysSet 2 sc_law_pool.nd (ye_bin oy_mod (ye_bin oy_add (ye_bin oy_mulA (ye_var 2) ye_int) ye_int) ye_int))
  (yss_one (ysApp' 1 (ye_bin oy_mod (ye_callTy cy_int (by rfl) T.n_int boot_int (yl_cons (ye_bin oy_fdiv (ye_var 2) ye_int) yl_nil)) ye_int)))))
  (yss_one (ys_ret (ye_var 1))))))
abbrev P_law_stream : List Str := ["script"]
theorem sc_law_stream : FnScope N_law_stream P_law_stream (defScope s_law_stream) := ⟨rfl, rfl, rfl, by decide +kernel, rfl, by decide +kernel, by decide +kernel⟩
theorem ok_law_stream (T : Txt P K mg) (C_law_pool : CallOk P w K mg base 1 "_law_pool" P_law_pool φ_law_pool) (vc : ∀ (ds : List D) (Q' : D → Prop) (E' : Nat → Prop), φList ds Q' E' → r_law_stream (fun c _ => E' c) { nx := fun _ => Q' .non, rt := fun d _ => Q' d } (startE N_law_stream ds)) (len : ∀ ds Q E, φList ds Q E → ds.length = 1) :
    CallOk P w K mg base 2 "_law_stream" P_law_stream φList := by
  obtain ⟨fd, F⟩ := T.d_law_stream
  refine ⟨⟨fd, fun_ok F sc_law_stream len r_law_stream (fun cdv A outer s H E Ξ hr => ?_) vc, funLook F, F.bindsA fun _ _ _ _ _ _ us hl => match us, hl with | [_], _ => rfl⟩, F.kp, T.g_law_stream⟩
  exact (yss_one (ys_ret (ye_bin oy_add (yn_lst (yl_cons ye_int yl_nil)).ye (yeCall C_law_pool (takes_of rfl rfl rfl rfl) (hr.mono (by decide)) (yl_cons (ye_var 0) yl_nil)))))
abbrev P_law_key : List Str := ["pool"]
theorem sc_law_key : FnScope N_law_key P_law_key (defScope s_law_key) := ⟨rfl, rfl, rfl, by decide +kernel, rfl, by decide +kernel, by decide +kernel⟩
theorem ok_law_key (T : Txt P K mg) (C_law_pick : CallOk P w K mg base 1 "_law_pick" P_law_pick φ_law_pick) (vc : ∀ (ds : List D) (Q' : D → Prop) (E' : Nat → Prop), φ_law_key ds Q' E' → r_law_key (fun c _ => E' c) { nx := fun _ => Q' .non, rt := fun d _ => Q' d } (startE N_law_key ds)) (len : ∀ ds Q E, φ_law_key ds Q E → ds.length = 1) :
    CallOk P w K mg base 2 "_law_key" P_law_key φ_law_key := by
  obtain ⟨fd, F⟩ := T.d_law_key
  refine ⟨⟨fd, fun_ok F sc_law_key len r_law_key (fun cdv A outer s H E Ξ hr => ?_) vc, funLook F, F.bindsA fun _ _ _ _ _ _ us hl => match us, hl with | [_], _ => rfl⟩, F.kp, T.g_law_key⟩
  exact (yss_cons (ysSet 1 sc_law_key.nd (yn_lst (yl_cons ye_str (yl_cons ye_str (yl_cons ye_str (yl_cons ye_str (yl_cons ye_str (yl_cons ye_str (yl_cons ye_str (yl_cons ye_str (yl_cons ye_str (yl_cons ye_str (yl_cons ye_str (yl_cons ye_str yl_nil))))))))))))).ye)
  (yss_cons (ys_if (yt_cmp (oy_eq hr.units) (yeCall C_law_pick (takes_of rfl rfl rfl rfl) (hr.mono (by decide)) (yl_cons (ye_var 0) (yl_cons ye_int yl_nil))) ye_int)
  (yss_one (ys_ret (ye_joinC (yn_lc (own := [(("k" : Str), 2)]) rfl sc_law_key.nd (yi_range1 (by rfl) T.n_range (yl_cons (yeCall C_law_pick (takes_of rfl rfl rfl rfl) (hr.mono (by decide)) (yl_cons (ye_var 0) (yl_cons ye_int yl_nil))) yl_nil)) (blkOk_by (by rfl)) (fun _ _ _ _ _ => (ygN 2 sc_law_key.nd)) (fun _ _ _ _ _ => yts_nil) (fun _ _ _ _ _ => (ye_ix ye_str (yeCall C_law_pick takes0 (hr.mono (by decide)) (yl_cons (ye_var 0) (yl_cons ye_int yl_nil)))))).ye)))
  yss_nil)
  (yss_one (ys_ret (ye_ix (ye_var 1) (yeCall C_law_pick (takes_of rfl rfl rfl rfl) (hr.mono (by decide)) (yl_cons (ye_var 0) (yl_cons ye_int yl_nil))))))))
abbrev P_law_made : List Str := ["key"]
theorem sc_law_made : FnScope N_law_made P_law_made (defScope s_law_made) := ⟨rfl, rfl, rfl, by decide +kernel, rfl, by decide +kernel, by decide +kernel⟩
theorem ok_law_made (T : Txt P K mg) (vc : ∀ (ds : List D) (Q' : D → Prop) (E' : Nat → Prop), φ_law_made ds Q' E' → r_law_made (fun c _ => E' c) { nx := fun _ => Q' .non, rt := fun d _ => Q' d } (startE N_law_made ds)) (len : ∀ ds Q E, φ_law_made ds Q E → ds.length = 1) :
    CallOk P w K mg base 3 "_law_made" P_law_made φ_law_made := by
  obtain ⟨fd, F⟩ := T.d_law_made
  refine ⟨⟨fd, fun_ok F sc_law_made len r_law_made (fun cdv A outer s H E Ξ hr => ?_) vc, funLook F, F.bindsA fun _ _ _ _ _ _ us hl => match us, hl with | [_], _ => rfl⟩, F.kp, T.g_law_made⟩
  exact (yss_cons (ysSet 1 sc_law_made.nd (yn_lst (yl_cons (ye_err 1 T.ek (by decide) (by decide) rfl T.g_BadText (by rfl)) (yl_cons (ye_err 2 T.ek (by decide) (by decide) rfl T.g_BadTree (by rfl)) (yl_cons (ye_err 3 T.ek (by decide) (by decide) rfl T.g_BadSplice (by rfl)) (yl_cons (ye_err 4 T.ek (by decide) (by decide) rfl T.g_BadDeed (by rfl)) (yl_cons (ye_err 5 T.ek (by decide) (by decide) rfl T.g_BadPlace (by rfl)) (yl_cons (ye_err 6 T.ek (by decide) (by decide) rfl T.g_BadSelector (by rfl)) (yl_cons (ye_err 7 T.ek (by decide) (by decide) rfl T.g_BadName (by rfl)) (yl_cons (ye_err 8 T.ek (by decide) (by decide) rfl T.g_BadValue (by rfl)) (yl_cons (ye_err 9 T.ek (by decide) (by decide) rfl T.g_BadPieces (by rfl)) yl_nil)))))))))).ye)
  (yss_cons (ysSet 1 sc_law_made.nd (ye_bin oy_add (ye_var 1) (yn_lst (yl_cons (ye_err 10 T.ek (by decide) (by decide) rfl T.g_BadList (by rfl)) (yl_cons (ye_err 11 T.ek (by decide) (by decide) rfl T.g_BadMarks (by rfl)) (yl_cons (ye_err 12 T.ek (by decide) (by decide) rfl T.g_BadParts (by rfl)) (yl_cons (ye_err 13 T.ek (by decide) (by decide) rfl T.g_BadCell (by rfl)) (yl_cons (ye_err 14 T.ek (by decide) (by decide) rfl T.g_BadRow (by rfl)) (yl_cons (ye_err 15 T.ek (by decide) (by decide) rfl T.g_NoNode (by rfl)) (yl_cons (ye_err 16 T.ek (by decide) (by decide) rfl T.g_NoBox (by rfl)) (yl_cons (ye_err 17 T.ek (by decide) (by decide) rfl T.g_NoPage (by rfl)) (yl_cons (ye_err 18 T.ek (by decide) (by decide) rfl T.g_NotPlain (by rfl)) yl_nil)))))))))).ye))
  (yss_cons (ysSet 1 sc_law_made.nd (ye_bin oy_add (ye_var 1) (yn_lst (yl_cons (ye_err 19 T.ek (by decide) (by decide) rfl T.g_TooLong (by rfl)) (yl_cons (ye_err 20 T.ek (by decide) (by decide) rfl T.g_TooManyNodes (by rfl)) (yl_cons (ye_err 23 T.ek (by decide) (by decide) rfl T.g_TooManyActions (by rfl)) (yl_cons (ye_err 21 T.ek (by decide) (by decide) rfl T.g_BadKey (by rfl)) (yl_cons (ye_err 22 T.ek (by decide) (by decide) rfl T.g_BadQuestion (by rfl)) (yl_cons (ye_err 24 T.ek (by decide) (by decide) rfl T.g_NothingToUndo (by rfl)) (yl_cons (ye_err 25 T.ek (by decide) (by decide) rfl T.g_NothingToRedo (by rfl)) (yl_cons (ye_err 26 T.ek (by decide) (by decide) rfl T.g_NothingBack (by rfl)) (yl_cons (ye_err 27 T.ek (by decide) (by decide) rfl T.g_NothingForward (by rfl)) yl_nil)))))))))).ye))
  (yss_one (ys_ret (ye_bin oy_add (ye_var 1) (yn_lst (yl_cons (ye_bs (n := 0) T.ek (by decide) (hr.mono (by decide)) rfl T.g_BadState (by rfl) (ye_var 0)) yl_nil)).ye))))))
abbrev P_law_kinds : List Str := ["error"]
theorem sc_law_kinds : FnScope N_law_kinds P_law_kinds (defScope s_law_kinds) := ⟨rfl, rfl, rfl, by decide +kernel, rfl, by decide +kernel, by decide +kernel⟩
theorem ok_law_kinds (T : Txt P K mg) (vc : ∀ (ds : List D) (Q' : D → Prop) (E' : Nat → Prop), φ_law_kinds ds Q' E' → r_law_kinds (fun c _ => E' c) { nx := fun _ => Q' .non, rt := fun d _ => Q' d } (startE N_law_kinds ds)) (len : ∀ ds Q E, φ_law_kinds ds Q E → ds.length = 1) :
    CallOk P w K mg base 1 "_law_kinds" P_law_kinds φ_law_kinds := by
  obtain ⟨fd, F⟩ := T.d_law_kinds
  refine ⟨⟨fd, fun_ok F sc_law_kinds len r_law_kinds (fun cdv A outer s H E Ξ hr => ?_) vc, funLook F, F.bindsA fun _ _ _ _ _ _ us hl => match us, hl with | [_], _ => rfl⟩, F.kp, T.g_law_kinds⟩
  exact (yss_cons (ysSet 1 sc_law_kinds.nd (yn_lst (yl_cons (ye_isO 1 T.ek (ye_var 0) (by decide) T.g_BadText (by rfl) (by rfl) T.n_isinstance) (yl_cons (ye_isO 2 T.ek (ye_var 0) (by decide) T.g_BadTree (by rfl) (by rfl) T.n_isinstance) (yl_cons (ye_isO 3 T.ek (ye_var 0) (by decide) T.g_BadSplice (by rfl) (by rfl) T.n_isinstance) (yl_cons (ye_isO 4 T.ek (ye_var 0) (by decide) T.g_BadDeed (by rfl) (by rfl) T.n_isinstance) yl_nil))))).ye)
  (yss_cons (ysSet 1 sc_law_kinds.nd (ye_bin oy_add (ye_var 1) (yn_lst (yl_cons (ye_isO 5 T.ek (ye_var 0) (by decide) T.g_BadPlace (by rfl) (by rfl) T.n_isinstance) (yl_cons (ye_isO 6 T.ek (ye_var 0) (by decide) T.g_BadSelector (by rfl) (by rfl) T.n_isinstance) (yl_cons (ye_isO 7 T.ek (ye_var 0) (by decide) T.g_BadName (by rfl) (by rfl) T.n_isinstance) (yl_cons (ye_isO 8 T.ek (ye_var 0) (by decide) T.g_BadValue (by rfl) (by rfl) T.n_isinstance) yl_nil))))).ye))
  (yss_cons (ysSet 1 sc_law_kinds.nd (ye_bin oy_add (ye_var 1) (yn_lst (yl_cons (ye_isO 9 T.ek (ye_var 0) (by decide) T.g_BadPieces (by rfl) (by rfl) T.n_isinstance) (yl_cons (ye_isO 10 T.ek (ye_var 0) (by decide) T.g_BadList (by rfl) (by rfl) T.n_isinstance) (yl_cons (ye_isO 11 T.ek (ye_var 0) (by decide) T.g_BadMarks (by rfl) (by rfl) T.n_isinstance) (yl_cons (ye_isO 12 T.ek (ye_var 0) (by decide) T.g_BadParts (by rfl) (by rfl) T.n_isinstance) yl_nil))))).ye))
  (yss_cons (ysSet 1 sc_law_kinds.nd (ye_bin oy_add (ye_var 1) (yn_lst (yl_cons (ye_isO 13 T.ek (ye_var 0) (by decide) T.g_BadCell (by rfl) (by rfl) T.n_isinstance) (yl_cons (ye_isO 14 T.ek (ye_var 0) (by decide) T.g_BadRow (by rfl) (by rfl) T.n_isinstance) (yl_cons (ye_isO 15 T.ek (ye_var 0) (by decide) T.g_NoNode (by rfl) (by rfl) T.n_isinstance) (yl_cons (ye_isO 16 T.ek (ye_var 0) (by decide) T.g_NoBox (by rfl) (by rfl) T.n_isinstance) yl_nil))))).ye))
  (yss_cons (ysSet 1 sc_law_kinds.nd (ye_bin oy_add (ye_var 1) (yn_lst (yl_cons (ye_isO 17 T.ek (ye_var 0) (by decide) T.g_NoPage (by rfl) (by rfl) T.n_isinstance) (yl_cons (ye_isO 18 T.ek (ye_var 0) (by decide) T.g_NotPlain (by rfl) (by rfl) T.n_isinstance) (yl_cons (ye_isO 19 T.ek (ye_var 0) (by decide) T.g_TooLong (by rfl) (by rfl) T.n_isinstance) (yl_cons (ye_isO 20 T.ek (ye_var 0) (by decide) T.g_TooManyNodes (by rfl) (by rfl) T.n_isinstance) yl_nil))))).ye))
  (yss_cons (ysSet 1 sc_law_kinds.nd (ye_bin oy_add (ye_var 1) (yn_lst (yl_cons (ye_isO 23 T.ek (ye_var 0) (by decide) T.g_TooManyActions (by rfl) (by rfl) T.n_isinstance) (yl_cons (ye_isO 21 T.ek (ye_var 0) (by decide) T.g_BadKey (by rfl) (by rfl) T.n_isinstance) (yl_cons (ye_isO 22 T.ek (ye_var 0) (by decide) T.g_BadQuestion (by rfl) (by rfl) T.n_isinstance) (yl_cons (ye_isO 24 T.ek (ye_var 0) (by decide) T.g_NothingToUndo (by rfl) (by rfl) T.n_isinstance) yl_nil))))).ye))
  (yss_cons (ysSet 1 sc_law_kinds.nd (ye_bin oy_add (ye_var 1) (yn_lst (yl_cons (ye_isO 25 T.ek (ye_var 0) (by decide) T.g_NothingToRedo (by rfl) (by rfl) T.n_isinstance) (yl_cons (ye_isO 26 T.ek (ye_var 0) (by decide) T.g_NothingBack (by rfl) (by rfl) T.n_isinstance) (yl_cons (ye_isO 27 T.ek (ye_var 0) (by decide) T.g_NothingForward (by rfl) (by rfl) T.n_isinstance) (yl_cons (ye_isO 28 T.ek (ye_var 0) (by decide) T.g_BadState (by rfl) (by rfl) T.n_isinstance) yl_nil))))).ye))
  (yss_one (ys_ret (ye_var 1))))))))))
abbrev P_law_narrower : List Str := ["error"]
theorem sc_law_narrower : FnScope N_law_narrower P_law_narrower (defScope s_law_narrower) := ⟨rfl, rfl, rfl, by decide +kernel, rfl, by decide +kernel, by decide +kernel⟩
theorem ok_law_narrower (T : Txt P K mg) (vc : ∀ (ds : List D) (Q' : D → Prop) (E' : Nat → Prop), φ_law_narrower ds Q' E' → r_law_narrower (fun c _ => E' c) { nx := fun _ => Q' .non, rt := fun d _ => Q' d } (startE N_law_narrower ds)) (len : ∀ ds Q E, φ_law_narrower ds Q E → ds.length = 1) :
    CallOk P w K mg base 1 "_law_narrower" P_law_narrower φ_law_narrower := by
  obtain ⟨fd, F⟩ := T.d_law_narrower
  refine ⟨⟨fd, fun_ok F sc_law_narrower len r_law_narrower (fun cdv A outer s H E Ξ hr => ?_) vc, funLook F, F.bindsA fun _ _ _ _ _ _ us hl => match us, hl with | [_], _ => rfl⟩, F.kp, T.g_law_narrower⟩
  exact (yss_cons (ysSet 1 sc_law_narrower.nd (ye_or (ye_isB "ValueError" T.ek (ye_var 0) (by decide) (peTy T.n_ValueError boot_ValueError) (by rfl) T.n_isinstance) (ye_or (ye_isB "LookupError" T.ek (ye_var 0) (by decide) (peTy T.n_LookupError boot_LookupError) (by rfl) T.n_isinstance) (ye_one (ye_isB "ArithmeticError" T.ek (ye_var 0) (by decide) (peTy T.n_ArithmeticError boot_ArithmeticError) (by rfl) T.n_isinstance)))))
  (yss_one (ys_ret (ye_or (ye_var 1) (ye_or (ye_isB "TypeError" T.ek (ye_var 0) (by decide) (peTy T.n_TypeError boot_TypeError) (by rfl) T.n_isinstance) (ye_one (ye_isB "RuntimeError" T.ek (ye_var 0) (by decide) (peTy T.n_RuntimeError boot_RuntimeError) (by rfl) T.n_isinstance)))))))
abbrev P_law : List Str := ["script"]
theorem sc_law : FnScope N_law P_law (defScope s_law) := ⟨rfl, rfl, rfl, by decide +kernel, rfl, by decide +kernel, by decide +kernel⟩
theorem ok_law (T : Txt P K mg) (C_law_stream : CallOk P w K mg base 2 "_law_stream" P_law_stream φ_law_stream) (C_law_key : CallOk P w K mg base 2 "_law_key" P_law_key φ_law_key) (C_law_made : CallOk P w K mg base 3 "_law_made" P_law_made φ_law_made) (C_law_narrower : CallOk P w K mg base 1 "_law_narrower" P_law_narrower φ_law_narrower) (C_law_kinds : CallOk P w K mg base 1 "_law_kinds" P_law_kinds φ_law_kinds) (vc : ∀ (ds : List D) (Q' : D → Prop) (E' : Nat → Prop), φ_law ds Q' E' → r_law (fun c _ => E' c) { nx := fun _ => Q' .non, rt := fun d _ => Q' d } (startE N_law ds)) (len : ∀ ds Q E, φ_law ds Q E → ds.length = 1) :
    CallOk P w K mg base 4 "law" P_law φ_law := by
  obtain ⟨fd, F⟩ := T.d_law
  refine ⟨⟨fd, fun_ok F sc_law len r_law (fun cdv A outer s H E Ξ hr => ?_) vc, funLook F, F.bindsA fun _ _ _ _ _ _ us hl => match us, hl with | [_], _ => rfl⟩, F.kp, T.g_law⟩
  exact (yss_cons (ysSet 1 sc_law.nd (yeCall C_law_stream (takes_of rfl rfl rfl rfl) (hr.mono (by decide)) (yl_cons (ye_var 0) yl_nil)))
  (yss_cons (ys_par 2 3 rfl sc_law.nd (by rfl) (by rfl) (by decide) rfl rfl (yx_e (yeCall C_law_key (takes_of rfl rfl rfl rfl) (hr.mono (by decide)) (yl_cons (ye_var 1) yl_nil))) (yx_e (yeCall C_law_key (takes_of rfl rfl rfl rfl) (hr.mono (by decide)) (yl_cons (ye_var 1) yl_nil))))
  (yss_cons (ys_par 4 5 rfl sc_law.nd (by rfl) (by rfl) (by decide) rfl rfl (yx_e (yeCall C_law_made (takes_of rfl rfl rfl rfl) (hr.mono (by decide)) (yl_cons (ye_var 2) yl_nil))) (yx_e (yeCall C_law_made (takes_of rfl rfl rfl rfl) (hr.mono (by decide)) (yl_cons (ye_var 3) yl_nil))))
  (yss_cons (ys_for (passes_of rfl) rfl (yi_seq (yn_lst (yl_cons (ye_var 4) (yl_cons (ye_var 5) yl_nil))).ye) (ygN 6 sc_law.nd)
  (yss_one (ys_for (passes_of rfl) rfl (yi_range1 (by rfl) T.n_range (yl_cons (ye_callB cy_len (by rfl) T.n_len PySem.boot_len (yl_cons (ye_var 6) yl_nil)) yl_nil)) (ygN 7 sc_law.nd)
  (yss_cons (ys_if (YW.yt (yw_or (yt_not (yt_tru (ye_isO 0 T.ek (ye_ix (ye_var 6) (ye_var 7)) (by decide) T.g_PageError (by rfl) (by rfl) T.n_isinstance))) (yw_or (yt_not (yt_tru (ye_isB "Exception" T.ek (ye_ix (ye_var 6) (ye_var 7)) (by decide) (peTy T.n_Exception boot_Exception) (by rfl) T.n_isinstance))) (yw_or1 (yt_tru (yeCall C_law_narrower (takes_of rfl rfl rfl rfl) (hr.mono (by decide)) (yl_cons (ye_ix (ye_var 6) (ye_var 7)) yl_nil)))))))
  (yss_one (ys_ret ye_bl))
  yss_nil)
  (yss_cons (ysSet 8 sc_law.nd (yeCall C_law_kinds (takes_of rfl rfl rfl rfl) (hr.mono (by decide)) (yl_cons (ye_ix (ye_var 6) (ye_var 7)) yl_nil)))
  (yss_one (ys_if (YW.yt (yw_or (yt_cmp (oy_ne hr.units) (ye_callB cy_len (by rfl) T.n_len PySem.boot_len (yl_cons (yn_lc (own := [(("kind" : Str), 12)]) rfl sc_law.nd (yi_seq (ye_var 8)) (blkOk_by (by rfl)) (fun _ _ _ _ _ => (ygN 12 sc_law.nd)) (fun _ _ _ _ _ => (yts_one (yt_tru (ye_var 12)))) (fun _ _ _ _ _ => ye_int)).ye yl_nil)) ye_int) (yw_or1 (yt_not (yt_tru (ye_ix (ye_var 8) (ye_var 7)))))))
  (yss_one (ys_ret ye_bl))
  yss_nil)))))))
  (yss_cons (ys_for (passes_of rfl) rfl (yi_seq (yn_lst (yl_cons (ye_tup (yl_cons (ye_ix (ye_var 4) (ye_bin oy_sub (ye_callB cy_len (by rfl) T.n_len PySem.boot_len (yl_cons (ye_var 4) yl_nil)) ye_int)) (yl_cons (ye_var 2) yl_nil))) (yl_cons (ye_tup (yl_cons (ye_ix (ye_var 5) (ye_bin oy_sub (ye_callB cy_len (by rfl) T.n_len PySem.boot_len (yl_cons (ye_var 5) yl_nil)) ye_int)) (yl_cons (ye_var 3) yl_nil))) yl_nil))).ye) (yg_tup rfl (ygs_cons (ygN 9 sc_law.nd) (ygs_cons (ygN 10 sc_law.nd) ygs_nil)))
  (yss_one (ys_if (YW.yt (yw_or (yt_not (yt_tru (ye_isA .str (ye_key T.ek (by decide) (ye_var 9)) (peTy T.n_str boot_str) (by rfl) T.n_isinstance))) (yw_or1 (yt_cmp (oy_ne hr.units) (ye_key T.ek (by decide) (ye_var 9)) (ye_var 10)))))
  (yss_one (ys_ret ye_bl))
  yss_nil)))
  (yss_cons (ysSet 11 sc_law.nd (ye_err 0 T.ek (by decide) (by decide) rfl T.g_PageError (by rfl)))
  (yss_one (ys_ret (ye_and (ye_isB "Exception" T.ek (ye_var 11) (by decide) (peTy T.n_Exception boot_Exception) (by rfl) T.n_isinstance) (ye_and (ye_not (ye_callB (cy_any rfl) (by rfl) T.n_any boot_any (yl_cons (yeCall C_law_kinds (takes_of rfl rfl rfl rfl) (hr.mono (by decide)) (yl_cons (ye_var 11) yl_nil)) yl_nil))) (ye_one (ye_not (yeCall C_law_narrower (takes_of rfl rfl rfl rfl) (hr.mono (by decide)) (yl_cons (ye_var 11) yl_nil))))))))))))))
end
end PL.K00

set_option Elab.async false
set_option linter.all false
set_option autoImplicit false
set_option maxRecDepth 100000
set_option maxHeartbeats 2000000
namespace PL.K00
open PySem PySem.Spec PyProof.Rows L2 PX
def fa : List He.Fa := [.glo "_law_pool",
  .glo "_law_stream",
  .glo "_law_pick",
  .glo "_law_key",
  .glo "_law_made",
  .glo "_law_kinds",
  .glo "_law_narrower",
  .glo "law",
  .free "ArithmeticError",
  .free "Exception",
  .free "LookupError",
  .free "RuntimeError",
  .free "TypeError",
  .free "ValueError",
  .free "any",
  .free "int",
  .free "isinstance",
  .free "len",
  .free "range",
  .free "str",
  .glo "PageError",
  .glo "BadText",
  .glo "BadTree",
  .glo "BadSplice",
  .glo "BadDeed",
  .glo "BadPlace",
  .glo "BadSelector",
  .glo "BadName",
  .glo "BadValue",
  .glo "BadPieces",
  .glo "BadList",
  .glo "BadMarks",
  .glo "BadParts",
  .glo "BadCell",
  .glo "BadRow",
  .glo "NoNode",
  .glo "NoBox",
  .glo "NoPage",
  .glo "NotPlain",
  .glo "TooLong",
  .glo "TooManyNodes",
  .glo "BadKey",
  .glo "BadQuestion",
  .glo "TooManyActions",
  .glo "NothingToUndo",
  .glo "NothingToRedo",
  .glo "NothingBack",
  .glo "NothingForward",
  .glo "BadState"]
def fn : List He.DefD := [⟨("_law_pool", none), "_law_pool", "_law_pool", defArgs s_law_pool, defBody s_law_pool, defScope s_law_pool, [], []⟩,
  ⟨("_law_stream", none), "_law_stream", "_law_stream", defArgs s_law_stream, defBody s_law_stream, defScope s_law_stream, [], []⟩,
  ⟨("_law_pick", none), "_law_pick", "_law_pick", defArgs s_law_pick, defBody s_law_pick, defScope s_law_pick, [], []⟩,
  ⟨("_law_key", none), "_law_key", "_law_key", defArgs s_law_key, defBody s_law_key, defScope s_law_key, [], []⟩,
  ⟨("_law_made", none), "_law_made", "_law_made", defArgs s_law_made, defBody s_law_made, defScope s_law_made, [], []⟩,
  ⟨("_law_kinds", none), "_law_kinds", "_law_kinds", defArgs s_law_kinds, defBody s_law_kinds, defScope s_law_kinds, [], []⟩,
  ⟨("_law_narrower", none), "_law_narrower", "_law_narrower", defArgs s_law_narrower, defBody s_law_narrower, defScope s_law_narrower, [], []⟩,
  ⟨("law", none), "law", "law", defArgs s_law, defBody s_law, defScope s_law, [], []⟩]
def loose0 : List Str := ["PageError",
  "BadText",
  "BadTree",
  "BadSplice",
  "BadDeed",
  "BadPlace",
  "BadSelector",
  "BadName",
  "BadValue",
  "BadPieces",
  "BadList",
  "BadMarks",
  "BadParts",
  "BadCell",
  "BadRow",
  "NoNode",
  "NoBox",
  "NoPage",
  "NotPlain",
  "TooLong",
  "TooManyNodes",
  "BadKey",
  "BadQuestion",
  "TooManyActions",
  "NothingToUndo",
  "NothingToRedo",
  "NothingBack",
  "NothingForward",
  "BadState",
  "_law_pool"]
def loose1 : List Str := ["_law_stream",
  "_law_pick",
  "_law_key",
  "_law_made",
  "_law_kinds",
  "_law_narrower"]
def loose : List Str := loose0 ++ loose1
abbrev R : PySem.W.OpenRow := PySem.W.OpenLaw.row PySem.Challenge.rw_pageseen_k00_errors_stand_apart
abbrev hk : PySem.W.Hook := hookY 6 fa fn (errB PySem.Challenge.rw_pageseen_k00_errors_stand_apart.prog exCs)
def ob (s : PySem.W.SharedT) : AlY := obsY 6 fa fn (errB PySem.Challenge.rw_pageseen_k00_errors_stand_apart.prog exCs) (HandSHeadRun.getT s)
theorem ob_eq (s : PySem.W.SharedT) : ob s = hk.obs s.abs := obsY_eq (HandSHeadRun.getT_eq s)
set_option maxHeartbeats 0
theorem run (w : World) : HandSHeadRun.RunEq R (PySem.W.view R.prog [38]) hk ob 20000 loose w := by
  intro os
  kernel_rfl
theorem txt {K : PySem.W.Frag} {h : Heap} {mg : Str → Option Value} {w : World} (X : K.In h) (G : h.Ns mainGlobals mg) (c : He.SaysT fa fn [] w K ∧ errB PySem.Challenge.rw_pageseen_k00_errors_stand_apart.prog exCs K = true) : Txt PySem.Challenge.rw_pageseen_k00_errors_stand_apart.prog K mg where
  g_law_pool := He.glo_ok X G (c.1.d.fact 0 (f := .glo "_law_pool") rfl)
  d_law_pool := c.1.d.def_ 0 rfl
  g_law_stream := He.glo_ok X G (c.1.d.fact 1 (f := .glo "_law_stream") rfl)
  d_law_stream := c.1.d.def_ 1 rfl
  g_law_pick := He.glo_ok X G (c.1.d.fact 2 (f := .glo "_law_pick") rfl)
  d_law_pick := c.1.d.def_ 2 rfl
  g_law_key := He.glo_ok X G (c.1.d.fact 3 (f := .glo "_law_key") rfl)
  d_law_key := c.1.d.def_ 3 rfl
  g_law_made := He.glo_ok X G (c.1.d.fact 4 (f := .glo "_law_made") rfl)
  d_law_made := c.1.d.def_ 4 rfl
  g_law_kinds := He.glo_ok X G (c.1.d.fact 5 (f := .glo "_law_kinds") rfl)
  d_law_kinds := c.1.d.def_ 5 rfl
  g_law_narrower := He.glo_ok X G (c.1.d.fact 6 (f := .glo "_law_narrower") rfl)
  d_law_narrower := c.1.d.def_ 6 rfl
  g_law := He.glo_ok X G (c.1.d.fact 7 (f := .glo "law") rfl)
  d_law := c.1.d.def_ 7 rfl
  n_ArithmeticError := He.free_ok X G (c.1.d.fact 8 (f := .free "ArithmeticError") rfl)
  n_Exception := He.free_ok X G (c.1.d.fact 9 (f := .free "Exception") rfl)
  n_LookupError := He.free_ok X G (c.1.d.fact 10 (f := .free "LookupError") rfl)
  n_RuntimeError := He.free_ok X G (c.1.d.fact 11 (f := .free "RuntimeError") rfl)
  n_TypeError := He.free_ok X G (c.1.d.fact 12 (f := .free "TypeError") rfl)
  n_ValueError := He.free_ok X G (c.1.d.fact 13 (f := .free "ValueError") rfl)
  n_any := He.free_ok X G (c.1.d.fact 14 (f := .free "any") rfl)
  n_int := He.free_ok X G (c.1.d.fact 15 (f := .free "int") rfl)
  n_isinstance := He.free_ok X G (c.1.d.fact 16 (f := .free "isinstance") rfl)
  n_len := He.free_ok X G (c.1.d.fact 17 (f := .free "len") rfl)
  n_range := He.free_ok X G (c.1.d.fact 18 (f := .free "range") rfl)
  n_str := He.free_ok X G (c.1.d.fact 19 (f := .free "str") rfl)
  g_PageError := He.glo_ok X G (c.1.d.fact 20 (f := .glo "PageError") rfl)
  g_BadText := He.glo_ok X G (c.1.d.fact 21 (f := .glo "BadText") rfl)
  g_BadTree := He.glo_ok X G (c.1.d.fact 22 (f := .glo "BadTree") rfl)
  g_BadSplice := He.glo_ok X G (c.1.d.fact 23 (f := .glo "BadSplice") rfl)
  g_BadDeed := He.glo_ok X G (c.1.d.fact 24 (f := .glo "BadDeed") rfl)
  g_BadPlace := He.glo_ok X G (c.1.d.fact 25 (f := .glo "BadPlace") rfl)
  g_BadSelector := He.glo_ok X G (c.1.d.fact 26 (f := .glo "BadSelector") rfl)
  g_BadName := He.glo_ok X G (c.1.d.fact 27 (f := .glo "BadName") rfl)
  g_BadValue := He.glo_ok X G (c.1.d.fact 28 (f := .glo "BadValue") rfl)
  g_BadPieces := He.glo_ok X G (c.1.d.fact 29 (f := .glo "BadPieces") rfl)
  g_BadList := He.glo_ok X G (c.1.d.fact 30 (f := .glo "BadList") rfl)
  g_BadMarks := He.glo_ok X G (c.1.d.fact 31 (f := .glo "BadMarks") rfl)
  g_BadParts := He.glo_ok X G (c.1.d.fact 32 (f := .glo "BadParts") rfl)
  g_BadCell := He.glo_ok X G (c.1.d.fact 33 (f := .glo "BadCell") rfl)
  g_BadRow := He.glo_ok X G (c.1.d.fact 34 (f := .glo "BadRow") rfl)
  g_NoNode := He.glo_ok X G (c.1.d.fact 35 (f := .glo "NoNode") rfl)
  g_NoBox := He.glo_ok X G (c.1.d.fact 36 (f := .glo "NoBox") rfl)
  g_NoPage := He.glo_ok X G (c.1.d.fact 37 (f := .glo "NoPage") rfl)
  g_NotPlain := He.glo_ok X G (c.1.d.fact 38 (f := .glo "NotPlain") rfl)
  g_TooLong := He.glo_ok X G (c.1.d.fact 39 (f := .glo "TooLong") rfl)
  g_TooManyNodes := He.glo_ok X G (c.1.d.fact 40 (f := .glo "TooManyNodes") rfl)
  g_BadKey := He.glo_ok X G (c.1.d.fact 41 (f := .glo "BadKey") rfl)
  g_BadQuestion := He.glo_ok X G (c.1.d.fact 42 (f := .glo "BadQuestion") rfl)
  g_TooManyActions := He.glo_ok X G (c.1.d.fact 43 (f := .glo "TooManyActions") rfl)
  g_NothingToUndo := He.glo_ok X G (c.1.d.fact 44 (f := .glo "NothingToUndo") rfl)
  g_NothingToRedo := He.glo_ok X G (c.1.d.fact 45 (f := .glo "NothingToRedo") rfl)
  g_NothingBack := He.glo_ok X G (c.1.d.fact 46 (f := .glo "NothingBack") rfl)
  g_NothingForward := He.glo_ok X G (c.1.d.fact 47 (f := .glo "NothingForward") rfl)
  g_BadState := He.glo_ok X G (c.1.d.fact 48 (f := .glo "BadState") rfl)
  ek := errB_ok c.2
/-! how many -/
theorem len_law_stream (ds : List D) (Q : D → Prop) (E : Nat → Prop) (h : φList ds Q E) : ds.length = 1 := by
  unfold φList at h
  split at h <;> first | rfl | exact h.elim
theorem len_law_key (ds : List D) (Q : D → Prop) (E : Nat → Prop) (h : φ_law_key ds Q E) : ds.length = 1 := by
  unfold φ_law_key at h
  split at h <;> first | rfl | exact h.elim
theorem len_law_made (ds : List D) (Q : D → Prop) (E : Nat → Prop) (h : φ_law_made ds Q E) : ds.length = 1 := by
  unfold φ_law_made at h
  split at h <;> first | rfl | exact h.elim
theorem len_law_kinds (ds : List D) (Q : D → Prop) (E : Nat → Prop) (h : φ_law_kinds ds Q E) : ds.length = 1 := by
  unfold φ_law_kinds at h
  split at h <;> first | rfl | exact h.elim
theorem len_law_narrower (ds : List D) (Q : D → Prop) (E : Nat → Prop) (h : φ_law_narrower ds Q E) : ds.length = 1 := by
  unfold φ_law_narrower at h
  split at h <;> first | rfl | exact h.elim
theorem len_law (ds : List D) (Q : D → Prop) (E : Nat → Prop) (h : φ_law ds Q E) : ds.length = 1 := by
  unfold φ_law φLaw at h
  split at h <;> first | rfl | exact h.elim
theorem all {P : Program} {w : World} {K : PySem.W.Frag} {mg : Str → Option Value} (T : Txt P K mg) (base : Heap) : CallOk P w K mg base 4 "law" ["script"] φLaw := by
  have C_law_pick := ok_law_pick (P := P) (w := w) (base := base) T
  have C_law_pool := ok_law_pool (P := P) (w := w) (base := base) T vc_law_pool len_law_pool
  have C_law_stream := ok_law_stream (P := P) (w := w) (base := base) T C_law_pool vc_law_stream len_law_stream
  have C_law_stream := C_law_stream.stream
  have C_law_key := ok_law_key (P := P) (w := w) (base := base) T C_law_pick vc_law_key len_law_key
  have C_law_made := ok_law_made (P := P) (w := w) (base := base) T vc_law_made len_law_made
  have C_law_kinds := ok_law_kinds (P := P) (w := w) (base := base) T vc_law_kinds len_law_kinds
  have C_law_narrower := ok_law_narrower (P := P) (w := w) (base := base) T vc_law_narrower len_law_narrower
  have C_law := ok_law (P := P) (w := w) (base := base) T C_law_stream C_law_key C_law_made C_law_narrower C_law_kinds vc_law len_law
  exact C_law
end PL.K00
open PySem PySem.W PySem.Calls PyProof.Rows
set_option maxHeartbeats 0
theorem PySem.Challenge.cw_pageseen_k00_errors_stand_apart_holds : PySem.Challenge.rw_pageseen_k00_errors_stand_apart.Holds := by
  w_on; o_law
  refine HandSHeadRun.head_any (r := OpenLaw.row PySem.Challenge.rw_pageseen_k00_errors_stand_apart) (q := view (OpenLaw.row PySem.Challenge.rw_pageseen_k00_errors_stand_apart).prog [38]) (H := PL.K00.hk) (ob := PL.K00.ob) (M := 20000) (loose := PL.K00.loose) (d := HandSHeadRun.topDef (OpenLaw.row PySem.Challenge.rw_pageseen_k00_errors_stand_apart).prog 38) (kwd := []) PL.K00.ob_eq
    (by kernel_rfl) (fun s => by kernel_rfl) PL.K00.run (by kernel_rfl) (by kernel_rfl) (by kernel_rfl) (by rfl) (by first | assumption | decide +kernel) (by decide +kernel) ⟨rfl, rfl, rfl, rfl, rfl, by decide +kernel⟩ ?hw ?hc
  case hw => w_witness2
  case hc =>
    refine PL.walk_ofP (l := PySem.Challenge.rw_pageseen_k00_errors_stand_apart) (k := 4) rfl (by kernel_rfl) ⟨rfl, by decide, by decide⟩ ?F
    intro w mg h Y G
    obtain ⟨K, KX, c⟩ := Y
    have T := PL.K00.txt KX G c
    have e : (HandSHeadRun.topDef (OpenLaw.row PySem.Challenge.rw_pageseen_k00_errors_stand_apart).prog 38).name = ("law" : PySem.Str) := by kernel_rfl
    exact ⟨K, KX, by rw [e]; exact T.g_law, fun base => PL.K00.all T base⟩
