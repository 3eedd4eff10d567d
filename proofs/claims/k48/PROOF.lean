import PyProof.Rows.All
import Wide.All
import OpenK.AllK
import Wide.FinOn
import HandS.Dict
import HandS.Evl
import HandS.ExcInit
import HandS.ExcIs
import HandS.ForExc
import HandS.ForMost
import HandS.Head0
import HandS.Head1
import HandS.Head2
import HandS.HeadEnd
import HandS.HeadHook2
import HandS.HeadHook3
import HandS.HeadHook4
import HandS.IsInst
import HandS.Iter
import HandS.More
import HandS.SortInts
import HandS.Style
import HandS.Text
import PySem.Challenge.RW_pageseen_k48_whole_runs_of_margins
set_option Elab.async false
set_option linter.all false
set_option autoImplicit false
set_option maxRecDepth 100000
set_option maxHeartbeats 2000000
/-! A layer of plain data over the hand layer: a value is told as a datum D, the heap is out of sight. -/
namespace PL
open PySem PySem.Spec PyProof.Rows L2
open Evl (Ex)
abbrev St := L2.St

/-- the program's classes of errors, by number -/
def exN : List Str := ["PageError", "BadText", "BadTree", "BadSplice", "BadDeed", "BadPlace", "BadSelector", "BadName", "BadValue", "BadPieces", "BadList", "BadMarks", "BadParts", "BadCell", "BadRow", "NoNode", "NoBox", "NoPage", "NotPlain", "TooLong", "TooManyNodes", "BadKey", "BadQuestion",
  "TooManyActions", "NothingToUndo", "NothingToRedo", "NothingBack", "NothingForward", "BadState"]
def exS (c : Nat) : Str := exN.getD c "PageError"
def exA (K : PySem.W.Frag) (c : Nat) : Addr := He.ga K (exS c)
/-- a datum: what a value is, all the way down. frl: a list that is only read -/
inductive D where
  | non | bl (b : Bool) | int (i : Int) | str (x : Str)
  | lst (xs : List D) | tup (xs : List D)
  | dic (kvs : List (Key × D))
  | frl (xs : List D)
  | vl (v : V)
  | pool
  /-- an error object of class c, what its attribute key holds -/
  | err (c : Nat) (k : Option Str)
/-- a datum, or the list (the dict) that the name in slot i owns -/
inductive T where
  | d (d : D)
  | l (i : Nat)

/-- the stream of numbers: a list of ints whose first one is a place in it -/
def PoolOk (ns : List Int) : Prop := 2 ≤ ns.length ∧ ns.length ≤ 1000000 ∧ ∃ c, ns[0]? = some c ∧ 1 ≤ c ∧ c < (ns.length : Int)
def PoolAt (a : Addr) : Heap → Prop := fun h => ∃ (its : List Value) (n : Nat) (ns : List Int), h.get? a = some { cls := .type "list", data := .seq its.toArray n } ∧ Vals (ns.map V.int) its ∧ PoolOk ns

/-- a list that is only read: locked, or of the written part -/
def FrL (K : PySem.W.Frag) (H : Hp) (a : Addr) (xs : List V) : Prop := (∃ o, H a = some (.frz o (.lst xs))) ∨
  ∃ (o : Obj) (its : Array Value) (n : Nat), K.lookup a = some o ∧ o.cls = .type "list" ∧ o.dict = none ∧ o.data = .seq its n ∧ its.size ≤ sizeLine ∧ Vals xs its.toList
theorem FrL.sq {K : PySem.W.Frag} {H : Hp} {a : Addr} {xs : List V} (h : FrL K H a xs) : SqL K H a xs := by
  rcases h with ⟨o, h⟩ | h
  · exact .inl (.inr ⟨o, h⟩)
  · exact .inr h
theorem FrL.mono {K : PySem.W.Frag} {H H' : Hp} {a : Addr} {xs : List V} (e : Ex H H') (h : FrL K H a xs) : FrL K H' a xs := by
  rcases h with ⟨o, h⟩ | h
  · exact .inl ⟨o, e _ _ h⟩
  · exact .inr h
/-- an error object that lies at a -/
def ErrAt (K : PySem.W.Frag) (H : Hp) (a : Addr) (c : Nat) : Option Str → Prop
  | none => H a = some (exo a (exA K c) none)
  | some x => ∃ d, H a = some (exo a (exA K c) (some d)) ∧ H d = some (exd d [(("key" : Str), V.str x)])
theorem ErrAt.mono {K : PySem.W.Frag} {H H' : Hp} {a : Addr} {c : Nat} (e : Ex H H') : ∀ {k : Option Str}, ErrAt K H a c k → ErrAt K H' a c k
  | none, h => e _ _ h
  | some _, ⟨d, h1, h2⟩ => ⟨d, e _ _ h1, e _ _ h2⟩
mutual
inductive Rep (K : PySem.W.Frag) (H : Hp) : V → D → Prop
  | non : Rep K H .non .non
  | bl (b : Bool) : Rep K H (.bl b) (.bl b)
  | int (i : Int) : Rep K H (.int i) (.int i)
  | str (x : Str) : Rep K H (.str x) (.str x)
  | lst {a : Addr} {xs : List V} {ds : List D} : H a = some (.lst xs) → Reps K H xs ds → Rep K H (.ref a) (.lst ds)
  | frl {a : Addr} {xs : List V} {ds : List D} : FrL K H a xs → Reps K H xs ds → Rep K H (.ref a) (.frl ds)
  | tup {a : Addr} {xs : List V} {ds : List D} : SqT K H a xs → Reps K H xs ds → Rep K H (.ref a) (.tup ds)
  | dic {a : Addr} {kvs : List (Key × V)} {ds : List (Key × D)} : H a = some (.dK kvs) → kvs.map (·.1) = ds.map (·.1) → Reps K H (kvs.map (·.2)) (ds.map (·.2)) → Rep K H (.ref a) (.dic ds)
  | vl (v : V) : Rep K H v (.vl v)
  | pool {a : Addr} : H a = some (.ext (PoolAt a)) → Rep K H (.ref a) .pool
  | err {a : Addr} {c : Nat} {k : Option Str} : ErrAt K H a c k → Rep K H (.ref a) (.err c k)
inductive Reps (K : PySem.W.Frag) (H : Hp) : List V → List D → Prop
  | nil : Reps K H [] []
  | cons {v : V} {vs : List V} {d : D} {ds : List D} : Rep K H v d → Reps K H vs ds → Reps K H (v :: vs) (d :: ds)
end

section
variable {K : PySem.W.Frag} {H H' : Hp}
mutual
theorem Rep.mono (e : Ex H H') : ∀ {v : V} {d : D}, Rep K H v d → Rep K H' v d
  | _, _, .non => .non
  | _, _, .bl b => .bl b
  | _, _, .int i => .int i
  | _, _, .str x => .str x
  | _, _, .lst h r => .lst (e _ _ h) (Reps.mono e r)
  | _, _, .frl h r => .frl (h.mono e) (Reps.mono e r)
  | _, _, .tup h r => .tup (Evl.ex_t e h) (Reps.mono e r)
  | _, _, .dic h k r => .dic (e _ _ h) k (Reps.mono e r)
  | _, _, .vl v => .vl v
  | _, _, .pool h => .pool (e _ _ h)
  | _, _, .err h => .err (h.mono e)
theorem Reps.mono (e : Ex H H') : ∀ {vs : List V} {ds : List D}, Reps K H vs ds → Reps K H' vs ds
  | _, _, .nil => .nil
  | _, _, .cons r t => .cons (Rep.mono e r) (Reps.mono e t)
end
theorem Reps.len : ∀ {vs : List V} {ds : List D}, Reps K H vs ds → vs.length = ds.length
  | _, _, .nil => rfl
  | _, _, .cons _ t => by rw [List.length_cons, List.length_cons, Reps.len t]
theorem Reps.get : ∀ {vs : List V} {ds : List D} {i : Nat} {d : D}, Reps K H vs ds → ds[i]? = some d → ∃ v, vs[i]? = some v ∧ Rep K H v d
  | _, _, _, _, .nil, e => by simp at e
  | _, _, 0, _, .cons r _, e => by
    have e2 := Option.some.inj e
    subst e2
    exact ⟨_, rfl, r⟩
  | _, _, i + 1, d, .cons _ t, e => by
    obtain ⟨v, h1, h2⟩ := Reps.get (i := i) (d := d) t (by simpa using e)
    exact ⟨v, by simpa using h1, h2⟩
theorem Reps.getV : ∀ {vs : List V} {ds : List D} {i : Nat} {v : V}, Reps K H vs ds → vs[i]? = some v → ∃ d, ds[i]? = some d ∧ Rep K H v d
  | _, _, _, _, .nil, e => by simp at e
  | _, _, 0, _, .cons r _, e => by
    have e2 := Option.some.inj e
    subst e2
    exact ⟨_, rfl, r⟩
  | _, _, i + 1, d, .cons _ t, e => by
    obtain ⟨v, h1, h2⟩ := Reps.getV (i := i) (v := d) t (by simpa using e)
    exact ⟨v, by simpa using h1, h2⟩
theorem Reps.append : ∀ {vs ws : List V} {ds es : List D}, Reps K H vs ds → Reps K H ws es → Reps K H (vs ++ ws) (ds ++ es)
  | _, _, _, _, .nil, s => s
  | _, _, _, _, .cons r t, s => .cons r (Reps.append t s)
theorem Reps.take : ∀ {vs : List V} {ds : List D} (n : Nat), Reps K H vs ds → Reps K H (vs.take n) (ds.take n)
  | _, _, 0, _ => .nil
  | _, _, _ + 1, .nil => .nil
  | _, _, n + 1, .cons r t => .cons r (Reps.take n t)
theorem Reps.drop : ∀ {vs : List V} {ds : List D} (n : Nat), Reps K H vs ds → Reps K H (vs.drop n) (ds.drop n)
  | _, _, 0, r => r
  | _, _, _ + 1, .nil => .nil
  | _, _, n + 1, .cons _ t => Reps.drop n t
theorem Reps.set {v : V} {d : D} (r : Rep K H v d) : ∀ {vs : List V} {ds : List D} (i : Nat), Reps K H vs ds → Reps K H (vs.set i v) (ds.set i d)
  | _, _, _, .nil => .nil
  | _, _, 0, .cons _ t => .cons r t
  | _, _, i + 1, .cons q t => .cons q (Reps.set r i t)
theorem Reps.reverse : ∀ {vs : List V} {ds : List D}, Reps K H vs ds → Reps K H vs.reverse ds.reverse
  | _, _, .nil => .nil
  | _, _, .cons r t => by
    rw [List.reverse_cons, List.reverse_cons]
    exact Reps.append (Reps.reverse t) (.cons r .nil)
theorem Reps.ints : ∀ (ns : List Int), Reps K H (ns.map V.int) (ns.map D.int)
  | [] => .nil
  | n :: r => .cons (.int n) (Reps.ints r)
theorem Reps.bls : ∀ (ns : List Bool), Reps K H (ns.map V.bl) (ns.map D.bl)
  | [] => .nil
  | n :: r => .cons (.bl n) (Reps.bls r)
theorem Reps.strs : ∀ (ns : List Str), Reps K H (ns.map V.str) (ns.map D.str)
  | [] => .nil
  | n :: r => .cons (.str n) (Reps.strs r)
theorem Reps.inv_ints : ∀ {vs : List V} {ns : List Int}, Reps K H vs (ns.map D.int) → vs = ns.map V.int
  | _, [], .nil => rfl
  | _, n :: r, .cons h t => by
    cases h
    rw [Reps.inv_ints t] <;> rfl
theorem Reps.inv_bls : ∀ {vs : List V} {ns : List Bool}, Reps K H vs (ns.map D.bl) → vs = ns.map V.bl
  | _, [], .nil => rfl
  | _, n :: r, .cons h t => by
    cases h
    rw [Reps.inv_bls t] <;> rfl
theorem Reps.inv_strs : ∀ {vs : List V} {ns : List Str}, Reps K H vs (ns.map D.str) → vs = ns.map V.str
  | _, [], .nil => rfl
  | _, n :: r, .cons h t => by
    cases h
    rw [Reps.inv_strs t] <;> rfl
end

/-- what a name's slot holds: a datum, or a list (a dict) of its own -/
inductive S where
  | v (d : D)
  | o (xs : List D)
  | od (kvs : List (Key × D))
def S.own : S → Bool
  | .v _ => false
  | _ => true
abbrev PEnv := List (Option S)

def SlotOk (K : PySem.W.Frag) (F Hs : Hp) (σ : St) (H : Hp) (i : Nat) : S → Prop
  | .v d => ∃ v, σ[i]? = some (some v) ∧ Rep K Hs v d
  | .o ds => ∃ p vs, σ[i]? = some (some (.ref p)) ∧ Hs p = none ∧ F p = none ∧ H p = some (.lst vs) ∧ Reps K Hs vs ds
  | .od ds => ∃ p kvs, σ[i]? = some (some (.ref p)) ∧ Hs p = none ∧ F p = none ∧ H p = some (.dK kvs) ∧ kvs.map (·.1) = ds.map (·.1) ∧ Reps K Hs (kvs.map (·.2)) (ds.map (·.2))

/-- the state: F what others own, Hs what stands still, σ the slots, H the heap, ε what the slots hold -/
structure RelS (K : PySem.W.Frag) (F Hs : Hp) (σ : St) (H : Hp) (ε : PEnv) : Prop where
  ex : Ex Hs H
  fr : ∀ (p : Addr) (o : HO), F p = some o → H p = some o ∧ Hs p = none
  len : σ.length = ε.length
  sl : ∀ (i : Nat) (s : S), ε[i]? = some (some s) → SlotOk K F Hs σ H i s
  ds : ∀ (i j : Nat) (s t : S), i ≠ j → ε[i]? = some (some s) → ε[j]? = some (some t) → s.own = true → t.own = true → σ[i]? ≠ σ[j]?

/-- a value on the way: a datum, or a name's own -/
def RepT (K : PySem.W.Frag) (Hs : Hp) (σ : St) (v : V) : T → Prop
  | .d d => Rep K Hs v d
  | .l i => σ[i]? = some (some v)
theorem RepT.mono {K : PySem.W.Frag} {Hs Hs' : Hp} {σ : St} {v : V} : ∀ {t : T}, Ex Hs Hs' → RepT K Hs σ v t → RepT K Hs' σ v t
  | .d _, e, h => Rep.mono e h
  | .l _, _, h => h

/-- what is seen of a value: its own list, the items stand still -/
inductive RepV (K : PySem.W.Frag) (Hs H : Hp) : V → D → Prop
  | sc {v : V} {d : D} : Rep K Hs v d → RepV K Hs H v d
  | lst {a : Addr} {xs : List V} {ds : List D} : H a = some (.lst xs) → Reps K Hs xs ds → RepV K Hs H (.ref a) (.lst ds)
  | dic {a : Addr} {kvs : List (Key × V)} {ds : List (Key × D)} : H a = some (.dK kvs) → kvs.map (·.1) = ds.map (·.1) → Reps K Hs (kvs.map (·.2)) (ds.map (·.2)) → RepV K Hs H (.ref a) (.dic ds)

/-- what is there, for a look -/
def res (ε : PEnv) : T → (D → Prop) → Prop
  | .d d, Q => Q d
  | .l i, Q => match ε[i]? with
    | some (some (.v d)) => Q d
    | some (some (.o ds)) => Q (.lst ds)
    | some (some (.od ds)) => Q (.dic ds)
    | _ => False
/-- what is there, to be handed on: a name's own stands still from now on -/
def out (ε : PEnv) : T → (D → PEnv → Prop) → Prop
  | .d d, Q => Q d ε
  | .l i, Q => match ε[i]? with
    | some (some (.v d)) => Q d ε
    | some (some (.o ds)) => Q (.lst ds) (ε.set i (some (.v (.lst ds))))
    | some (some (.od ds)) => Q (.dic ds) (ε.set i (some (.v (.dic ds))))
    | _ => False

section
variable {K : PySem.W.Frag} {F Hs H : Hp} {σ : St} {ε : PEnv} {v : V} {d : D}
theorem RelS.res {t : T} {Q : D → Prop} (R : RelS K F Hs σ H ε) (h : RepT K Hs σ v t) (q : res ε t Q) : ∃ d, RepV K Hs H v d ∧ Q d := by
  cases t with
  | d d => exact ⟨d, .sc h, q⟩
  | l i =>
    have h : σ[i]? = some (some v) := h
    unfold PL.res at q
    dsimp only at q
    split at q
    · rename_i d e
      obtain ⟨w, h1, h2⟩ := R.sl i _ e
      rw [h] at h1
      cases h1
      exact ⟨_, .sc h2, q⟩
    · rename_i ds e
      obtain ⟨p, vs, h1, _, _, h2, h3⟩ := R.sl i _ e
      rw [h] at h1
      cases h1
      exact ⟨_, .lst h2 h3, q⟩
    · rename_i ds e
      obtain ⟨p, vs, h1, _, _, h2, h3, h4⟩ := R.sl i _ e
      rw [h] at h1
      cases h1
      exact ⟨_, .dic h2 h3 h4, q⟩
    · exact q.elim
theorem RepV.lst' {ds : List D} (h : RepV K Hs H v (.lst ds)) (ex : Ex Hs H) : ∃ a xs, v = .ref a ∧ H a = some (.lst xs) ∧ Reps K Hs xs ds := by
  cases h with
  | sc h =>
    cases h with
    | lst h r => exact ⟨_, _, rfl, ex _ _ h, r⟩
  | lst h r => exact ⟨_, _, rfl, h, r⟩
theorem RepV.frl' {ds : List D} (h : RepV K Hs H v (.frl ds)) (ex : Ex Hs H) : ∃ a xs, v = .ref a ∧ SqL K H a xs ∧ Reps K Hs xs ds := by
  cases h with
  | sc h =>
    cases h with
    | frl h r => exact ⟨_, _, rfl, Evl.ex_l ex h.sq, r⟩
theorem RepV.tup' {ds : List D} (h : RepV K Hs H v (.tup ds)) (ex : Ex Hs H) : ∃ a xs, v = .ref a ∧ SqT K H a xs ∧ Reps K Hs xs ds := by
  cases h with
  | sc h =>
    cases h with
    | tup h r => exact ⟨_, _, rfl, Evl.ex_t ex h, r⟩
theorem RepV.dic' {ds : List (Key × D)} (h : RepV K Hs H v (.dic ds)) (ex : Ex Hs H) : ∃ a kvs, v = .ref a ∧ H a = some (.dK kvs) ∧ kvs.map (·.1) = ds.map (·.1) ∧ Reps K Hs (kvs.map (·.2)) (ds.map (·.2)) := by
  cases h with
  | sc h =>
    cases h with
    | dic h k r => exact ⟨_, _, rfl, ex _ _ h, k, r⟩
  | dic h k r => exact ⟨_, _, rfl, h, k, r⟩
theorem RepV.int' {i : Int} (h : RepV K Hs H v (.int i)) : v = .int i := by
  cases h with
  | sc h => cases h; rfl
theorem RepV.str' {x : Str} (h : RepV K Hs H v (.str x)) : v = .str x := by
  cases h with
  | sc h => cases h; rfl
theorem RepV.bl' {b : Bool} (h : RepV K Hs H v (.bl b)) : v = .bl b := by
  cases h with
  | sc h => cases h; rfl
theorem RepV.non' (h : RepV K Hs H v .non) : v = .non := by
  cases h with
  | sc h => cases h; rfl
theorem RepV.vl' {u : V} (h : RepV K Hs H v (.vl u)) : v = u := by
  cases h with
  | sc h => cases h; rfl

theorem ex_upd {p : Addr} {o : HO} (h : Hs p = none) : Ex Hs (upd Hs p o) := Evl.Ex.new h

/-- a name's own list is handed on: from now on it stands still -/
theorem RelS.freeze (R : RelS K F Hs σ H ε) {i : Nat} {s : S} (e : ε[i]? = some (some s)) {o : HO} {d : D} {p : Addr} (hs : σ[i]? = some (some (.ref p))) (ho : s.own = true) (hp : Hs p = none) (hF : F p = none) (hH : H p = some o) (hr : Rep K (upd Hs p o) (.ref p) d) :
    RelS K F (upd Hs p o) σ H (ε.set i (some (.v d))) := by
  have ee : Ex Hs (upd Hs p o) := ex_upd hp
  have hi : i < ε.length := (List.getElem?_eq_some_iff.mp e).1
  refine ⟨fun a u q => ?_, fun a u q => ?_, by rw [List.length_set]; exact R.len, fun j t q => ?_, fun j k t u hn h1 h2 h3 h4 => ?_⟩
  · by_cases ha : a = p
    · subst ha
      rw [upd_same] at q
      cases q
      exact hH
    · rw [upd_ne ha] at q
      exact R.ex a u q
  · obtain ⟨h1, h2⟩ := R.fr a u q
    refine ⟨h1, ?_⟩
    rw [upd_ne]
    · exact h2
    · intro z
      subst z
      rw [q] at hF
      cases hF
  · by_cases hj : j = i
    · subst hj
      rw [List.getElem?_set_self hi] at q
      cases q
      exact ⟨_, hs, hr⟩
    · rw [List.getElem?_set_ne (Ne.symm hj)] at q
      have z := R.sl j t q
      cases t with
      | v d' =>
        obtain ⟨w, h1, h2⟩ := z
        exact ⟨w, h1, h2.mono ee⟩
      | o ds =>
        obtain ⟨b, vs, h1, h2, h3, h4, h5⟩ := z
        have nb : b ≠ p := by
          intro z
          subst z
          exact R.ds i j s (.o ds) (Ne.symm hj) e q ho rfl (hs.trans h1.symm)
        exact ⟨b, vs, h1, by rw [upd_ne nb]; exact h2, h3, h4, h5.mono ee⟩
      | od ds =>
        obtain ⟨b, vs, h1, h2, h3, h4, h5, h6⟩ := z
        have nb : b ≠ p := by
          intro z
          subst z
          exact R.ds i j s (.od ds) (Ne.symm hj) e q ho rfl (hs.trans h1.symm)
        exact ⟨b, vs, h1, by rw [upd_ne nb]; exact h2, h3, h4, h5, h6.mono ee⟩
  · have hj : j ≠ i := by
      rintro rfl
      rw [List.getElem?_set_self hi] at h1
      cases h1
      cases h3
    have hk : k ≠ i := by
      rintro rfl
      rw [List.getElem?_set_self hi] at h2
      cases h2
      cases h4
    rw [List.getElem?_set_ne (Ne.symm hj)] at h1
    rw [List.getElem?_set_ne (Ne.symm hk)] at h2
    exact R.ds j k t u hn h1 h2 h3 h4

theorem RelS.out {t : T} {Q : D → PEnv → Prop} (R : RelS K F Hs σ H ε) (h : RepT K Hs σ v t) (q : out ε t Q) : ∃ d ε' Hs', Ex Hs Hs' ∧ RelS K F Hs' σ H ε' ∧ Rep K Hs' v d ∧ Q d ε' := by
  cases t with
  | d d => exact ⟨d, ε, Hs, Evl.Ex.refl _, R, h, q⟩
  | l i =>
    have h : σ[i]? = some (some v) := h
    unfold PL.out at q
    dsimp only at q
    split at q
    · rename_i d e
      obtain ⟨w, h1, h2⟩ := R.sl i _ e
      rw [h] at h1
      cases h1
      exact ⟨_, ε, Hs, Evl.Ex.refl _, R, h2, q⟩
    · rename_i ds e
      obtain ⟨p, vs, h1, h2, h3, h4, h5⟩ := R.sl i _ e
      rw [h] at h1
      cases h1
      have rr : Rep K (upd Hs p (.lst vs)) (.ref p) (.lst ds) := .lst upd_same (h5.mono (ex_upd h2))
      exact ⟨_, _, _, ex_upd h2, R.freeze e h rfl h2 h3 h4 rr, rr, q⟩
    · rename_i ds e
      obtain ⟨p, vs, h1, h2, h3, h4, h5, h6⟩ := R.sl i _ e
      rw [h] at h1
      cases h1
      have rr : Rep K (upd Hs p (.dK vs)) (.ref p) (.dic ds) := .dic upd_same h5 (h6.mono (ex_upd h2))
      exact ⟨_, _, _, ex_upd h2, R.freeze e h rfl h2 h3 h4 rr, rr, q⟩
    · exact q.elim

/-- something new is laid and stands still -/
theorem RelS.new (R : RelS K F Hs σ H ε) {p : Addr} {o : HO} (hp : H p = none) : RelS K F (upd Hs p o) σ (upd H p o) ε ∧ Ex Hs (upd Hs p o) := by
  have hsp : Hs p = none := Evl.fresh_back R.ex hp
  have ee : Ex Hs (upd Hs p o) := ex_upd hsp
  have eh : Ex H (upd H p o) := Evl.Ex.new hp
  refine ⟨⟨fun a u q => ?_, fun a u q => ?_, R.len, fun j t q => ?_, R.ds⟩, ee⟩
  · by_cases ha : a = p
    · subst ha
      rw [upd_same] at q ⊢
      exact q
    · rw [upd_ne ha] at q
      exact eh a u (R.ex a u q)
  · obtain ⟨h1, h2⟩ := R.fr a u q
    refine ⟨eh a u h1, ?_⟩
    rw [upd_ne (ne_of_none h1 hp)]
    exact h2
  · have z := R.sl j t q
    cases t with
    | v d' =>
      obtain ⟨w, h1, h2⟩ := z
      exact ⟨w, h1, h2.mono ee⟩
    | o ds =>
      obtain ⟨b, vs, h1, h2, h3, h4, h5⟩ := z
      exact ⟨b, vs, h1, by rw [upd_ne (ne_of_none h4 hp)]; exact h2, h3, eh _ _ h4, h5.mono ee⟩
    | od ds =>
      obtain ⟨b, vs, h1, h2, h3, h4, h5, h6⟩ := z
      exact ⟨b, vs, h1, by rw [upd_ne (ne_of_none h4 hp)]; exact h2, h3, eh _ _ h4, h5, h6.mono ee⟩
/-- something new is laid that is not yet anybody's -/
theorem RelS.lay (R : RelS K F Hs σ H ε) {p : Addr} {o : HO} (hp : H p = none) : RelS K F Hs σ (upd H p o) ε := by
  have eh : Ex H (upd H p o) := Evl.Ex.new hp
  refine ⟨fun a u q => eh a u (R.ex a u q), fun a u q => ⟨eh a u (R.fr a u q).1, (R.fr a u q).2⟩, R.len, fun j t q => ?_, R.ds⟩
  have z := R.sl j t q
  cases t with
  | v d' => exact z
  | o ds =>
    obtain ⟨b, vs, h1, h2, h3, h4, h5⟩ := z
    exact ⟨b, vs, h1, h2, h3, eh _ _ h4, h5⟩
  | od ds =>
    obtain ⟨b, vs, h1, h2, h3, h4, h5, h6⟩ := z
    exact ⟨b, vs, h1, h2, h3, eh _ _ h4, h5, h6⟩
/-- what was laid and was nobody's stands still from now on -/
theorem RelS.adopt (R : RelS K F Hs σ H ε) {p : Addr} {o : HO} (hH : H p = some o) (hp : Hs p = none) (hF : F p = none) (hn : ∀ (i : Nat) (s : S), ε[i]? = some (some s) → s.own = true → σ[i]? ≠ some (some (.ref p))) : RelS K F (upd Hs p o) σ H ε := by
  have ee : Ex Hs (upd Hs p o) := ex_upd hp
  refine ⟨fun a u q => ?_, fun a u q => ?_, R.len, fun j t q => ?_, R.ds⟩
  · by_cases ha : a = p
    · subst ha
      rw [upd_same] at q
      cases q
      exact hH
    · rw [upd_ne ha] at q
      exact R.ex a u q
  · obtain ⟨h1, h2⟩ := R.fr a u q
    refine ⟨h1, ?_⟩
    rw [upd_ne]
    · exact h2
    · intro z
      subst z
      rw [q] at hF
      cases hF
  · have z := R.sl j t q
    cases t with
    | v d' =>
      obtain ⟨w, h1, h2⟩ := z
      exact ⟨w, h1, h2.mono ee⟩
    | o ds =>
      obtain ⟨b, vs, h1, h2, h3, h4, h5⟩ := z
      have nb : b ≠ p := by
        intro z
        subst z
        exact hn j _ q rfl h1
      exact ⟨b, vs, h1, by rw [upd_ne nb]; exact h2, h3, h4, h5.mono ee⟩
    | od ds =>
      obtain ⟨b, vs, h1, h2, h3, h4, h5, h6⟩ := z
      have nb : b ≠ p := by
        intro z
        subst z
        exact hn j _ q rfl h1
      exact ⟨b, vs, h1, by rw [upd_ne nb]; exact h2, h3, h4, h5, h6.mono ee⟩
/-- a name is stored -/
theorem RelS.store (R : RelS K F Hs σ H ε) (h : Rep K Hs v d) (i : Nat) : RelS K F Hs (σ.set i (some v)) H (ε.set i (some (.v d))) := by
  refine ⟨R.ex, R.fr, by rw [List.length_set, List.length_set]; exact R.len, fun j t q => ?_, fun j k t u hn h1 h2 h3 h4 => ?_⟩
  · by_cases hj : i = j
    · subst hj
      by_cases hi : i < ε.length
      · rw [List.getElem?_set_self hi] at q
        cases q
        exact ⟨v, by rw [List.getElem?_set_self (by rw [R.len]; exact hi)], h⟩
      · rw [List.getElem?_eq_none (by rw [List.length_set]; omega)] at q
        cases q
    · rw [List.getElem?_set_ne hj] at q
      have z := R.sl j t q
      cases t <;> (unfold SlotOk at z ⊢; dsimp only at z ⊢; rw [List.getElem?_set_ne hj]; exact z)
  · have hj : i ≠ j := by
      rintro rfl
      have hi : i < (ε.set i (some (S.v d))).length := (List.getElem?_eq_some_iff.mp h1).1
      rw [List.length_set] at hi
      rw [List.getElem?_set_self hi] at h1
      cases h1
      cases h3
    have hk : i ≠ k := by
      rintro rfl
      have hi : i < (ε.set i (some (S.v d))).length := (List.getElem?_eq_some_iff.mp h2).1
      rw [List.length_set] at hi
      rw [List.getElem?_set_self hi] at h2
      cases h2
      cases h4
    rw [List.getElem?_set_ne hj] at h1 ⊢
    rw [List.getElem?_set_ne hk] at h2 ⊢
    exact R.ds j k t u hn h1 h2 h3 h4
/-- a name takes a list (a dict) of its own -/
theorem RelS.storeO (R : RelS K F Hs σ H ε) {p : Addr} {s : S} (so : s.own = true) (i : Nat) (hn : ∀ (i : Nat) (s : S), ε[i]? = some (some s) → s.own = true → σ[i]? ≠ some (some (.ref p)))
    (h : i < ε.length → SlotOk K F Hs (σ.set i (some (.ref p))) H i s) : RelS K F Hs (σ.set i (some (.ref p))) H (ε.set i (some s)) := by
  refine ⟨R.ex, R.fr, by rw [List.length_set, List.length_set]; exact R.len, fun j t q => ?_, fun j k t u hjk h1 h2 h3 h4 => ?_⟩
  · by_cases hj : i = j
    · subst hj
      by_cases hi : i < ε.length
      · rw [List.getElem?_set_self hi] at q
        cases q
        exact h hi
      · rw [List.getElem?_eq_none (by rw [List.length_set]; omega)] at q
        cases q
    · rw [List.getElem?_set_ne hj] at q
      have z := R.sl j t q
      cases t <;> (unfold SlotOk at z ⊢; dsimp only at z ⊢; rw [List.getElem?_set_ne hj]; exact z)
  · by_cases hj : i = j
    · subst hj
      have hi : i < ε.length := by
        have := (List.getElem?_eq_some_iff.mp h1).1
        rw [List.length_set] at this
        exact this
      rw [List.getElem?_set_self (by rw [R.len]; exact hi)]
      rw [List.getElem?_set_ne hjk] at h2 ⊢
      exact fun e => hn k u h2 h4 e.symm
    · by_cases hk : i = k
      · subst hk
        have hi : i < ε.length := by
          have := (List.getElem?_eq_some_iff.mp h2).1
          rw [List.length_set] at this
          exact this
        rw [List.getElem?_set_self (by rw [R.len]; exact hi)]
        rw [List.getElem?_set_ne hj] at h1 ⊢
        exact hn j t h1 h3
      · rw [List.getElem?_set_ne hj] at h1 ⊢
        rw [List.getElem?_set_ne hk] at h2 ⊢
        exact R.ds j k t u hjk h1 h2 h3 h4
/-- a name's own list (dict) changes -/
theorem RelS.change (R : RelS K F Hs σ H ε) {p : Addr} {o' : HO} {i : Nat} {s s' : S} (e : ε[i]? = some (some s)) (so : s.own = true) (so' : s'.own = true) (hs : σ[i]? = some (some (.ref p))) (hp : Hs p = none) (hF : F p = none)
    (h : SlotOk K F Hs σ (upd H p o') i s') : RelS K F Hs σ (upd H p o') (ε.set i (some s')) := by
  have hi : i < ε.length := (List.getElem?_eq_some_iff.mp e).1
  refine ⟨fun a u q => ?_, fun a u q => ?_, by rw [List.length_set]; exact R.len, fun j t q => ?_, fun j k t u hjk h1 h2 h3 h4 => ?_⟩
  · rw [upd_ne (ne_of_none q hp)]
    exact R.ex a u q
  · rw [upd_ne]
    · exact R.fr a u q
    · intro z
      subst z
      rw [q] at hF
      cases hF
  · by_cases hj : i = j
    · subst hj
      rw [List.getElem?_set_self hi] at q
      cases q
      exact h
    · rw [List.getElem?_set_ne hj] at q
      have z := R.sl j t q
      cases t with
      | v d' => exact z
      | o ds =>
        obtain ⟨b, vs, h1, h2, h3, h4, h5⟩ := z
        have nb : b ≠ p := by
          intro z
          subst z
          exact R.ds i j s _ hj e q so rfl (hs.trans h1.symm)
        exact ⟨b, vs, h1, h2, h3, by rw [upd_ne nb]; exact h4, h5⟩
      | od ds =>
        obtain ⟨b, vs, h1, h2, h3, h4, h5, h6⟩ := z
        have nb : b ≠ p := by
          intro z
          subst z
          exact R.ds i j s _ hj e q so rfl (hs.trans h1.symm)
        exact ⟨b, vs, h1, h2, h3, by rw [upd_ne nb]; exact h4, h5, h6⟩
  · have own_of : ∀ (j : Nat) (t : S), (ε.set i (some s'))[j]? = some (some t) → t.own = true → ∃ t', ε[j]? = some (some t') ∧ t'.own = true := fun j t q ho => by
      by_cases hj : i = j
      · subst hj
        exact ⟨s, e, so⟩
      · rw [List.getElem?_set_ne hj] at q
        exact ⟨t, q, ho⟩
    obtain ⟨t', a1, a2⟩ := own_of j t h1 h3
    obtain ⟨u', b1, b2⟩ := own_of k u h2 h4
    exact R.ds j k t' u' hjk a1 b1 a2 b2
/-- a fresh address is nobody's -/
theorem RelS.nobody (R : RelS K F Hs σ H ε) {p : Addr} (hp : H p = none) : Hs p = none ∧ F p = none ∧ ∀ (i : Nat) (s : S), ε[i]? = some (some s) → s.own = true → σ[i]? ≠ some (some (.ref p)) := by
  refine ⟨Evl.fresh_back R.ex hp, ?_, fun i s e so q => ?_⟩
  · cases h : F p with
    | none => rfl
    | some o =>
      rw [(R.fr p o h).1] at hp
      cases hp
  · have z := R.sl i s e
    cases s with
    | v d => cases so
    | o ds =>
      obtain ⟨b, vs, h1, h2, h3, h4, h5⟩ := z
      rw [q] at h1
      cases h1
      rw [hp] at h4
      cases h4
    | od ds =>
      obtain ⟨b, vs, h1, h2, h3, h4, h5, h6⟩ := z
      rw [q] at h1
      cases h1
      rw [hp] at h4
      cases h4
end
end PL

set_option Elab.async false
set_option linter.all false
set_option autoImplicit false
set_option maxRecDepth 100000
set_option maxHeartbeats 2000000
/-! What an expression yields, over plain data. -/
namespace PL
open PySem PySem.Spec PyProof.Rows L2
open Evl (Ex)

/-- a guard: it goes by computation where it can -/
def gd (p : Prop) [Decidable p] (Q : Prop) : Prop := match decide p with
  | true => Q
  | false => False
theorem gd_elim {p Q : Prop} [Decidable p] (h : gd p Q) : p ∧ Q := by
  unfold gd at h
  split at h
  · rename_i e
    exact ⟨of_decide_eq_true e, h⟩
  · exact h.elim
theorem gd_of {p Q : Prop} [Decidable p] (h : p) (q : Q) : gd p Q := by
  unfold gd
  rw [decide_eq_true h]
  exact q
/-- an answer that is there -/
def opt {α : Type} (o : Option α) (Q : α → Prop) : Prop := match o with
  | some a => Q a
  | none => False
theorem opt_elim {α : Type} {o : Option α} {Q : α → Prop} (h : opt o Q) : ∃ a, o = some a ∧ Q a := by
  cases o with
  | some a => exact ⟨a, rfl, h⟩
  | none => exact h.elim
theorem opt_of {α : Type} {o : Option α} {a : α} {Q : α → Prop} (e : o = some a) (q : Q a) : opt o Q := by
  rw [e]
  exact q
abbrev PTE := PEnv → (T → PEnv → Prop) → Prop
abbrev PTN := PEnv → (List D → PEnv → Prop) → Prop
abbrev PTL := PEnv → (List T → PEnv → Prop) → Prop
abbrev PTT := PEnv → (Bool → PEnv → Prop) → Prop

abbrev Xi := Nat → PEnv → Prop
/-- what a raised class is to meet -/
def Lk (K : PySem.W.Frag) (F Hs : Hp) (W : WX) (Ξ : Xi) : Prop := ∀ c (σ' : St) (H' Hs' : Hp) (ε' : PEnv), Ξ c ε' → Ex Hs Hs' → RelS K F Hs' σ' H' ε' → W (.ref (exA K c)) none σ' H'
theorem Lk.mono {K : PySem.W.Frag} {F Hs Hs' : Hp} {W : WX} {Ξ : Xi} (e : Ex Hs Hs') (h : Lk K F Hs W Ξ) : Lk K F Hs' W Ξ := fun c σ' H' Hs2 ε' x e2 R => h c σ' H' Hs2 ε' x (e.trans e2) R
abbrev W0 : WX := fun _ _ _ _ => False
abbrev Ξ0 : Xi := fun _ _ => False
theorem Lk.none {K : PySem.W.Frag} {F Hs : Hp} {W : WX} : Lk K F Hs W Ξ0 := fun _ _ _ _ _ x => x.elim

def KE (K : PySem.W.Frag) (F Hs : Hp) (σ : St) (Q' : T → PEnv → Prop) (Q : VK) : Prop :=
  ∀ (v : V) (H' Hs' : Hp) (t : T) (ε' : PEnv), Ex Hs Hs' → RelS K F Hs' σ H' ε' → RepT K Hs' σ v t → Q' t ε' → Q v H'
structure YE (X : Cx) (W : WX) (Ξ : Xi) (e : Expr) (r : PTE) : Prop where
  ex : ∃ t, PE X e t ∧ ∀ (F Hs : Hp) (σ : St) (H : Hp) (ε : PEnv) (Q' : T → PEnv → Prop) (Q : VK), RelS X.K F Hs σ H ε → Lk X.K F Hs W Ξ → r ε Q' → KE X.K F Hs σ Q' Q → t σ H Q
/-- a new list, nobody's yet -/
def KN (K : PySem.W.Frag) (F Hs : Hp) (σ : St) (Q' : List D → PEnv → Prop) (Q : VK) : Prop :=
  ∀ (p : Addr) (H' Hs' : Hp) (vs : List V) (ds : List D) (ε' : PEnv), Ex Hs Hs' → RelS K F Hs' σ H' ε' → H' p = some (.lst vs) → Hs' p = none → F p = none →
    (∀ (i : Nat) (s : S), ε'[i]? = some (some s) → s.own = true → σ[i]? ≠ some (some (.ref p))) → Reps K Hs' vs ds → Q' ds ε' → Q (.ref p) H'
structure YN (X : Cx) (W : WX) (Ξ : Xi) (e : Expr) (r : PTN) : Prop where
  ex : ∃ t, PE X e t ∧ ∀ (F Hs : Hp) (σ : St) (H : Hp) (ε : PEnv) (Q' : List D → PEnv → Prop) (Q : VK), RelS X.K F Hs σ H ε → Lk X.K F Hs W Ξ → r ε Q' → KN X.K F Hs σ Q' Q → t σ H Q
inductive RepTs (K : PySem.W.Frag) (Hs : Hp) (σ : St) : List V → List T → Prop
  | nil : RepTs K Hs σ [] []
  | cons {v : V} {vs : List V} {t : T} {ts : List T} : RepT K Hs σ v t → RepTs K Hs σ vs ts → RepTs K Hs σ (v :: vs) (t :: ts)
theorem RepTs.mono {K : PySem.W.Frag} {Hs Hs' : Hp} {σ : St} (e : Ex Hs Hs') : ∀ {vs : List V} {ts : List T}, RepTs K Hs σ vs ts → RepTs K Hs' σ vs ts
  | _, _, .nil => .nil
  | _, _, .cons r t => .cons (r.mono e) (RepTs.mono e t)
def KL (K : PySem.W.Frag) (F Hs : Hp) (σ : St) (Q' : List T → PEnv → Prop) (Q : List V → Hp → Prop) : Prop :=
  ∀ (vs : List V) (H' Hs' : Hp) (ts : List T) (ε' : PEnv), Ex Hs Hs' → RelS K F Hs' σ H' ε' → RepTs K Hs' σ vs ts → Q' ts ε' → Q vs H'
structure YL (X : Cx) (W : WX) (Ξ : Xi) (es : List Expr) (r : PTL) : Prop where
  ex : ∃ t, PA X es t ∧ ∀ (F Hs : Hp) (σ : St) (H : Hp) (ε : PEnv) (Q' : List T → PEnv → Prop) (Q : List V → Hp → Prop), RelS X.K F Hs σ H ε → Lk X.K F Hs W Ξ → r ε Q' → KL X.K F Hs σ Q' Q → t σ H Q
def KT (K : PySem.W.Frag) (F Hs : Hp) (σ : St) (Q' : Bool → PEnv → Prop) (Q : Bool → Hp → Prop) : Prop :=
  ∀ (b : Bool) (H' Hs' : Hp) (ε' : PEnv), Ex Hs Hs' → RelS K F Hs' σ H' ε' → Q' b ε' → Q b H'
structure YT (X : Cx) (W : WX) (Ξ : Xi) (e : Expr) (r : PTT) : Prop where
  ex : ∃ t, PT X e t ∧ ∀ (F Hs : Hp) (σ : St) (H : Hp) (ε : PEnv) (Q' : Bool → PEnv → Prop) (Q : Bool → Hp → Prop), RelS X.K F Hs σ H ε → Lk X.K F Hs W Ξ → r ε Q' → KT X.K F Hs σ Q' Q → t σ H Q
/-- and, or: a test whatever its whole is -/
structure YW (X : Cx) (W : WX) (Ξ : Xi) (e : Expr) (r : PTT) : Prop where
  ex : ∃ t, PW X e t ∧ ∀ (F Hs : Hp) (σ : St) (H : Hp) (ε : PEnv) (Q' : Bool → PEnv → Prop) (Q : Bool → Hp → Prop), RelS X.K F Hs σ H ε → Lk X.K F Hs W Ξ → r ε Q' → KT X.K F Hs σ Q' Q → t σ H Q

def outs : PEnv → List T → (List D → PEnv → Prop) → Prop
  | ε, [], Q => Q [] ε
  | ε, t :: ts, Q => out ε t fun d ε' => outs ε' ts fun ds ε'' => Q (d :: ds) ε''
def ress (ε : PEnv) : List T → (List D → Prop) → Prop
  | [], Q => Q []
  | t :: ts, Q => res ε t fun d => ress ε ts fun ds => Q (d :: ds)
inductive RepVs (K : PySem.W.Frag) (Hs H : Hp) : List V → List D → Prop
  | nil : RepVs K Hs H [] []
  | cons {v : V} {vs : List V} {d : D} {ds : List D} : RepV K Hs H v d → RepVs K Hs H vs ds → RepVs K Hs H (v :: vs) (d :: ds)

section
variable {K : PySem.W.Frag} {F Hs H : Hp} {σ : St} {ε : PEnv} {v : V} {d : D}
theorem RelS.outs : ∀ {ts : List T} {vs : List V} {Hs : Hp} {ε : PEnv} {Q : List D → PEnv → Prop}, RelS K F Hs σ H ε → RepTs K Hs σ vs ts → outs ε ts Q → ∃ ds ε' Hs', Ex Hs Hs' ∧ RelS K F Hs' σ H ε' ∧ Reps K Hs' vs ds ∧ Q ds ε'
  | [], _, Hs, ε, Q, R, .nil, q => ⟨[], ε, Hs, Evl.Ex.refl _, R, .nil, q⟩
  | t :: ts, _, Hs, ε, Q, R, .cons r rs, q => by
    obtain ⟨d, ε1, Hs1, e1, R1, p1, q1⟩ := R.out r q
    obtain ⟨ds, ε2, Hs2, e2, R2, p2, q2⟩ := RelS.outs R1 (rs.mono e1) q1
    exact ⟨d :: ds, ε2, Hs2, e1.trans e2, R2, .cons (p1.mono e2) p2, q2⟩
theorem RelS.ress (R : RelS K F Hs σ H ε) : ∀ {ts : List T} {vs : List V} {Q : List D → Prop}, RepTs K Hs σ vs ts → ress ε ts Q → ∃ ds, RepVs K Hs H vs ds ∧ Q ds
  | [], _, Q, .nil, q => ⟨[], .nil, q⟩
  | t :: ts, _, Q, .cons r rs, q => by
    obtain ⟨d, p1, q1⟩ := R.res r q
    obtain ⟨ds, p2, q2⟩ := RelS.ress R rs q1
    exact ⟨d :: ds, .cons p1 p2, q2⟩
end

section
variable {X : Cx} {W : WX} {Ξ : Xi} {a b c : Expr} {es : List Expr} {pos : Pos}

/-! ### names, constants -/
def yVar (i : Nat) : PTE := fun ε Q => match ε[i]? with
  | some (some (.v d)) => Q (.d d) ε
  | some (some (.o _)) => Q (.l i) ε
  | some (some (.od _)) => Q (.l i) ε
  | _ => False
theorem ye_var (i : Nat) {x : Str} {pos : Pos} (hN : X.N[i]? = some x := by rfl) (hv : Vis X.env.scope x := by first | exact Or.inl rfl | exact Or.inr (Or.inl rfl) | exact Or.inr (Or.inr rfl)) (hd : (x == ("__debug__" : Str)) = false := by decide)
    (hcd : (x == ("__classdict__" : Str)) = false := by decide) : YE X W Ξ (.Name x pos) (yVar i) := by
  refine ⟨tVar i, pe_var hN hv hd hcd, fun F Hs σ H ε Q' Q R _ q k => ?_⟩
  unfold yVar at q
  split at q
  · rename_i d e
    obtain ⟨v, h1, h2⟩ := R.sl i _ e
    exact ⟨v, h1, k v H Hs (.d d) ε (Evl.Ex.refl _) R h2 q⟩
  · rename_i ds e
    obtain ⟨p, vs, h1, _⟩ := R.sl i _ e
    exact ⟨_, h1, k _ H Hs (.l i) ε (Evl.Ex.refl _) R h1 q⟩
  · rename_i ds e
    obtain ⟨p, vs, h1, _⟩ := R.sl i _ e
    exact ⟨_, h1, k _ H Hs (.l i) ε (Evl.Ex.refl _) R h1 q⟩
  · exact q.elim
def yC (d : D) : PTE := fun ε Q => Q (.d d) ε
theorem ye_c {v : V} {d : D} (h : PE X a (tC v)) (r : ∀ K H, Rep K H v d) : YE X W Ξ a (yC d) := ⟨_, h, fun F Hs σ H ε Q' Q R _ q k => k v H Hs (.d d) ε (Evl.Ex.refl _) R (r _ _) q⟩
theorem ye_int {i : Int} {j : Nat} : YE X W Ξ (.Constant (.int i) j pos) (yC (.int i)) := ye_c pe_int fun _ _ => .int i
theorem ye_bl {i : Bool} {j : Nat} : YE X W Ξ (.Constant (.bool i) j pos) (yC (.bl i)) := ye_c pe_bl fun _ _ => .bl i
theorem ye_non {j : Nat} : YE X W Ξ (.Constant .none j pos) (yC .non) := ye_c pe_non fun _ _ => .non
theorem ye_str {x : Str} {j : Nat} : YE X W Ξ (.Constant (.str x) j pos) (yC (.str x)) := ye_c pe_str fun _ _ => .str x
/-- a module's constant -/
theorem ye_glob {x : Str} {d : D} {v : V} {u : Value} (hg : Gl X x) (hm : X.mg x = some u) (r : RelV v u) (rd : ∀ K H, Rep K H v d) (hd : (x == ("__debug__" : Str)) = false := by decide) : YE X W Ξ (.Name x pos) (yC d) := ye_c (pe_glob hg hm r hd) rd

/-- a new list that is handed on -/
def yNew (r : PTN) : PTE := fun ε Q => r ε fun ds ε' => Q (.d (.lst ds)) ε'
theorem YN.ye {r : PTN} (h : YN X W Ξ a r) : YE X W Ξ a (yNew r) := by
  obtain ⟨t, h1, h2⟩ := h.ex
  refine ⟨t, h1, fun F Hs σ H ε Q' Q R L q k => h2 F Hs σ H ε _ Q R L q fun p H' Hs' vs ds ε' e R' g1 g2 g3 g4 rs q' => ?_⟩
  exact k (.ref p) H' _ _ ε' (e.trans (ex_upd g2)) (R'.adopt g1 g2 g3 g4) (show RepT X.K _ σ _ (.d (.lst ds)) from .lst upd_same (rs.mono (ex_upd g2))) q'

/-! ### operators -/
abbrev OP2 := D → D → (D → Prop) → Prop
def OpY (X : Cx) (f : Value → Value → Sem Value) (o : OP2) : Prop := ∃ r, OpR X f r ∧ ∀ (F Hs : Hp) (σ : St) (H : Hp) (ε : PEnv) (v w : V) (d1 d2 : D) (Q' : D → Prop) (Q : VK), RelS X.K F Hs σ H ε → RepV X.K Hs H v d1 → RepV X.K Hs H w d2 → o d1 d2 Q' →
  (∀ z H' Hs' d, Ex Hs Hs' → RelS X.K F Hs' σ H' ε → Rep X.K Hs' z d → Q' d → Q z H') → r v w H Q
def yBin (o : OP2) (ra rb : PTE) : PTE := fun ε Q => ra ε fun t1 ε1 => rb ε1 fun t2 ε2 => res ε2 t1 fun d1 => res ε2 t2 fun d2 => o d1 d2 fun d => Q (.d d) ε2
theorem bin_core {f : Value → Value → Sem Value} {o : OP2} {r : R2} {ra rb : PTE} {ta tb : TE} (h : ∀ (F Hs : Hp) (σ : St) (H : Hp) (ε : PEnv) (v w : V) (d1 d2 : D) (Q' : D → Prop) (Q : VK), RelS X.K F Hs σ H ε → RepV X.K Hs H v d1 → RepV X.K Hs H w d2 → o d1 d2 Q' →
  (∀ z H' Hs' d, Ex Hs Hs' → RelS X.K F Hs' σ H' ε → Rep X.K Hs' z d → Q' d → Q z H') → r v w H Q)
    (ka : ∀ (F Hs : Hp) (σ : St) (H : Hp) (ε : PEnv) (Q' : T → PEnv → Prop) (Q : VK), RelS X.K F Hs σ H ε → Lk X.K F Hs W Ξ → ra ε Q' → KE X.K F Hs σ Q' Q → ta σ H Q)
    (kb : ∀ (F Hs : Hp) (σ : St) (H : Hp) (ε : PEnv) (Q' : T → PEnv → Prop) (Q : VK), RelS X.K F Hs σ H ε → Lk X.K F Hs W Ξ → rb ε Q' → KE X.K F Hs σ Q' Q → tb σ H Q)
    (F Hs : Hp) (σ : St) (H : Hp) (ε : PEnv) (Q' : D → PEnv → Prop) (Q : VK) (R : RelS X.K F Hs σ H ε) (L : Lk X.K F Hs W Ξ)
    (q : ra ε fun t1 ε1 => rb ε1 fun t2 ε2 => res ε2 t1 fun d1 => res ε2 t2 fun d2 => o d1 d2 fun d => Q' d ε2)
    (k : ∀ z H' Hs' d ε', Ex Hs Hs' → RelS X.K F Hs' σ H' ε' → Rep X.K Hs' z d → Q' d ε' → Q z H') : tOp r ta tb σ H Q := by
  refine ka F Hs σ H ε _ _ R L q fun v H1 Hs1 t1 ε1 e1 R1 p1 q1 => ?_
  refine kb F Hs1 σ H1 ε1 _ _ R1 (L.mono e1) q1 fun w H2 Hs2 t2 ε2 e2 R2 p2 q2 => ?_
  obtain ⟨d1, v1, q3⟩ := R2.res (p1.mono e2) q2
  obtain ⟨d2, v2, q4⟩ := R2.res p2 q3
  exact h F Hs2 σ H2 ε2 v w d1 d2 _ Q R2 v1 v2 q4 fun z H' Hs' d e3 R3 p3 q5 => k z H' Hs' d ε2 ((e1.trans e2).trans e3) R3 p3 q5
theorem ye_bin {op : Operator} {o : OP2} {ra rb : PTE} (ho : OpY X (binaryOp op) o) (ha : YE X W Ξ a ra) (hb : YE X W Ξ b rb) : YE X W Ξ (.BinOp a op b pos) (yBin o ra rb) := by
  obtain ⟨r, hr, h⟩ := ho
  obtain ⟨ta, pa, ka⟩ := ha.ex
  obtain ⟨tb, pb, kb⟩ := hb.ex
  exact ⟨_, pe_op hr pa pb, fun F Hs σ H ε Q' Q R L q k => bin_core (f := binaryOp op) h ka kb F Hs σ H ε (fun d ε' => Q' (.d d) ε') Q R L q fun z H' Hs' d ε' e R' p q' => k z H' Hs' (.d d) ε' e R' p q'⟩
theorem ye_cmp {op : CmpOp} {o : OP2} {ra rb : PTE} (ho : OpY X (compareOp op) o) (ha : YE X W Ξ a ra) (hb : YE X W Ξ b rb) (hm : behindInMarks op b = false := by first | exact nomark _ | rfl) : YE X W Ξ (.Compare a [op] [b] pos) (yBin o ra rb) := by
  obtain ⟨r, hr, h⟩ := ho
  obtain ⟨ta, pa, ka⟩ := ha.ex
  obtain ⟨tb, pb, kb⟩ := hb.ex
  exact ⟨_, pe_cmpR hr pa pb hm, fun F Hs σ H ε Q' Q R L q k => bin_core (f := compareOp op) h ka kb F Hs σ H ε (fun d ε' => Q' (.d d) ε') Q R L q fun z H' Hs' d ε' e R' p q' => k z H' Hs' (.d d) ε' e R' p q'⟩
def asB (Q : Bool → Prop) : D → Prop
  | .bl b => Q b
  | _ => False
def yBinT (o : OP2) (ra rb : PTE) : PTT := fun ε Q => ra ε fun t1 ε1 => rb ε1 fun t2 ε2 => res ε2 t1 fun d1 => res ε2 t2 fun d2 => o d1 d2 (asB fun b => Q b ε2)
theorem asB_rep {K : PySem.W.Frag} {H : Hp} {z : V} {d : D} {Q : Bool → Prop} (p : Rep K H z d) (q : asB Q d) : ∃ b, z = .bl b ∧ Q b := by
  cases d with
  | bl b => cases p; exact ⟨b, rfl, q⟩
  | _ => exact False.elim q
theorem yt_cmp {op : CmpOp} {o : OP2} {ra rb : PTE} (ho : OpY X (compareOp op) o) (ha : YE X W Ξ a ra) (hb : YE X W Ξ b rb) (hm : behindInMarks op b = false := by first | exact nomark _ | rfl) : YT X W Ξ (.Compare a [op] [b] pos) (yBinT o ra rb) := by
  obtain ⟨r, hr, h⟩ := ho
  obtain ⟨ta, pa, ka⟩ := ha.ex
  obtain ⟨tb, pb, kb⟩ := hb.ex
  refine ⟨_, pt_cmpR hr pa pb hm, fun F Hs σ H ε Q' Q R L q k => ?_⟩
  refine bin_core (f := compareOp op) h ka kb F Hs σ H ε (fun d ε' => asB (fun b => Q' b ε') d) (fun x H' => ∃ k, x = .bl k ∧ Q k H') R L q fun z H' Hs' d ε' e R' p q' => ?_
  obtain ⟨b, e2, q2⟩ := asB_rep p q'
  exact ⟨b, e2, k b H' Hs' ε' e R' q2⟩
/-- a < b < c, b asked once -/
def yChain (o o' : OP2) (ra rb rc : PTE) : PTE := fun ε Q => ra ε fun t1 ε1 => rb ε1 fun t2 ε2 => res ε2 t1 fun d1 => res ε2 t2 fun d2 => o d1 d2 (asB fun k => match k with
  | true => rc ε2 fun t3 ε3 => res ε3 t2 fun d2 => res ε3 t3 fun d3 => o' d2 d3 fun d => Q (.d d) ε3
  | false => Q (.d (.bl false)) ε2)

/-! ### tests -/
def yB (r : PTE) : PTT := fun ε Q => r ε fun t ε' => res ε' t (asB fun b => Q b ε')
theorem yt_val {r : PTE} (h : YE X W Ξ a r) (he : ∀ whole, isTrue a X.env whole = (do let v ← whole; standAt a.pos; holding [v] (truthy v)) := by intro _; rfl) : YT X W Ξ a (yB r) := by
  obtain ⟨t, p, k⟩ := h.ex
  refine ⟨_, pt_val p he, fun F Hs σ H ε Q' Q R L q kk => k F Hs σ H ε _ _ R L q fun v H' Hs' t ε' e R' p' q' => ?_⟩
  obtain ⟨d, rv, q2⟩ := R'.res p' q'
  cases d with
  | bl b => exact ⟨b, rv.bl', kk b H' Hs' ε' e R' q2⟩
  | _ => exact False.elim q2
/-- a value's truth -/
def truD : D → (Bool → Prop) → Prop
  | .non, Q => Q false
  | .bl b, Q => Q b
  | .int i, Q => Q (i != 0)
  | .str x, Q => gd (x.length ≤ 16777216) (Q ((x.length : Int) != 0))
  | .lst xs, Q => Q (!xs.isEmpty)
  | .tup xs, Q => Q (!xs.isEmpty)
  | .dic xs, Q => Q (!xs.isEmpty)
  | _, _ => False
def yTru (r : PTE) : PTT := fun ε Q => r ε fun t ε' => res ε' t fun d => truD d fun b => Q b ε'
theorem Reps.isEmpty {K : PySem.W.Frag} {H : Hp} {vs : List V} {ds : List D} (r : Reps K H vs ds) : vs.isEmpty = ds.isEmpty := by
  cases r <;> rfl
theorem line_le {n : Nat} (h : n ≤ 16777216) : n ≤ sizeLine := by rw [sizeLine_eq]; exact h
theorem line_lt {n : Nat} (h : n < 16777216) : n < sizeLine := by rw [sizeLine_eq]; exact h
theorem truD_ok {K : PySem.W.Frag} {F Hs H : Hp} {σ : St} {ε : PEnv} {v : V} {d : D} {Q : Bool → Prop} (R : RelS K F Hs σ H ε) (h : RepV K Hs H v d) (q : truD d Q) : ∃ b, TruV K v H b ∧ Q b := by
  cases d with
  | non => rw [h.non']; exact ⟨false, rfl, q⟩
  | bl b => rw [h.bl']; exact ⟨b, rfl, q⟩
  | int i => rw [h.int']; exact ⟨_, rfl, q⟩
  | str x => rw [h.str']; exact ⟨_, ⟨line_le (gd_elim q).1, rfl⟩, (gd_elim q).2⟩
  | lst xs =>
    obtain ⟨p, vs, e, h1, h2⟩ := h.lst' R.ex
    rw [e]
    exact ⟨_, .inl ⟨vs, SqL.of h1, rfl⟩, by rw [h2.isEmpty]; exact q⟩
  | tup xs =>
    obtain ⟨p, vs, e, h1, h2⟩ := h.tup' R.ex
    rw [e]
    exact ⟨_, .inr (.inl ⟨vs, h1, rfl⟩), by rw [h2.isEmpty]; exact q⟩
  | dic xs =>
    obtain ⟨p, vs, e, h1, h2, h3⟩ := h.dic' R.ex
    rw [e]
    refine ⟨_, .inr (.inr ⟨vs, h1, rfl⟩), ?_⟩
    have : vs.isEmpty = xs.isEmpty := by
      have e2 := congrArg List.isEmpty h2
      rw [List.isEmpty_map, List.isEmpty_map] at e2
      exact e2
    rw [this]
    exact q
  | _ => exact False.elim q
theorem yt_tru {r : PTE} (h : YE X W Ξ a r) (he : ∀ whole, isTrue a X.env whole = (do let v ← whole; standAt a.pos; holding [v] (truthy v)) := by intro _; rfl) : YT X W Ξ a (yTru r) := by
  obtain ⟨t, p, k⟩ := h.ex
  refine ⟨_, pt_truth p he, fun F Hs σ H ε Q' Q R L q kk => k F Hs σ H ε _ _ R L q fun v H' Hs' t ε' e R' p' q' => ?_⟩
  obtain ⟨d, rv, q2⟩ := R'.res p' q'
  obtain ⟨b, h1, h2⟩ := truD_ok R' rv q2
  exact ⟨b, h1, kk b H' Hs' ε' e R' h2⟩
def yAnd (ra rb : PTT) : PTT := fun ε Q => ra ε fun k ε' => match k with
  | true => rb ε' Q
  | false => Q false ε'
def yOr (ra rb : PTT) : PTT := fun ε Q => ra ε fun k ε' => match k with
  | true => Q true ε'
  | false => rb ε' Q
def yNot (ra : PTT) : PTT := fun ε Q => ra ε fun k ε' => Q (!k) ε'
theorem YW.yt {r : PTT} (h : YW X W Ξ a r) : YT X W Ξ a r := by
  obtain ⟨t, p, k⟩ := h.ex
  exact ⟨t, p.pt, k⟩
theorem yw_and1 {r : PTT} (h : YT X W Ξ a r) : YW X W Ξ (.BoolOp .And [a] pos) r := by
  obtain ⟨t, p, k⟩ := h.ex
  exact ⟨t, pw_and1 p, k⟩
theorem yw_or1 {r : PTT} (h : YT X W Ξ a r) : YW X W Ξ (.BoolOp .Or [a] pos) r := by
  obtain ⟨t, p, k⟩ := h.ex
  exact ⟨t, pw_or1 p, k⟩
theorem yw_and {ra rb : PTT} (ha : YT X W Ξ a ra) (hb : YW X W Ξ (.BoolOp .And (b :: es) pos) rb) : YW X W Ξ (.BoolOp .And (a :: b :: es) pos) (yAnd ra rb) := by
  obtain ⟨ta, pa, ka⟩ := ha.ex
  obtain ⟨tb, pb, kb⟩ := hb.ex
  refine ⟨_, pw_and pa pb, fun F Hs σ H ε Q' Q R L q k => ka F Hs σ H ε _ _ R L q fun c H1 Hs1 ε1 e1 R1 q1 => ?_⟩
  cases c with
  | true =>
    show (if true = true then _ else _)
    rw [if_pos rfl]
    exact kb F Hs1 σ H1 ε1 _ _ R1 (L.mono e1) q1 fun c' H2 Hs2 ε2 e2 R2 q2 => k c' H2 Hs2 ε2 (e1.trans e2) R2 q2
  | false =>
    show (if false = true then _ else _)
    rw [if_neg Bool.false_ne_true]
    exact k false H1 Hs1 ε1 e1 R1 q1
theorem yw_or {ra rb : PTT} (ha : YT X W Ξ a ra) (hb : YW X W Ξ (.BoolOp .Or (b :: es) pos) rb) : YW X W Ξ (.BoolOp .Or (a :: b :: es) pos) (yOr ra rb) := by
  obtain ⟨ta, pa, ka⟩ := ha.ex
  obtain ⟨tb, pb, kb⟩ := hb.ex
  refine ⟨_, pw_or pa pb, fun F Hs σ H ε Q' Q R L q k => ka F Hs σ H ε _ _ R L q fun c H1 Hs1 ε1 e1 R1 q1 => ?_⟩
  cases c with
  | true =>
    show (if true = true then _ else _)
    rw [if_pos rfl]
    exact k true H1 Hs1 ε1 e1 R1 q1
  | false =>
    show (if false = true then _ else _)
    rw [if_neg Bool.false_ne_true]
    exact kb F Hs1 σ H1 ε1 _ _ R1 (L.mono e1) q1 fun c' H2 Hs2 ε2 e2 R2 q2 => k c' H2 Hs2 ε2 (e1.trans e2) R2 q2
theorem yt_not {r : PTT} (h : YT X W Ξ a r) : YT X W Ξ (.UnaryOp .Not a pos) (yNot r) := by
  obtain ⟨t, p, k⟩ := h.ex
  exact ⟨_, pt_not p, fun F Hs σ H ε Q' Q R L q kk => k F Hs σ H ε _ _ R L q fun c H' Hs' ε' e R' q' => kk (!c) H' Hs' ε' e R' q'⟩
/-! .. as values -/
def yAndV (ra rb : PTE) : PTE := fun ε Q => ra ε fun t ε' => res ε' t (asB fun k => match k with
  | true => rb ε' Q
  | false => Q (.d (.bl false)) ε')
def yOrV (ra rb : PTE) : PTE := fun ε Q => ra ε fun t ε' => res ε' t (asB fun k => match k with
  | true => Q (.d (.bl true)) ε'
  | false => rb ε' Q)
def yNotV (ra : PTE) : PTE := fun ε Q => ra ε fun t ε' => res ε' t fun d => truD d fun k => Q (.d (.bl (!k))) ε'
theorem ye_one {op : BoolOp} {r : PTE} (h : YE X W Ξ a r) : YE X W Ξ (.BoolOp op [a] pos) r := by
  obtain ⟨t, p, k⟩ := h.ex
  exact ⟨t, pe_one p, k⟩
theorem ye_and {ra rb : PTE} (ha : YE X W Ξ a ra) (hb : YE X W Ξ (.BoolOp .And (b :: es) pos) rb) : YE X W Ξ (.BoolOp .And (a :: b :: es) pos) (yAndV ra rb) := by
  obtain ⟨ta, pa, ka⟩ := ha.ex
  obtain ⟨tb, pb, kb⟩ := hb.ex
  refine ⟨_, pe_and pa pb, fun F Hs σ H ε Q' Q R L q k => ka F Hs σ H ε _ _ R L q fun v H1 Hs1 t1 ε1 e1 R1 p1 q1 => ?_⟩
  obtain ⟨d, rv, q2⟩ := R1.res p1 q1
  cases d with
  | bl c =>
    refine ⟨c, rv.bl', ?_⟩
    cases c with
    | true =>
      show tb σ H1 Q
      exact kb F Hs1 σ H1 ε1 _ _ R1 (L.mono e1) q2 fun v' H2 Hs2 t2 ε2 e2 R2 p2 q3 => k v' H2 Hs2 t2 ε2 (e1.trans e2) R2 p2 q3
    | false =>
      show Q (.bl false) H1
      exact k _ H1 Hs1 (.d (.bl false)) ε1 e1 R1 (.bl false) q2
  | _ => exact False.elim q2
theorem ye_or {ra rb : PTE} (ha : YE X W Ξ a ra) (hb : YE X W Ξ (.BoolOp .Or (b :: es) pos) rb) : YE X W Ξ (.BoolOp .Or (a :: b :: es) pos) (yOrV ra rb) := by
  obtain ⟨ta, pa, ka⟩ := ha.ex
  obtain ⟨tb, pb, kb⟩ := hb.ex
  refine ⟨_, pe_or pa pb, fun F Hs σ H ε Q' Q R L q k => ka F Hs σ H ε _ _ R L q fun v H1 Hs1 t1 ε1 e1 R1 p1 q1 => ?_⟩
  obtain ⟨d, rv, q2⟩ := R1.res p1 q1
  cases d with
  | bl c =>
    refine ⟨c, rv.bl', ?_⟩
    cases c with
    | true =>
      show Q (.bl true) H1
      exact k _ H1 Hs1 (.d (.bl true)) ε1 e1 R1 (.bl true) q2
    | false =>
      show tb σ H1 Q
      exact kb F Hs1 σ H1 ε1 _ _ R1 (L.mono e1) q2 fun v' H2 Hs2 t2 ε2 e2 R2 p2 q3 => k v' H2 Hs2 t2 ε2 (e1.trans e2) R2 p2 q3
  | _ => exact False.elim q2
def yIf (rt : PTT) (ra rb : PTE) : PTE := fun ε Q => rt ε fun k ε' => match k with
  | true => ra ε' Q
  | false => rb ε' Q
theorem ye_if {rt : PTT} {ra rb : PTE} (hc : YT X W Ξ c rt) (ha : YE X W Ξ a ra) (hb : YE X W Ξ b rb) : YE X W Ξ (.IfExp c a b pos) (yIf rt ra rb) := by
  obtain ⟨tc, pc, kc⟩ := hc.ex
  obtain ⟨ta, pa, ka⟩ := ha.ex
  obtain ⟨tb, pb, kb⟩ := hb.ex
  refine ⟨_, pe_ifExp pc pa pb, fun F Hs σ H ε Q' Q R L q k => kc F Hs σ H ε _ _ R L q fun c H1 Hs1 ε1 e1 R1 q1 => ?_⟩
  cases c with
  | true =>
    show (if true = true then _ else _)
    rw [if_pos rfl]
    exact ka F Hs1 σ H1 ε1 _ _ R1 (L.mono e1) q1 fun v' H2 Hs2 t2 ε2 e2 R2 p2 q3 => k v' H2 Hs2 t2 ε2 (e1.trans e2) R2 p2 q3
  | false =>
    show (if false = true then _ else _)
    rw [if_neg Bool.false_ne_true]
    exact kb F Hs1 σ H1 ε1 _ _ R1 (L.mono e1) q1 fun v' H2 Hs2 t2 ε2 e2 R2 p2 q3 => k v' H2 Hs2 t2 ε2 (e1.trans e2) R2 p2 q3

/-! ### arguments, displays, calls -/
def ylNil : PTL := fun ε Q => Q [] ε
def ylCons (r : PTE) (rs : PTL) : PTL := fun ε Q => r ε fun t ε1 => rs ε1 fun ts ε2 => Q (t :: ts) ε2
theorem yl_nil : YL X W Ξ [] ylNil := ⟨tNil, pa_nil, fun F Hs σ H ε Q' Q R _ q k => k [] H Hs [] ε (Evl.Ex.refl _) R .nil q⟩
theorem yl_cons {r : PTE} {rs : PTL} (h : YE X W Ξ a r) (hs : YL X W Ξ es rs) (hst : starEach (a :: es) X.env = (false, eval a X.env) :: starEach es X.env := by rfl) : YL X W Ξ (a :: es) (ylCons r rs) := by
  obtain ⟨t, p, k⟩ := h.ex
  obtain ⟨ts, ps, ks⟩ := hs.ex
  refine ⟨_, pa_cons p ps hst, fun F Hs σ H ε Q' Q R L q kk => k F Hs σ H ε _ _ R L q fun v H1 Hs1 t1 ε1 e1 R1 p1 q1 => ?_⟩
  exact ks F Hs1 σ H1 ε1 _ _ R1 (L.mono e1) q1 fun vs H2 Hs2 t2 ε2 e2 R2 p2 q2 => kk (v :: vs) H2 Hs2 (t1 :: t2) ε2 (e1.trans e2) R2 (.cons (p1.mono e2) p2) q2
/-- [a, b, ..] -/
def ynLst (rs : PTL) : PTN := fun ε Q => rs ε fun ts ε1 => outs ε1 ts fun ds ε2 => gd (ds.length ≤ 16777216) (Q ds ε2)
theorem yn_lst {rs : PTL} (h : YL X W Ξ es rs) : YN X W Ξ (.List es pos) (ynLst rs) := by
  obtain ⟨ts, ps, ks⟩ := h.ex
  refine ⟨_, pe_lst ps, fun F Hs σ H ε Q' Q R L q k => ks F Hs σ H ε _ _ R L q fun vs H1 Hs1 t1 ε1 e1 R1 p1 q1 => ?_⟩
  obtain ⟨ds, ε2, Hs2, e2, R2, rs, hq⟩ := R1.outs p1 q1
  obtain ⟨hl, q2⟩ := gd_elim hq
  refine ⟨by rw [rs.len]; exact line_le hl, fun p hp => ?_⟩
  obtain ⟨n1, n2, n3⟩ := R2.nobody hp
  exact k p _ Hs2 vs ds ε2 (e1.trans e2) (R2.lay hp) upd_same n1 n2 n3 rs q2
/-- (a, b, ..) -/
def yTup (rs : PTL) : PTE := fun ε Q => rs ε fun ts ε1 => outs ε1 ts fun ds ε2 => gd (ds.length ≤ 16777216) (Q (.d (.tup ds)) ε2)
theorem ye_tup {rs : PTL} {k : Nat} (h : YL X W Ξ es rs) : YE X W Ξ (.Tuple es k pos) (yTup rs) := by
  obtain ⟨ts, ps, ks⟩ := h.ex
  refine ⟨_, pe_tup ps, fun F Hs σ H ε Q' Q R L q k => ks F Hs σ H ε _ _ R L q fun vs H1 Hs1 t1 ε1 e1 R1 p1 q1 => ?_⟩
  obtain ⟨ds, ε2, Hs2, e2, R2, rs, hq⟩ := R1.outs p1 q1
  obtain ⟨hl, q2⟩ := gd_elim hq
  refine ⟨by rw [rs.len]; exact line_le hl, fun p hp => ?_⟩
  obtain ⟨R3, e3⟩ := R2.new (o := .tup vs) hp
  exact k (.ref p) _ _ (.d (.tup ds)) ε2 ((e1.trans e2).trans e3) R3 (show Rep X.K _ _ (.tup ds) from .tup (SqT.of upd_same) (rs.mono e3)) q2

/-- a built-in's call, by data -/
abbrev OPC := List D → (D → Prop) → Prop
def CallY (X : Cx) (f : Value) (o : OPC) : Prop := ∃ r, CallR X f r ∧ ∀ (F Hs : Hp) (σ : St) (H : Hp) (ε : PEnv) (vs : List V) (ds : List D) (Q' : D → Prop) (Q : VK), RelS X.K F Hs σ H ε → RepVs X.K Hs H vs ds → o ds Q' →
  (∀ z H' Hs' d, Ex Hs Hs' → RelS X.K F Hs' σ H' ε → Rep X.K Hs' z d → Q' d → Q z H') → r vs H Q
/-- .. that makes a list -/
def CallN (X : Cx) (f : Value) (o : List D → (List D → Prop) → Prop) : Prop := ∃ r, CallR X f r ∧ ∀ (F Hs : Hp) (σ : St) (H : Hp) (ε : PEnv) (vs : List V) (ds : List D) (Q' : List D → Prop) (Q : VK), RelS X.K F Hs σ H ε → RepVs X.K Hs H vs ds → o ds Q' →
  (∀ p ws es, H p = none → Reps X.K Hs ws es → Q' es → Q (.ref p) (upd H p (.lst ws))) → r vs H Q
def yCB (o : OPC) (rs : PTL) : PTE := fun ε Q => rs ε fun ts ε1 => ress ε1 ts fun ds => o ds fun d => Q (.d d) ε1
def ynCB (o : List D → (List D → Prop) → Prop) (rs : PTL) : PTN := fun ε Q => rs ε fun ts ε1 => ress ε1 ts fun ds => o ds fun d => Q d ε1
section
variable {x : Str} {p : Pos} {id ty : String} {rs : PTL}
theorem cb_core {f : Value} {o : OPC} {r : List V → Hp → VK → Prop} {ta : TA} (h : ∀ (F Hs : Hp) (σ : St) (H : Hp) (ε : PEnv) (vs : List V) (ds : List D) (Q' : D → Prop) (Q : VK), RelS X.K F Hs σ H ε → RepVs X.K Hs H vs ds → o ds Q' →
  (∀ z H' Hs' d, Ex Hs Hs' → RelS X.K F Hs' σ H' ε → Rep X.K Hs' z d → Q' d → Q z H') → r vs H Q)
    (ka : ∀ (F Hs : Hp) (σ : St) (H : Hp) (ε : PEnv) (Q' : List T → PEnv → Prop) (Q : List V → Hp → Prop), RelS X.K F Hs σ H ε → Lk X.K F Hs W Ξ → rs ε Q' → KL X.K F Hs σ Q' Q → ta σ H Q)
    (F Hs : Hp) (σ : St) (H : Hp) (ε : PEnv) (Q' : T → PEnv → Prop) (Q : VK) (R : RelS X.K F Hs σ H ε) (L : Lk X.K F Hs W Ξ) (q : yCB o rs ε Q') (k : KE X.K F Hs σ Q' Q) : tCB r ta σ H Q := by
  refine ka F Hs σ H ε _ _ R L q fun vs H1 Hs1 t1 ε1 e1 R1 p1 q1 => ?_
  obtain ⟨ds, rv, q2⟩ := R1.ress p1 q1
  exact h F Hs1 σ H1 ε1 vs ds _ Q R1 rv q2 fun z H' Hs' d e2 R2 p2 q3 => k z H' Hs' (.d d) ε1 (e1.trans e2) R2 p2 q3
theorem ye_callB {o : OPC} (hc : CallY X (.builtin id) o) (hg : Gl X x) (hm : X.mg x = none) (hv : bootBuiltins x = some (.builtin id)) (h : YL X W Ξ (a :: es) rs) (hn : x ≠ "__name__" := by decide) (hdb : (x == ("__debug__" : Str)) = false := by decide)
    (he : starEach (a :: es) X.env = (false, eval a X.env) :: starEach es X.env := by rfl) (hpl : (backTo pos (starEach es X.env)).any (·.1) = false := by rfl) : YE X W Ξ (.Call (.Name x p) (a :: es) [] pos) (yCB o rs) := by
  obtain ⟨r, hr, hh⟩ := hc
  obtain ⟨ts, ps, ks⟩ := h.ex
  exact ⟨_, pe_callB hr hg hm hv ps hn hdb he hpl, cb_core (f := .builtin id) hh ks⟩
theorem ye_callTy {o : OPC} (hc : CallY X (.type ty) o) (hg : Gl X x) (hm : X.mg x = none) (hv : bootBuiltins x = some (.type ty)) (h : YL X W Ξ (a :: es) rs) (hn : x ≠ "__name__" := by decide) (hdb : (x == ("__debug__" : Str)) = false := by decide)
    (he : starEach (a :: es) X.env = (false, eval a X.env) :: starEach es X.env := by rfl) (hpl : (backTo pos (starEach es X.env)).any (·.1) = false := by rfl) : YE X W Ξ (.Call (.Name x p) (a :: es) [] pos) (yCB o rs) := by
  obtain ⟨r, hr, hh⟩ := hc
  obtain ⟨ts, ps, ks⟩ := h.ex
  exact ⟨_, pe_callTy hr hg hm hv ps hn hdb he hpl, cb_core (f := .type ty) hh ks⟩
theorem cn_core {f : Value} {o : List D → (List D → Prop) → Prop} {r : List V → Hp → VK → Prop} {ta : TA} (h : ∀ (F Hs : Hp) (σ : St) (H : Hp) (ε : PEnv) (vs : List V) (ds : List D) (Q' : List D → Prop) (Q : VK), RelS X.K F Hs σ H ε → RepVs X.K Hs H vs ds → o ds Q' →
  (∀ p ws es, H p = none → Reps X.K Hs ws es → Q' es → Q (.ref p) (upd H p (.lst ws))) → r vs H Q)
    (ka : ∀ (F Hs : Hp) (σ : St) (H : Hp) (ε : PEnv) (Q' : List T → PEnv → Prop) (Q : List V → Hp → Prop), RelS X.K F Hs σ H ε → Lk X.K F Hs W Ξ → rs ε Q' → KL X.K F Hs σ Q' Q → ta σ H Q)
    (F Hs : Hp) (σ : St) (H : Hp) (ε : PEnv) (Q' : List D → PEnv → Prop) (Q : VK) (R : RelS X.K F Hs σ H ε) (L : Lk X.K F Hs W Ξ) (q : ynCB o rs ε Q') (k : KN X.K F Hs σ Q' Q) : tCB r ta σ H Q := by
  refine ka F Hs σ H ε _ _ R L q fun vs H1 Hs1 t1 ε1 e1 R1 p1 q1 => ?_
  obtain ⟨ds, rv, q2⟩ := R1.ress p1 q1
  refine h F Hs1 σ H1 ε1 vs ds _ Q R1 rv q2 fun p ws es hp p2 q3 => ?_
  obtain ⟨n1, n2, n3⟩ := R1.nobody hp
  exact k p _ Hs1 ws es ε1 e1 (R1.lay hp) upd_same n1 n2 n3 p2 q3
theorem yn_callB {o : List D → (List D → Prop) → Prop} (hc : CallN X (.builtin id) o) (hg : Gl X x) (hm : X.mg x = none) (hv : bootBuiltins x = some (.builtin id)) (h : YL X W Ξ (a :: es) rs) (hn : x ≠ "__name__" := by decide) (hdb : (x == ("__debug__" : Str)) = false := by decide)
    (he : starEach (a :: es) X.env = (false, eval a X.env) :: starEach es X.env := by rfl) (hpl : (backTo pos (starEach es X.env)).any (·.1) = false := by rfl) : YN X W Ξ (.Call (.Name x p) (a :: es) [] pos) (ynCB o rs) := by
  obtain ⟨r, hr, hh⟩ := hc
  obtain ⟨ts, ps, ks⟩ := h.ex
  exact ⟨_, pe_callB hr hg hm hv ps hn hdb he hpl, cn_core (f := .builtin id) hh ks⟩
theorem yn_callTy {o : List D → (List D → Prop) → Prop} (hc : CallN X (.type ty) o) (hg : Gl X x) (hm : X.mg x = none) (hv : bootBuiltins x = some (.type ty)) (h : YL X W Ξ (a :: es) rs) (hn : x ≠ "__name__" := by decide) (hdb : (x == ("__debug__" : Str)) = false := by decide)
    (he : starEach (a :: es) X.env = (false, eval a X.env) :: starEach es X.env := by rfl) (hpl : (backTo pos (starEach es X.env)).any (·.1) = false := by rfl) : YN X W Ξ (.Call (.Name x p) (a :: es) [] pos) (ynCB o rs) := by
  obtain ⟨r, hr, hh⟩ := hc
  obtain ⟨ts, ps, ks⟩ := h.ex
  exact ⟨_, pe_callTy hr hg hm hv ps hn hdb he hpl, cn_core (f := .type ty) hh ks⟩
end

/-! ### a def's promise by data -/
abbrev Spec := List D → (D → Prop) → (Nat → Prop) → Prop
/-- others' objects stand as they stood -/
def Keeps (Hs H Hs' H' : Hp) : Prop := Ex Hs Hs' ∧ Ex Hs' H' ∧ ∀ p o, H p = some o → Hs p = none → H' p = some o ∧ Hs' p = none
def pSp (K : PySem.W.Frag) (φ : Spec) : Sp := fun vs H Q E => ∃ (Hs : Hp) (ds : List D) (Q' : D → Prop) (E' : Nat → Prop), Ex Hs H ∧ Reps K Hs vs ds ∧ φ ds Q' E' ∧
  (∀ d, Q' d → ∀ v H' Hs', Keeps Hs H Hs' H' → Rep K Hs' v d → Q v H') ∧ (∀ c, E' c → ∀ H' Hs', Keeps Hs H Hs' H' → E (.ref (exA K c)) none H')
/-- the caller's state behind a call -/
theorem RelS.called {K : PySem.W.Frag} {F Hs H Hs' H' : Hp} {σ : St} {ε : PEnv} (R : RelS K F Hs σ H ε) (k : Keeps Hs H Hs' H') : RelS K F Hs' σ H' ε := by
  obtain ⟨k1, k2, k3⟩ := k
  refine ⟨k2, fun p o e => ?_, R.len, fun i s e => ?_, R.ds⟩
  · obtain ⟨h1, h2⟩ := R.fr p o e
    exact k3 p o h1 h2
  · have z := R.sl i s e
    cases s with
    | v d =>
      obtain ⟨v, h1, h2⟩ := z
      exact ⟨v, h1, h2.mono k1⟩
    | o ds =>
      obtain ⟨p, vs, h1, h2, h3, h4, h5⟩ := z
      obtain ⟨g1, g2⟩ := k3 p _ h4 h2
      exact ⟨p, vs, h1, g2, h3, g1, h5.mono k1⟩
    | od ds =>
      obtain ⟨p, vs, h1, h2, h3, h4, h5, h6⟩ := z
      obtain ⟨g1, g2⟩ := k3 p _ h4 h2
      exact ⟨p, vs, h1, g2, h3, g1, h5, h6.mono k1⟩
def yCall (φ : Spec) (Ξ : Xi) (rs : PTL) : PTE := fun ε Q => rs ε fun ts ε1 => outs ε1 ts fun ds ε2 => φ ds (fun d => Q (.d d) ε2) fun c => Ξ c ε2
theorem ye_call {φ : Spec} {rs : PTL} {k : Nat} {f : Addr} {fd : FuncData} {ps : List Str} {x : Str} {p : Pos} (Fn : FnOk X.prog X.w X.K X.mg X.base (L2.CX X.prog X.w) k f fd ps (pSp X.K φ)) (tk : Takes X W) (hr : Room k X.A) (hg : Gl X x)
    (hm : X.mg x = some (.ref f)) (hk : PySem.W.keepIn X.K (.ref f) = true) (hb : Binds X.K fd ps []) (h : YL X W Ξ (a :: es) rs) (hdb : (x == ("__debug__" : Str)) = false := by decide)
    (he : starEach (a :: es) X.env = (false, eval a X.env) :: starEach es X.env := by rfl) (hpl : (backTo pos (starEach es X.env)).any (·.1) = false := by rfl) :
    YE X W Ξ (.Call (.Name x p) (a :: es) [] pos) (yCall φ Ξ rs) := by
  obtain ⟨ts, pas, ks⟩ := h.ex
  refine ⟨_, pe_callS Fn hr hg hm hk hb (fun σ => passAt tk σ) pas hdb he hpl, fun F Hs σ H ε Q' Q R L q k => ks F Hs σ H ε _ _ R L q fun vs H1 Hs1 t1 ε1 e1 R1 p1 q1 => ?_⟩
  obtain ⟨ds, ε2, Hs2, e2, R2, rs, q2⟩ := R1.outs p1 q1
  refine ⟨Hs2, ds, _, _, R2.ex, rs, q2, fun d qd v H' Hs' kp rv => ?_, fun c ec H' Hs' kp => ?_⟩
  · exact k v H' Hs' (.d d) ε2 ((e1.trans e2).trans kp.1) (R2.called kp) rv qd
  · exact L c σ H' Hs' ε2 ec ((e1.trans e2).trans kp.1) (R2.called kp)
end
end PL

set_option Elab.async false
set_option linter.all false
set_option autoImplicit false
set_option maxRecDepth 100000
set_option maxHeartbeats 2000000
/-! Operators, built-ins, subscripts, comprehensions, over plain data. -/
namespace PL
open PySem PySem.Spec PyProof.Rows L2
open Evl (Ex)
section
variable {X : Cx}

def oAdd : OP2
  | .int i, .int j, Q => Q (.int (i + j))
  | .str x, .str y, Q => gd (x.length + y.length ≤ 16777216) (Q (.str (x ++ y)))
  | .lst xs, .lst ys, Q => gd (xs.length + ys.length ≤ 16777216) (Q (.lst (xs ++ ys)))
  | _, _, _ => False
def rAddA : R2 := fun x y H Q => (∃ i j, x = .int i ∧ y = .int j ∧ Q (.int (i + j)) H) ∨ (∃ i j, x = .str i ∧ y = .str j ∧ i.length + j.length ≤ sizeLine ∧ Q (.str (i ++ j)) H) ∨ rCat x y H Q
theorem op_addA : OpR X (binaryOp .Add) rAddA := op_add.or (op_add_str.or op_cat)
theorem oy_add : OpY X (binaryOp .Add) oAdd := by
  refine ⟨_, op_addA, fun F Hs σ H ε v w d1 d2 Q' Q R r1 r2 q k => ?_⟩
  unfold oAdd at q
  split at q
  · exact .inl ⟨_, _, r1.int', r2.int', k _ H Hs _ (Evl.Ex.refl _) R (.int _) q⟩
  · have q := gd_elim q
    exact .inr (.inl ⟨_, _, r1.str', r2.str', line_le q.1, k _ H Hs _ (Evl.Ex.refl _) R (.str _) q.2⟩)
  · have q := gd_elim q
    obtain ⟨a, vs, e1, h1, p1⟩ := r1.lst' R.ex
    obtain ⟨b, ws, e2, h2, p2⟩ := r2.lst' R.ex
    refine .inr (.inr ⟨a, b, vs, ws, e1, e2, h1, h2, by rw [p1.len, p2.len]; exact line_le q.1, fun p hp => ?_⟩)
    obtain ⟨R3, e3⟩ := R.new (o := .lst (vs ++ ws)) hp
    exact k (.ref p) _ _ _ e3 R3 (.lst upd_same ((p1.append p2).mono e3)) q.2
  · exact q.elim
def catQ (d1 d2 : D) (Q : List D → Prop) : Prop := match d1, d2 with
  | .lst xs, .lst ys => gd (xs.length + ys.length ≤ 16777216) (Q (xs ++ ys))
  | _, _ => False
theorem catQ_elim {d1 d2 : D} {Q : List D → Prop} (h : catQ d1 d2 Q) : ∃ xs ys, d1 = .lst xs ∧ d2 = .lst ys ∧ xs.length + ys.length ≤ 16777216 ∧ Q (xs ++ ys) := by
  unfold catQ at h
  split at h
  · exact ⟨_, _, rfl, rfl, gd_elim h⟩
  · exact h.elim
/-- a + b, a new list that a name takes -/
def ynAdd (ra rb : PTE) : PTN := fun ε Q => ra ε fun t1 ε1 => rb ε1 fun t2 ε2 => res ε2 t1 fun d1 => res ε2 t2 fun d2 => catQ d1 d2 fun ds => Q ds ε2
theorem yn_add {W : WX} {Ξ : Xi} {a b : Expr} {pos : Pos} {ra rb : PTE} (ha : YE X W Ξ a ra) (hb : YE X W Ξ b rb) : YN X W Ξ (.BinOp a .Add b pos) (ynAdd ra rb) := by
  obtain ⟨ta, pa, ka⟩ := ha.ex
  obtain ⟨tb, pb, kb⟩ := hb.ex
  refine ⟨_, pe_op op_cat pa pb, fun F Hs σ H ε Q' Q R L q k => ?_⟩
  refine ka F Hs σ H ε _ _ R L q fun v H1 Hs1 t1 ε1 e1 R1 p1 q1 => ?_
  refine kb F Hs1 σ H1 ε1 _ _ R1 (L.mono e1) q1 fun w H2 Hs2 t2 ε2 e2 R2 p2 q2 => ?_
  obtain ⟨d1, v1, q3⟩ := R2.res (p1.mono e2) q2
  obtain ⟨d2, v2, q4⟩ := R2.res p2 q3
  obtain ⟨xs, ys, rfl, rfl, hl, q4⟩ := catQ_elim q4
  obtain ⟨a, vs, g1, h1, p1⟩ := v1.lst' R2.ex
  obtain ⟨b, ws, g2, h2, p2⟩ := v2.lst' R2.ex
  refine ⟨a, b, vs, ws, g1, g2, h1, h2, by rw [p1.len, p2.len]; exact line_le hl, fun p hp => ?_⟩
  obtain ⟨n1, n2, n3⟩ := R2.nobody hp
  exact k p _ Hs2 _ _ ε2 (e1.trans e2) (R2.lay hp) upd_same n1 n2 n3 (p1.append p2) q4
def oSub : OP2
  | .int i, .int j, Q => Q (.int (i - j))
  | _, _, _ => False
theorem oy_sub : OpY X (binaryOp .Sub) oSub := by
  refine ⟨_, op_sub, fun F Hs σ H ε v w d1 d2 Q' Q R r1 r2 q k => ?_⟩
  unfold oSub at q
  split at q
  · exact ⟨_, _, r1.int', r2.int', k _ H Hs _ (Evl.Ex.refl _) R (.int _) q⟩
  · exact q.elim
def oMul : OP2
  | .int i, .int j, Q => gd ((-18446744073709551616 < i ∧ i < 18446744073709551616) ∨ (-18446744073709551616 < j ∧ j < 18446744073709551616)) (Q (.int (i * j)))
  | .lst xs, .int k, Q => gd (-9223372036854775808 ≤ k ∧ k < 9223372036854775808 ∧ xs.length * k.toNat ≤ 16777216) (Q (.lst (List.replicate k.toNat xs).flatten))
  | _, _, _ => False
theorem Reps.rep {K : PySem.W.Frag} {H : Hp} {vs : List V} {ds : List D} (h : Reps K H vs ds) : ∀ k : Nat, Reps K H (List.replicate k vs).flatten (List.replicate k ds).flatten
  | 0 => .nil
  | k + 1 => by
    rw [List.replicate_succ, List.flatten_cons, List.replicate_succ, List.flatten_cons]
    exact h.append (Reps.rep h k)
theorem oy_mul : OpY X (binaryOp .Mult) oMul := by
  refine ⟨_, op_mul.or op_rep, fun F Hs σ H ε v w d1 d2 Q' Q R r1 r2 q k => ?_⟩
  unfold oMul at q
  split at q
  · have q := gd_elim q
    refine .inl ⟨_, _, r1.int', r2.int', ?_, k _ H Hs _ (Evl.Ex.refl _) R (.int _) q.2⟩
    exact q.1
  · have q := gd_elim q
    obtain ⟨a, vs, e1, h1, p1⟩ := r1.lst' R.ex
    refine .inr ⟨a, _, vs, e1, r2.int', h1, q.1.1, q.1.2.1, by rw [p1.len]; exact line_le q.1.2.2, fun p hp => ?_⟩
    obtain ⟨R3, e3⟩ := R.new (o := .lst (List.replicate (Int.toNat _) vs).flatten) hp
    exact k (.ref p) _ _ _ e3 R3 (.lst upd_same ((p1.rep _).mono e3)) q.2
  · exact q.elim
def oMod : OP2
  | .int i, .int j, Q => gd (0 < j) (Q (.int (i % j)))
  | _, _, _ => False
theorem oy_mod : OpY X (binaryOp .Mod) oMod := by
  refine ⟨_, op_mod, fun F Hs σ H ε v w d1 d2 Q' Q R r1 r2 q k => ?_⟩
  unfold oMod at q
  split at q
  · have q := gd_elim q
    exact ⟨_, _, r1.int', r2.int', q.1, k _ H Hs _ (Evl.Ex.refl _) R (.int _) q.2⟩
  · exact q.elim
def oFdiv : OP2
  | .int i, .int j, Q => gd (0 < j ∧ j < 1073741824) (Q (.int (i / j)))
  | _, _, _ => False
theorem oy_fdiv : OpY X (binaryOp .FloorDiv) oFdiv := by
  refine ⟨_, op_fdiv, fun F Hs σ H ε v w d1 d2 Q' Q R r1 r2 q k => ?_⟩
  unfold oFdiv at q
  split at q
  · have q := gd_elim q
    exact ⟨_, _, r1.int', r2.int', q.1, k _ H Hs _ (Evl.Ex.refl _) R (.int _) q.2⟩
  · exact q.elim
def oPow : OP2
  | .int i, .int j, Q => gd (0 ≤ j ∧ j ≤ 1000000 ∧ i.natAbs < 18446744073709551616) (Q (.int (i ^ j.toNat)))
  | _, _, _ => False
theorem oy_pow : OpY X (binaryOp .Pow) oPow := by
  refine ⟨_, op_pow, fun F Hs σ H ε v w d1 d2 Q' Q R r1 r2 q k => ?_⟩
  unfold oPow at q
  split at q
  · have q := gd_elim q
    exact ⟨_, _, r1.int', r2.int', q.1, k _ H Hs _ (Evl.Ex.refl _) R (.int _) q.2⟩
  · exact q.elim
def asI (Q : Int → Prop) : D → Prop
  | .int i => Q i
  | _ => False
theorem asI_elim {d : D} {Q : Int → Prop} (h : asI Q d) : ∃ i, d = .int i ∧ Q i := by
  cases d with
  | int i => exact ⟨i, rfl, h⟩
  | _ => exact h.elim
def yNeg (r : PTE) : PTE := fun ε Q => r ε fun t ε' => res ε' t (asI fun i => Q (.d (.int (-i))) ε')
theorem ye_neg {W : WX} {Ξ : Xi} {a : Expr} {pos : Pos} {r : PTE} (h : YE X W Ξ a r) : YE X W Ξ (.UnaryOp .USub a pos) (yNeg r) := by
  obtain ⟨t, p, k⟩ := h.ex
  refine ⟨_, pe_un un_neg p, fun F Hs σ H ε Q' Q R L q kk => k F Hs σ H ε _ _ R L q fun v H' Hs' t ε' e R' p' q' => ?_⟩
  obtain ⟨d, rv, q2⟩ := R'.res p' q'
  obtain ⟨i, rfl, q2⟩ := asI_elim q2
  exact ⟨i, rv.int', kk (.int (-i)) H' Hs' (.d (.int (-i))) ε' e R' (.int _) q2⟩

/-! ### comparisons -/
def oCmpI (f : Int → Int → Bool) : OP2
  | .int i, .int j, Q => Q (.bl (f i j))
  | _, _, _ => False
abbrev oLt : OP2 := oCmpI fun i j => decide (i < j)
abbrev oLe : OP2 := oCmpI fun i j => decide (i ≤ j)
abbrev oGt : OP2 := oCmpI fun i j => decide (j < i)
abbrev oGe : OP2 := oCmpI fun i j => decide (j ≤ i)
theorem oy_cmp {op : CmpOp} {f : Int → Int → Bool} (h : OpR X (compareOp op) (rI0 fun i j => .bl (f i j))) : OpY X (compareOp op) (oCmpI f) := by
  refine ⟨_, h, fun F Hs σ H ε v w d1 d2 Q' Q R r1 r2 q k => ?_⟩
  unfold oCmpI at q
  split at q
  · exact ⟨_, _, r1.int', r2.int', k _ H Hs _ (Evl.Ex.refl _) R (.bl _) q⟩
  · exact q.elim
theorem oy_lt : OpY X (compareOp .Lt) oLt := oy_cmp op_lt
theorem oy_le : OpY X (compareOp .LtE) oLe := oy_cmp op_le
theorem oy_gt : OpY X (compareOp .Gt) oGt := oy_cmp op_gt
theorem oy_ge : OpY X (compareOp .GtE) oGe := oy_cmp op_ge
/-- is None -/
def isNon : D → Bool
  | .non => true
  | _ => false
def knownB : D → Bool
  | .vl _ => false
  | _ => true
def known (d : D) : Prop := knownB d = true
def oIsN (neg : Bool) : OP2
  | d, .non, Q => match knownB d with
    | true => Q (.bl (match neg with
      | true => !isNon d
      | false => isNon d))
    | false => False
  | _, _, _ => False
theorem isN_rep {K : PySem.W.Frag} {Hs H : Hp} {v : V} {d : D} (h : RepV K Hs H v d) (hk : known d) : decide (v = .non) = isNon d := by
  cases h with
  | sc h => cases h <;> first | rfl | cases hk
  | lst _ _ => rfl
  | dic _ _ _ => rfl
theorem oy_isN : OpY X (compareOp .Is) (oIsN false) := by
  refine ⟨_, op_isN, fun F Hs σ H ε v w d1 d2 Q' Q R r1 r2 q k => ?_⟩
  unfold oIsN at q
  split at q
  · refine ⟨r2.non', ?_⟩
    split at q
    · rename_i hk
      rw [isN_rep r1 hk]
      exact k _ H Hs _ (Evl.Ex.refl _) R (.bl _) q
    · exact q.elim
  · exact q.elim
theorem oy_notN : OpY X (compareOp .IsNot) (oIsN true) := by
  refine ⟨_, op_notN, fun F Hs σ H ε v w d1 d2 Q' Q R r1 r2 q k => ?_⟩
  unfold oIsN at q
  split at q
  · refine ⟨r2.non', ?_⟩
    split at q
    · rename_i hk
      rw [isN_rep r1 hk]
      exact k _ H Hs _ (Evl.Ex.refl _) R (.bl _) q
    · exact q.elim
  · exact q.elim

mutual
def D.py : D → PyData
  | .non => .none
  | .bl b => .bool b
  | .int i => .int i
  | .str x => .str x
  | .lst xs => .list (D.pys xs)
  | .frl xs => .list (D.pys xs)
  | .tup xs => .tuple (D.pys xs)
  | _ => .dict []
def D.pys : List D → List PyData
  | [] => []
  | d :: ds => D.py d :: D.pys ds
end
section
variable {K : PySem.W.Frag} {H : Hp}
mutual
theorem Rep.dp : ∀ {v : V} {d : D}, Rep K H v d → (D.py d).canLay0 = true → Dp K H v (D.py d)
  | _, _, .non, _ => .non
  | _, _, .bl b, _ => .bl b
  | _, _, .int i, _ => .int i
  | _, _, .str x, _ => .str x
  | _, _, .lst h r, c => .lst (SqL.of h) (Reps.dp r c)
  | _, _, .frl h r, c => .lst h.sq (Reps.dp r c)
  | _, _, .tup h r, c => .tup h (Reps.dp r c)
theorem Reps.dp : ∀ {vs : List V} {ds : List D}, Reps K H vs ds → PyData.canLayAll0 (D.pys ds) = true → DpAll K H vs (D.pys ds)
  | _, _, .nil, _ => .nil
  | _, _, .cons r t, c => .cons (Rep.dp r (Bool.and_eq_true_iff.mp c).1) (Reps.dp t (Bool.and_eq_true_iff.mp c).2)
end
end
theorem RepV.dp {K : PySem.W.Frag} {Hs H : Hp} {v : V} {d : D} (h : RepV K Hs H v d) (ex : Ex Hs H) (c : (D.py d).canLay0 = true) : Dp K H v (D.py d) := by
  cases h with
  | sc h => exact Rep.dp (h.mono ex) c
  | lst h r => exact .lst (SqL.of h) (Reps.dp (r.mono ex) c)
  | dic h _ _ => cases c
/-- == -/
def eqD (d1 d2 : D) (Q : Bool → Prop) : Prop := match d1, d2 with
  | .int i, .int j => Q (decide (i = j))
  | .str x, .str y => Q (decide (x = y))
  | .bl x, .bl y => Q (decide (x = y))
  | .non, .non => Q true
  | .non, .int _ => Q false
  | .int _, .non => Q false
  | .non, .bl _ => Q false
  | .bl _, .non => Q false
  | .non, .str _ => Q false
  | .str _, .non => Q false
  | .int _, .str _ => Q false
  | .str _, .int _ => Q false
  | .bl _, .str _ => Q false
  | .str _, .bl _ => Q false
  | d1, d2 => gd (SeqAt.shaped (D.py d1) = true ∧ SeqAt.shaped (D.py d2) = true) (Q (PyData.eqv (D.py d1) (D.py d2)))
def oEq (neg : Bool) : OP2 := fun d1 d2 Q => eqD d1 d2 fun b => Q (.bl (match neg with
  | true => !b
  | false => b))
def rEqA (K : PySem.W.Frag) : R2 := fun x y H Q => rEq x y H Q ∨ rEqD K x y H Q
def rNeA (K : PySem.W.Frag) : R2 := fun x y H Q => rNe x y H Q ∨ rNeD K x y H Q
theorem eqD_core {K : PySem.W.Frag} {F Hs H : Hp} {σ : St} {ε : PEnv} {v w : V} {d1 d2 : D} {Q : Bool → Prop} (R : RelS K F Hs σ H ε) (r1 : RepV K Hs H v d1) (r2 : RepV K Hs H w d2) (q : eqD d1 d2 Q) :
    (scal v w = true ∧ Q (decide (v = w))) ∨ ∃ d e, Dp K H v d ∧ Dp K H w e ∧ SeqAt.shaped d = true ∧ SeqAt.shaped e = true ∧ Q (PyData.eqv d e) := by
  unfold eqD at q
  split at q
  · refine .inl ?_; rw [r1.int', r2.int']; refine ⟨rfl, ?_⟩; simpa using q
  · refine .inl ?_; rw [r1.str', r2.str']; refine ⟨rfl, ?_⟩; simpa using q
  · refine .inl ?_; rw [r1.bl', r2.bl']; refine ⟨rfl, ?_⟩; simpa using q
  · refine .inl ?_; rw [r1.non', r2.non']; exact ⟨rfl, q⟩
  · refine .inl ?_; rw [r1.non', r2.int']; exact ⟨rfl, q⟩
  · refine .inl ?_; rw [r1.int', r2.non']; exact ⟨rfl, q⟩
  · refine .inl ?_; rw [r1.non', r2.bl']; exact ⟨rfl, q⟩
  · refine .inl ?_; rw [r1.bl', r2.non']; exact ⟨rfl, q⟩
  · refine .inl ?_; rw [r1.non', r2.str']; exact ⟨rfl, q⟩
  · refine .inl ?_; rw [r1.str', r2.non']; exact ⟨rfl, q⟩
  · refine .inl ?_; rw [r1.int', r2.str']; exact ⟨rfl, q⟩
  · refine .inl ?_; rw [r1.str', r2.int']; exact ⟨rfl, q⟩
  · refine .inl ?_; rw [r1.bl', r2.str']; exact ⟨rfl, q⟩
  · refine .inl ?_; rw [r1.str', r2.bl']; exact ⟨rfl, q⟩
  · have q := gd_elim q
    exact .inr ⟨_, _, r1.dp R.ex (SeqAt.canLay_of_shaped q.1.1), r2.dp R.ex (SeqAt.canLay_of_shaped q.1.2), q.1.1, q.1.2, q.2⟩
theorem oy_eq (hu : X.A.units + 64 < cLine) : OpY X (compareOp .Eq) (oEq false) := by
  refine ⟨rEqA X.K, op_eq.or (op_eqD hu), fun F Hs σ H ε v w d1 d2 Q' Q R r1 r2 q k => ?_⟩
  rcases eqD_core R r1 r2 q with ⟨h1, h2⟩ | ⟨d, e, h1, h2, h3, h4, h5⟩
  · exact .inl ⟨h1, k _ H Hs _ (Evl.Ex.refl _) R (.bl _) h2⟩
  · exact .inr ⟨d, e, h1, h2, h3, h4, k _ H Hs _ (Evl.Ex.refl _) R (.bl _) h5⟩
theorem oy_ne (hu : X.A.units + 64 < cLine) : OpY X (compareOp .NotEq) (oEq true) := by
  refine ⟨rNeA X.K, op_ne.or (op_neD hu), fun F Hs σ H ε v w d1 d2 Q' Q R r1 r2 q k => ?_⟩
  rcases eqD_core R r1 r2 q with ⟨h1, h2⟩ | ⟨d, e, h1, h2, h3, h4, h5⟩
  · exact .inl ⟨h1, k _ H Hs _ (Evl.Ex.refl _) R (.bl _) h2⟩
  · exact .inr ⟨d, e, h1, h2, h3, h4, k _ H Hs _ (Evl.Ex.refl _) R (.bl _) h5⟩

/-! ### subscripts -/
def oIx : OP2
  | .lst xs, .int i, Q => opt (atI xs i) Q
  | .frl xs, .int i, Q => opt (atI xs i) Q
  | .tup xs, .int i, Q => opt (atI xs i) Q
  | .str x, .int i, Q => gd (x.length ≤ 16777216) (opt (atI x.cps.toList i) fun c => Q (.str ⟨#[c]⟩))
  | _, _, _ => False
theorem Reps.atI {K : PySem.W.Frag} {H : Hp} {vs : List V} {ds : List D} {i : Int} {d : D} (r : Reps K H vs ds) (h : L2.atI ds i = some d) : ∃ v, L2.atI vs i = some v ∧ Rep K H v d := by
  unfold L2.atI at h ⊢
  rw [r.len]
  cases e : ixN ds.length i with
  | none => rw [e] at h; cases h
  | some j =>
    rw [e] at h
    exact r.get (i := j) h
def yIx (ra rb : PTE) : PTE := yBin oIx ra rb
theorem ye_ix {W : WX} {Ξ : Xi} {a b : Expr} {pos : Pos} {ra rb : PTE} (ha : YE X W Ξ a ra) (hb : YE X W Ξ b rb) (hs : PlainIx b := by exact fun _ _ => rfl) : YE X W Ξ (.Subscript a b pos) (yIx ra rb) := by
  obtain ⟨ta, pa, ka⟩ := ha.ex
  obtain ⟨tb, pb, kb⟩ := hb.ex
  refine ⟨_, pe_ix ix_seq pa pb hs, fun F Hs σ H ε Q' Q R L q k => ?_⟩
  refine ka F Hs σ H ε _ _ R L q fun v H1 Hs1 t1 ε1 e1 R1 p1 q1 => ?_
  refine kb F Hs1 σ H1 ε1 _ _ R1 (L.mono e1) q1 fun w H2 Hs2 t2 ε2 e2 R2 p2 q2 => ?_
  obtain ⟨d1, v1, q3⟩ := R2.res (p1.mono e2) q2
  obtain ⟨d2, v2, q4⟩ := R2.res p2 q3
  unfold oIx at q4
  split at q4
  · obtain ⟨d, hd, q5⟩ := opt_elim q4
    obtain ⟨a, vs, g1, h1, p1⟩ := v1.lst' R2.ex
    obtain ⟨z, hz, rz⟩ := p1.atI hd
    exact .inl ⟨a, vs, _, z, g1, v2.int', SqL.of h1, hz, k z H2 Hs2 (.d d) ε2 (e1.trans e2) R2 rz q5⟩
  · obtain ⟨d, hd, q5⟩ := opt_elim q4
    obtain ⟨a, vs, g1, h1, p1⟩ := v1.frl' R2.ex
    obtain ⟨z, hz, rz⟩ := p1.atI hd
    exact .inl ⟨a, vs, _, z, g1, v2.int', h1, hz, k z H2 Hs2 (.d d) ε2 (e1.trans e2) R2 rz q5⟩
  · obtain ⟨d, hd, q5⟩ := opt_elim q4
    obtain ⟨a, vs, g1, h1, p1⟩ := v1.tup' R2.ex
    obtain ⟨z, hz, rz⟩ := p1.atI hd
    exact .inr (.inl ⟨a, vs, _, z, g1, v2.int', h1, hz, k z H2 Hs2 (.d d) ε2 (e1.trans e2) R2 rz q5⟩)
  · obtain ⟨hl, q4⟩ := gd_elim q4
    obtain ⟨c, hc, q5⟩ := opt_elim q4
    exact .inr (.inr ⟨_, _, c, v1.str', v2.int', line_le hl, hc, k _ H2 Hs2 (.d _) ε2 (e1.trans e2) R2 (.str _) q5⟩)
  · exact q4.elim
/-- an optional part of a slice -/
abbrev PTO := PEnv → (Option Int → PEnv → Prop) → Prop
structure YO (X : Cx) (W : WX) (Ξ : Xi) (e : Option Expr) (r : PTO) : Prop where
  ex : ∃ t, PO X e t ∧ ∀ (F Hs : Hp) (σ : St) (H : Hp) (ε : PEnv) (Q' : Option Int → PEnv → Prop) (Q : Option Int → Hp → Prop), RelS X.K F Hs σ H ε → Lk X.K F Hs W Ξ → r ε Q' →
    (∀ o H' Hs' ε', Ex Hs Hs' → RelS X.K F Hs' σ H' ε' → Q' o ε' → Q o H') → t σ H Q
def yoNone : PTO := fun ε Q => Q none ε
def yoSome (r : PTE) : PTO := fun ε Q => r ε fun t ε' => res ε' t (asI fun i => Q (some i) ε')
theorem yo_none {W : WX} {Ξ : Xi} : YO X W Ξ none yoNone := ⟨tNoPart, po_none, fun F Hs σ H ε Q' Q R _ q k => k none H Hs ε (Evl.Ex.refl _) R q⟩
theorem yo_some {W : WX} {Ξ : Xi} {a : Expr} {r : PTE} (h : YE X W Ξ a r) : YO X W Ξ (some a) (yoSome r) := by
  obtain ⟨t, p, k⟩ := h.ex
  refine ⟨_, po_some p, fun F Hs σ H ε Q' Q R L q kk => k F Hs σ H ε _ _ R L q fun v H' Hs' t ε' e R' p' q' => ?_⟩
  obtain ⟨d, rv, q2⟩ := R'.res p' q'
  cases d with
  | int i => exact ⟨i, rv.int', kk (some i) H' Hs' ε' e R' q2⟩
  | _ => exact False.elim q2
def cutD {α : Type} (xs : List α) (lo hi : Option Int) : List α := (xs.drop (HT.sIx xs.length 0 lo)).take (HT.sIx xs.length xs.length hi - HT.sIx xs.length 0 lo)
theorem Reps.cut {K : PySem.W.Frag} {H : Hp} {vs : List V} {ds : List D} (r : Reps K H vs ds) (lo hi : Option Int) : Reps K H (cutV vs lo hi) (cutD ds lo hi) := by
  unfold cutV cutD
  rw [r.len]
  exact (r.drop _).take _
def asL (Q : List D → Prop) : D → Prop
  | .lst xs => Q xs
  | _ => False
theorem asL_elim {d : D} {Q : List D → Prop} (h : asL Q d) : ∃ i, d = .lst i ∧ Q i := by
  cases d with
  | lst i => exact ⟨i, rfl, h⟩
  | _ => exact h.elim
/-- xs[a:b], a list -/
def ynSl (ra : PTE) (rl rh : PTO) : PTN := fun ε Q => ra ε fun t ε1 => rl ε1 fun lo ε2 => rh ε2 fun hi ε3 => res ε3 t (asL fun xs => Q (cutD xs lo hi) ε3)
theorem yn_sl {W : WX} {Ξ : Xi} {a : Expr} {lo hi : Option Expr} {pos p2 : Pos} {ra : PTE} {rl rh : PTO} (ha : YE X W Ξ a ra) (hl : YO X W Ξ lo rl) (hh : YO X W Ξ hi rh) : YN X W Ξ (.Subscript a (.Slice lo hi none p2) pos) (ynSl ra rl rh) := by
  obtain ⟨ta, pa, ka⟩ := ha.ex
  obtain ⟨tl, pl, kl⟩ := hl.ex
  obtain ⟨th, ph, kh⟩ := hh.ex
  refine ⟨_, pe_slice sl_list pa pl ph, fun F Hs σ H ε Q' Q R L q k => ?_⟩
  refine ka F Hs σ H ε _ _ R L q fun v H1 Hs1 t1 ε1 e1 R1 p1 q1 => ?_
  refine kl F Hs1 σ H1 ε1 _ _ R1 (L.mono e1) q1 fun l H2 Hs2 ε2 e2 R2 q2 => ?_
  refine kh F Hs2 σ H2 ε2 _ _ R2 (L.mono (e1.trans e2)) q2 fun h H3 Hs3 ε3 e3 R3 q3 => ?_
  obtain ⟨d, v1, q4⟩ := R3.res (p1.mono (e2.trans e3)) q3
  obtain ⟨xs, rfl, q4⟩ := asL_elim q4
  obtain ⟨a, vs, g1, h1, p1⟩ := v1.lst' R3.ex
  refine ⟨a, vs, g1, SqL.of h1, fun p hp => ?_⟩
  obtain ⟨n1, n2, n3⟩ := R3.nobody hp
  exact k p _ Hs3 _ _ ε3 ((e1.trans e2).trans e3) (R3.lay hp) upd_same n1 n2 n3 (p1.cut l h) q4

/-! ### built-ins -/
def oLen : OPC
  | [.lst xs], Q => Q (.int (xs.length : Nat))
  | [.frl xs], Q => Q (.int (xs.length : Nat))
  | [.tup xs], Q => Q (.int (xs.length : Nat))
  | [.str x], Q => gd (x.length ≤ 16777216) (Q (.int (x.length : Nat)))
  | _, _ => False
theorem RepVs.one {K : PySem.W.Frag} {Hs H : Hp} {vs : List V} {d : D} (h : RepVs K Hs H vs [d]) : ∃ v, vs = [v] ∧ RepV K Hs H v d := by
  cases h with
  | cons h t => cases t; exact ⟨_, rfl, h⟩
theorem RepVs.two {K : PySem.W.Frag} {Hs H : Hp} {vs : List V} {d e : D} (h : RepVs K Hs H vs [d, e]) : ∃ v w, vs = [v, w] ∧ RepV K Hs H v d ∧ RepV K Hs H w e := by
  cases h with
  | cons h t =>
    obtain ⟨w, rfl, r⟩ := t.one
    exact ⟨_, _, rfl, h, r⟩
theorem cy_len : CallY X (.builtin "len") oLen := by
  refine ⟨_, call_len, fun F Hs σ H ε vs ds Q' Q R r q k => ?_⟩
  unfold oLen at q
  split at q
  · obtain ⟨v, rfl, rv⟩ := r.one
    obtain ⟨a, ws, g1, h1, p1⟩ := rv.lst' R.ex
    subst g1
    exact ⟨_, ws.length, rfl, .inl ⟨ws, SqL.of h1, rfl⟩, by rw [p1.len]; exact k _ H Hs _ (Evl.Ex.refl _) R (.int _) q⟩
  · obtain ⟨v, rfl, rv⟩ := r.one
    obtain ⟨a, ws, g1, h1, p1⟩ := rv.frl' R.ex
    subst g1
    exact ⟨_, ws.length, rfl, .inl ⟨ws, h1, rfl⟩, by rw [p1.len]; exact k _ H Hs _ (Evl.Ex.refl _) R (.int _) q⟩
  · obtain ⟨v, rfl, rv⟩ := r.one
    obtain ⟨a, ws, g1, h1, p1⟩ := rv.tup' R.ex
    subst g1
    exact ⟨_, ws.length, rfl, .inr ⟨ws, h1, rfl⟩, by rw [p1.len]; exact k _ H Hs _ (Evl.Ex.refl _) R (.int _) q⟩
  · obtain ⟨v, rfl, rv⟩ := r.one
    have q := gd_elim q
    exact ⟨_, _, rfl, by rw [rv.str']; exact ⟨line_le q.1, rfl⟩, k _ H Hs _ (Evl.Ex.refl _) R (.int _) q.2⟩
  · exact q.elim
def oInt : OPC
  | [.int i], Q => Q (.int i)
  | [.bl b], Q => Q (.int (if b = true then 1 else 0))
  | _, _ => False
theorem cy_int : CallY X (.type "int") oInt := by
  refine ⟨_, call_int1, fun F Hs σ H ε vs ds Q' Q R r q k => ?_⟩
  unfold oInt at q
  split at q
  · obtain ⟨v, rfl, rv⟩ := r.one
    exact .inl ⟨_, by rw [rv.int'], k _ H Hs _ (Evl.Ex.refl _) R (.int _) q⟩
  · obtain ⟨v, rfl, rv⟩ := r.one
    exact .inr ⟨_, by rw [rv.bl'], k _ H Hs _ (Evl.Ex.refl _) R (.int _) q⟩
  · exact q.elim
def oMax2 : OPC
  | [.int i, .int j], Q => Q (.int (if j > i then j else i))
  | _, _ => False
theorem cy_max2 (hc : X.calm = true) : CallY X (.builtin "max") oMax2 := by
  refine ⟨_, call_max2 hc, fun F Hs σ H ε vs ds Q' Q R r q k => ?_⟩
  unfold oMax2 at q
  split at q
  · obtain ⟨v, w, rfl, rv, rw'⟩ := r.two
    exact ⟨_, _, by rw [rv.int', rw'.int'], k _ H Hs _ (Evl.Ex.refl _) R (.int _) q⟩
  · exact q.elim
def oMin2 : OPC
  | [.int i, .int j], Q => Q (.int (if j < i then j else i))
  | _, _ => False
theorem cy_min2 (hc : X.calm = true) : CallY X (.builtin "min") oMin2 := by
  refine ⟨_, call_min2 hc, fun F Hs σ H ε vs ds Q' Q R r q k => ?_⟩
  unfold oMin2 at q
  split at q
  · obtain ⟨v, w, rfl, rv, rw'⟩ := r.two
    exact ⟨_, _, by rw [rv.int', rw'.int'], k _ H Hs _ (Evl.Ex.refl _) R (.int _) q⟩
  · exact q.elim
def toInts : List D → Option (List Int)
  | [] => some []
  | .int i :: ds => match toInts ds with
    | some is => some (i :: is)
    | none => none
  | _ :: _ => none
theorem toInts_map : ∀ ns : List Int, toInts (ns.map D.int) = some ns
  | [] => rfl
  | n :: ns => by
    show (match toInts (ns.map D.int) with
      | some is => some (n :: is)
      | none => none) = some (n :: ns)
    rw [toInts_map ns]
theorem toInts_elim : ∀ {ds : List D} {ns : List Int}, toInts ds = some ns → ds = ns.map D.int
  | [], ns, h => by cases h; rfl
  | d :: ds, ns, h => by
    unfold toInts at h
    split at h
    · rename_i e
      cases e
    · rename_i i es e
      injection e with e1 e2
      subst e1 e2
      split at h
      · rename_i is e
        cases h
        rw [toInts_elim e] <;> rfl
      · cases h
    · cases h
def toBls : List D → Option (List Bool)
  | [] => some []
  | .bl i :: ds => match toBls ds with
    | some is => some (i :: is)
    | none => none
  | _ :: _ => none
theorem toBls_map : ∀ ns : List Bool, toBls (ns.map D.bl) = some ns
  | [] => rfl
  | n :: ns => by
    show (match toBls (ns.map D.bl) with
      | some is => some (n :: is)
      | none => none) = some (n :: ns)
    rw [toBls_map ns]
theorem toBls_elim : ∀ {ds : List D} {ns : List Bool}, toBls ds = some ns → ds = ns.map D.bl
  | [], ns, h => by cases h; rfl
  | d :: ds, ns, h => by
    unfold toBls at h
    split at h
    · rename_i e
      cases e
    · rename_i i es e
      injection e with e1 e2
      subst e1 e2
      split at h
      · rename_i is e
        cases h
        rw [toBls_elim e] <;> rfl
      · cases h
    · cases h
/-- of a list of ints -/
def ints1 (f : List Int → Prop) : List D → Prop
  | [.lst ds] => opt (toInts ds) f
  | _ => False
theorem ints1_core {K : PySem.W.Frag} {F Hs H : Hp} {σ : St} {ε : PEnv} {vs : List V} {ds : List D} {f : List Int → Prop} (R : RelS K F Hs σ H ε) (r : RepVs K Hs H vs ds) (q : ints1 f ds) : ∃ a ns, vs = [.ref a] ∧ SqL K H a (ns.map V.int) ∧ f ns := by
  unfold ints1 at q
  split at q
  · obtain ⟨ns, e0, q2⟩ := opt_elim q
    have e0 := toInts_elim e0
    subst e0
    obtain ⟨v, rfl, rv⟩ := r.one
    obtain ⟨a, ws, g1, h1, p1⟩ := rv.lst' R.ex
    subst g1
    have e := p1.inv_ints
    subst e
    exact ⟨a, ns, rfl, SqL.of h1, q2⟩
  · exact q.elim
def oSum : OPC := fun ds Q => ints1 (fun ns => Q (.int ns.sum)) ds
theorem cy_sum (hc : X.calm = true) : CallY X (.builtin "sum") oSum := by
  refine ⟨_, cr_sum hc, fun F Hs σ H ε vs ds Q' Q R r q k => ?_⟩
  obtain ⟨a, ns, rfl, h1, q⟩ := ints1_core R r q
  exact ⟨a, ns, rfl, h1, k _ H Hs _ (Evl.Ex.refl _) R (.int _) q⟩
def oMaxL : OPC := fun ds Q => ints1 (fun ns => 0 < ns.length ∧ ∀ m, m ∈ ns → (∀ y, y ∈ ns → y ≤ m) → Q (.int m)) ds
theorem cy_maxL (hc : X.calm = true) : CallY X (.builtin "max") oMaxL := by
  refine ⟨_, cr_max hc, fun F Hs σ H ε vs ds Q' Q R r q k => ?_⟩
  obtain ⟨a, ns, rfl, h1, q0, q⟩ := ints1_core R r q
  exact ⟨a, ns, rfl, h1, q0, fun m h2 h3 => k _ H Hs _ (Evl.Ex.refl _) R (.int _) (q m h2 h3)⟩
def oMinL : OPC := fun ds Q => ints1 (fun ns => 0 < ns.length ∧ ∀ m, m ∈ ns → (∀ y, y ∈ ns → m ≤ y) → Q (.int m)) ds
theorem cy_minL (hc : X.calm = true) : CallY X (.builtin "min") oMinL := by
  refine ⟨_, cr_min hc, fun F Hs σ H ε vs ds Q' Q R r q k => ?_⟩
  obtain ⟨a, ns, rfl, h1, q0, q⟩ := ints1_core R r q
  exact ⟨a, ns, rfl, h1, q0, fun m h2 h3 => k _ H Hs _ (Evl.Ex.refl _) R (.int _) (q m h2 h3)⟩
def oSorted : List D → (List D → Prop) → Prop := fun ds Q => ints1 (fun ns => ∀ ns' : List Int, ns'.Perm ns → ns'.Pairwise (· ≤ ·) → Q (ns'.map D.int)) ds
theorem cn_sorted : CallN X (.builtin "sorted") oSorted := by
  refine ⟨_, cr_sortedI, fun F Hs σ H ε vs ds Q' Q R r q k => ?_⟩
  obtain ⟨a, ns, rfl, h1, q⟩ := ints1_core R r q
  exact ⟨a, ns, rfl, h1, fun ns' p h2 h3 hp => k p _ _ hp (Reps.ints ns') (q ns' h2 h3)⟩
def bls1 (f : List Bool → Prop) : List D → Prop
  | [.lst ds] => opt (toBls ds) f
  | _ => False
theorem bls1_core {K : PySem.W.Frag} {F Hs H : Hp} {σ : St} {ε : PEnv} {vs : List V} {ds : List D} {f : List Bool → Prop} (R : RelS K F Hs σ H ε) (r : RepVs K Hs H vs ds) (q : bls1 f ds) : ∃ a ns, vs = [.ref a] ∧ SqL K H a (ns.map V.bl) ∧ f ns := by
  unfold bls1 at q
  split at q
  · obtain ⟨ns, e0, q2⟩ := opt_elim q
    have e0 := toBls_elim e0
    subst e0
    obtain ⟨v, rfl, rv⟩ := r.one
    obtain ⟨a, ws, g1, h1, p1⟩ := rv.lst' R.ex
    subst g1
    have e := p1.inv_bls
    subst e
    exact ⟨a, ns, rfl, SqL.of h1, q2⟩
  · exact q.elim
def oAll : OPC := fun ds Q => bls1 (fun ns => Q (.bl (ns.all id))) ds
def oAny : OPC := fun ds Q => bls1 (fun ns => Q (.bl (ns.any id))) ds
theorem cy_all (hc : X.calm = true) : CallY X (.builtin "all") oAll := by
  refine ⟨_, cr_all hc, fun F Hs σ H ε vs ds Q' Q R r q k => ?_⟩
  obtain ⟨a, ns, rfl, h1, q⟩ := bls1_core R r q
  exact ⟨a, ns, rfl, h1, k _ H Hs _ (Evl.Ex.refl _) R (.bl _) q⟩
theorem cy_any (hc : X.calm = true) : CallY X (.builtin "any") oAny := by
  refine ⟨_, cr_any hc, fun F Hs σ H ε vs ds Q' Q R r q k => ?_⟩
  obtain ⟨a, ns, rfl, h1, q⟩ := bls1_core R r q
  exact ⟨a, ns, rfl, h1, k _ H Hs _ (Evl.Ex.refl _) R (.bl _) q⟩
def oListOf : List D → (List D → Prop) → Prop
  | [.lst ds], Q => Q ds
  | [.frl ds], Q => Q ds
  | [.tup ds], Q => Q ds
  | _, _ => False
theorem cn_list : CallN X (.type "list") oListOf := by
  refine ⟨_, call_list_of, fun F Hs σ H ε vs ds Q' Q R r q k => ?_⟩
  unfold oListOf at q
  split at q
  · obtain ⟨v, rfl, rv⟩ := r.one
    obtain ⟨a, ws, g1, h1, p1⟩ := rv.lst' R.ex
    subst g1
    exact ⟨a, ws, rfl, .inl (SqL.of h1), fun p hp => k p _ _ hp p1 q⟩
  · obtain ⟨v, rfl, rv⟩ := r.one
    obtain ⟨a, ws, g1, h1, p1⟩ := rv.frl' R.ex
    subst g1
    exact ⟨a, ws, rfl, .inl h1, fun p hp => k p _ _ hp p1 q⟩
  · obtain ⟨v, rfl, rv⟩ := r.one
    obtain ⟨a, ws, g1, h1, p1⟩ := rv.tup' R.ex
    subst g1
    exact ⟨a, ws, rfl, .inr h1, fun p hp => k p _ _ hp p1 q⟩
  · exact q.elim
def oTupleOf : OPC
  | [.lst ds], Q => Q (.tup ds)
  | [.tup ds], Q => Q (.tup ds)
  | _, _ => False
theorem cy_tuple : CallY X (.type "tuple") oTupleOf := by
  refine ⟨_, call_tuple_of, fun F Hs σ H ε vs ds Q' Q R r q k => ?_⟩
  unfold oTupleOf at q
  split at q
  · obtain ⟨v, rfl, rv⟩ := r.one
    obtain ⟨a, ws, g1, h1, p1⟩ := rv.lst' R.ex
    subst g1
    refine ⟨a, ws, rfl, .inl ⟨SqL.of h1, fun p hp => ?_⟩⟩
    obtain ⟨R3, e3⟩ := R.new (o := .tup ws) hp
    exact k _ _ _ _ e3 R3 (.tup (SqT.of upd_same) (p1.mono e3)) q
  · obtain ⟨v, rfl, rv⟩ := r.one
    cases rv with
    | sc rv =>
      cases rv with
      | tup h1 p1 => exact ⟨_, _, rfl, .inr ⟨Evl.ex_t R.ex h1, k _ H Hs _ (Evl.Ex.refl _) R (.tup h1 p1) q⟩⟩
  · exact q.elim
def oStr : OPC
  | [.int i], Q => gd (i.natAbs.log2 < 1920) (Q (.str (toString i)))
  | _, _ => False
theorem cy_str : CallY X (.type "str") oStr := by
  refine ⟨_, call_str_int, fun F Hs σ H ε vs ds Q' Q R r q k => ?_⟩
  unfold oStr at q
  split at q
  · obtain ⟨v, rfl, rv⟩ := r.one
    have q := gd_elim q
    exact ⟨_, by rw [rv.int'], q.1, k _ H Hs _ (Evl.Ex.refl _) R (.str _) q.2⟩
  · exact q.elim

theorem RepV.up {K : PySem.W.Frag} {Hs H H' : Hp} {v : V} {d : D} (h : RepV K Hs H v d) (e : Ex H H') : RepV K Hs H' v d := by
  cases h with
  | sc h => exact .sc h
  | lst h r => exact .lst (e _ _ h) r
  | dic h k r => exact .dic (e _ _ h) k r
/-! ### isinstance -/
inductive Ty where
  | int | bool | str | list | tuple | dict
def Ty.nm : Ty → String
  | .int => "int" | .bool => "bool" | .str => "str" | .list => "list" | .tuple => "tuple" | .dict => "dict"
def isTy : Ty → D → (Bool → Prop) → Prop
  | .int, .int _, Q => Q true
  | .int, .bl _, Q => Q true
  | .bool, .bl _, Q => Q true
  | .str, .str _, Q => Q true
  | .list, .lst _, Q => Q true
  | .list, .frl _, Q => Q true
  | .tuple, .tup _, Q => Q true
  | .dict, .dic _, Q => Q true
  | _, .vl _, _ => False
  | _, .pool, _ => False
  | _, .err _ _, _ => False
  | _, _, Q => Q false
def tyD : D → Option String
  | .non => some "NoneType"
  | .bl _ => some "bool"
  | .int _ => some "int"
  | .str _ => some "str"
  | .lst _ => some "list"
  | .frl _ => some "list"
  | .tup _ => some "tuple"
  | .dic _ => some "dict"
  | _ => none
theorem tyX_tup {K : PySem.W.Frag} {H : Hp} {a : Addr} {xs : List V} (h : SqT K H a xs) : TyX K H (.ref a) (.type "tuple") := by
  rcases h with (h | ⟨o, h⟩) | ⟨o, its, n, h, hc, _⟩
  · exact .base (.tup h)
  · exact .fTuple h
  · exact .kTuple h hc
theorem tyX_lst {K : PySem.W.Frag} {H : Hp} {a : Addr} {xs : List V} (h : SqL K H a xs) : TyX K H (.ref a) (.type "list") := by
  rcases h with (h | ⟨o, h⟩) | ⟨o, its, n, h, hc, _⟩
  · exact .base (.lst h)
  · exact .base (.frz h)
  · exact .kList h hc
theorem tyD_rep {K : PySem.W.Frag} {Hs H : Hp} {v : V} {d : D} {n : String} (h : RepV K Hs H v d) (ex : Ex Hs H) (e : tyD d = some n) : TyX K H v (.type n) := by
  cases d with
  | non => cases e; rw [h.non']; exact .base .non
  | bl b => cases e; rw [h.bl']; exact .base (.bl _)
  | int b => cases e; rw [h.int']; exact .base (.int _)
  | str b => cases e; rw [h.str']; exact .base (.str _)
  | lst b =>
    cases e
    obtain ⟨a, ws, rfl, h1, p1⟩ := h.lst' ex
    exact .base (.lst h1)
  | frl b =>
    cases e
    obtain ⟨a, ws, rfl, h1, p1⟩ := h.frl' ex
    exact tyX_lst h1
  | tup b =>
    cases e
    obtain ⟨a, ws, rfl, h1, p1⟩ := h.tup' ex
    exact tyX_tup h1
  | dic b =>
    cases e
    obtain ⟨a, ws, rfl, h1, p1⟩ := h.dic' ex
    exact .base (.dK h1)
  | _ => cases e
theorem isTy_kit (t : Ty) (d : D) (Q : Bool → Prop) (q : isTy t d Q) : ∃ n b, tyD d = some n ∧ kitB n t.nm = some b ∧ Q b := by
  cases t <;> cases d <;> first | exact False.elim q | exact ⟨_, true, rfl, by decide +kernel, q⟩ | exact ⟨_, false, rfl, by decide +kernel, q⟩
def yIs (t : Ty) (r : PTE) : PTE := fun ε Q => r ε fun t1 ε1 => res ε1 t1 fun d => isTy t d fun b => Q (.d (.bl b)) ε1
section
variable {W : WX} {Ξ : Xi} {a : Expr} {pos : Pos}
theorem ye_isA (t : Ty) {r : PTE} {c : Expr} {p : Pos} (h : YE X W Ξ a r) (hc : PE X c (tC (.ty t.nm))) (hg : Gl X "isinstance") (hm : X.mg "isinstance" = none)
    (hst : starEach [a, c] X.env = (false, eval a X.env) :: starEach [c] X.env := by rfl) (hs2 : starEach [c] X.env = (false, eval c X.env) :: starEach [] X.env := by rfl) (hpl : (backTo pos (starEach [c] X.env)).any (·.1) = false := by rfl) :
    YE X W Ξ (.Call (.Name "isinstance" p) [a, c] [] pos) (yIs t r) := by
  obtain ⟨ta, pa, ka⟩ := h.ex
  refine ⟨_, pe_callB call_isi hg hm PyProof.Rows.boot_isinstance (pa_cons pa (pa_cons hc pa_nil hs2) hst) (by decide) (by decide) hst hpl, fun F Hs σ H ε Q' Q R L q k => ?_⟩
  refine ka F Hs σ H ε _ _ R L q fun v H1 Hs1 t1 ε1 e1 R1 p1 q1 => ?_
  obtain ⟨d, v1, q2⟩ := R1.res p1 q1
  obtain ⟨n, b, h1, h2, h3⟩ := isTy_kit t d _ q2
  exact ⟨v, .ty t.nm, .type n, .type t.nm, b, rfl, .ty _, tyD_rep v1 R1.ex h1, kit_ty h2, k (.bl b) H1 Hs1 (.d (.bl b)) ε1 e1 R1 (.bl b) h3⟩
def yIs2 (t u : Ty) (r : PTE) : PTE := fun ε Q => r ε fun t1 ε1 => res ε1 t1 fun d => isTy t d fun b => isTy u d fun c => Q (.d (.bl (b || c))) ε1
theorem ye_isA2 (t u : Ty) {r : PTE} {c c2 : Expr} {p p2 : Pos} {kk : Nat} (h : YE X W Ξ a r) (hc : PE X c (tC (.ty t.nm))) (hc2 : PE X c2 (tC (.ty u.nm))) (hg : Gl X "isinstance") (hm : X.mg "isinstance" = none)
    (hst : starEach [a, .Tuple [c, c2] kk p2] X.env = (false, eval a X.env) :: starEach [.Tuple [c, c2] kk p2] X.env := by rfl) (hs2 : starEach [.Tuple [c, c2] kk p2] X.env = (false, eval (.Tuple [c, c2] kk p2) X.env) :: starEach [] X.env := by rfl)
    (hs3 : starEach [c, c2] X.env = (false, eval c X.env) :: starEach [c2] X.env := by rfl) (hs4 : starEach [c2] X.env = (false, eval c2 X.env) :: starEach [] X.env := by rfl) (hpl : (backTo pos (starEach [.Tuple [c, c2] kk p2] X.env)).any (·.1) = false := by rfl) :
    YE X W Ξ (.Call (.Name "isinstance" p) [a, .Tuple [c, c2] kk p2] [] pos) (yIs2 t u r) := by
  obtain ⟨ta, pa, ka⟩ := h.ex
  refine ⟨_, pe_callB call_isiT hg hm PyProof.Rows.boot_isinstance (pa_cons pa (pa_cons (pe_tup (pa_cons hc (pa_cons hc2 pa_nil hs4) hs3)) pa_nil hs2) hst) (by decide) (by decide) hst hpl, fun F Hs σ H ε Q' Q R L q k => ?_⟩
  refine ka F Hs σ H ε _ _ R L q fun v H1 Hs1 t1 ε1 e1 R1 p1 q1 => ?_
  obtain ⟨d, v1, q2⟩ := R1.res p1 q1
  obtain ⟨n, b, h1, h2, q3⟩ := isTy_kit t d _ q2
  obtain ⟨n', b', h1', h2', h3⟩ := isTy_kit u d _ q3
  rw [h1] at h1'
  cases h1'
  refine ⟨by show 2 ≤ sizeLine; decide, fun tp htp => ?_⟩
  have R2 : RelS X.K F Hs1 σ (upd H1 tp (.tup [.ty t.nm, .ty u.nm])) ε1 := R1.lay htp
  have v2 : TyX X.K (upd H1 tp (.tup [.ty t.nm, .ty u.nm])) v (.type n) := tyD_rep (v1.up (Evl.Ex.new htp)) R2.ex h1
  exact ⟨v, tp, [.ty t.nm, .ty u.nm], .type n, [.type t.nm, .type u.nm], b || b', rfl, upd_same, .cons (.ty _) (.cons (.ty _) .nil), v2, kitAny_cons (kit_ty h2) (fun hb => kitAny_cons (kit_ty h2') (fun hb' => by rw [hb, hb']; exact kitAny_nil) (fun hb' => by rw [hb']; simp)) (fun hb => by rw [hb]; rfl), k (.bl (b || b')) _ Hs1 (.d (.bl (b || b'))) ε1 e1 R2 (.bl _) h3⟩
end
end
end PL

set_option Elab.async false
set_option linter.all false
set_option autoImplicit false
set_option maxRecDepth 100000
set_option maxHeartbeats 2000000
/-! Statements, loops, comprehensions, over plain data. -/
namespace PL
open PySem PySem.Spec PyProof.Rows L2
open Evl (Ex)

/-! ### readings that hang on the data alone -/
def cE (K : PySem.W.Frag) (W : WX) (Ξ : Xi) (r : PTE) : TE := fun σ H Q => ∃ (F Hs : Hp) (ε : PEnv) (Q' : T → PEnv → Prop), RelS K F Hs σ H ε ∧ Lk K F Hs W Ξ ∧ r ε Q' ∧ KE K F Hs σ Q' Q
def cT (K : PySem.W.Frag) (W : WX) (Ξ : Xi) (r : PTT) : TT := fun σ H Q => ∃ (F Hs : Hp) (ε : PEnv) (Q' : Bool → PEnv → Prop), RelS K F Hs σ H ε ∧ Lk K F Hs W Ξ ∧ r ε Q' ∧ KT K F Hs σ Q' Q
section
variable {X : Cx} {W : WX} {Ξ : Xi} {e : Expr}
theorem YE.canon {r : PTE} (h : YE X W Ξ e r) : PE X e (cE X.K W Ξ r) := by
  obtain ⟨t, p, k⟩ := h.ex
  exact ⟨fun pins s σ H Q I ⟨F, Hs, ε, Q', R, L, q, kk⟩ => p.run pins s σ H Q I (k F Hs σ H ε Q' Q R L q kk)⟩
theorem YT.canon {r : PTT} (h : YT X W Ξ e r) : PT X e (cT X.K W Ξ r) := by
  obtain ⟨t, p, k⟩ := h.ex
  exact ⟨fun pins s σ H Q I ⟨F, Hs, ε, Q', R, L, q, kk⟩ => p.run pins s σ H Q I (k F Hs σ H ε Q' Q R L q kk)⟩
end

/-! ### what another one owns, lent and taken back -/
section
variable {K : PySem.W.Frag} {F Hs H : Hp} {σ : St} {ε : PEnv}
def Nobody (σ : St) (ε : PEnv) (p : Addr) : Prop := ∀ (i : Nat) (s : S), ε[i]? = some (some s) → s.own = true → σ[i]? ≠ some (some (.ref p))
theorem RelS.lend (R : RelS K F Hs σ H ε) {p : Addr} {o : HO} (hH : H p = some o) (hp : Hs p = none) (hn : Nobody σ ε p) : RelS K (upd F p o) Hs σ H ε := by
  refine ⟨R.ex, fun a u q => ?_, R.len, fun j t q => ?_, R.ds⟩
  · by_cases ha : a = p
    · subst ha
      rw [upd_same] at q
      cases q
      exact ⟨hH, hp⟩
    · rw [upd_ne ha] at q
      exact R.fr a u q
  · have z := R.sl j t q
    cases t with
    | v d' => exact z
    | o ds =>
      obtain ⟨b, vs, h1, h2, h3, h4, h5⟩ := z
      have nb : b ≠ p := by
        intro z
        subst z
        exact hn j _ q rfl h1
      exact ⟨b, vs, h1, h2, by rw [upd_ne nb]; exact h3, h4, h5⟩
    | od ds =>
      obtain ⟨b, vs, h1, h2, h3, h4, h5, h6⟩ := z
      have nb : b ≠ p := by
        intro z
        subst z
        exact hn j _ q rfl h1
      exact ⟨b, vs, h1, h2, by rw [upd_ne nb]; exact h3, h4, h5, h6⟩
theorem RelS.back {p : Addr} {o : HO} (R : RelS K (upd F p o) Hs σ H ε) (hF : F p = none) : RelS K F Hs σ H ε ∧ H p = some o ∧ Hs p = none ∧ Nobody σ ε p := by
  have hp := R.fr p o upd_same
  have sub : ∀ b, upd F p o b = none → F b = none := fun b e => by
    by_cases hb : b = p
    · subst hb
      exact hF
    · rw [upd_ne hb] at e
      exact e
  refine ⟨⟨R.ex, fun a u q => ?_, R.len, fun j t q => ?_, R.ds⟩, hp.1, hp.2, fun j t q so z => ?_⟩
  · have ha : a ≠ p := by
      intro z
      subst z
      rw [hF] at q
      cases q
    exact R.fr a u (by rw [upd_ne ha]; exact q)
  · have z := R.sl j t q
    cases t with
    | v d' => exact z
    | o ds =>
      obtain ⟨b, vs, h1, h2, h3, h4, h5⟩ := z
      exact ⟨b, vs, h1, h2, sub _ h3, h4, h5⟩
    | od ds =>
      obtain ⟨b, vs, h1, h2, h3, h4, h5, h6⟩ := z
      exact ⟨b, vs, h1, h2, sub _ h3, h4, h5, h6⟩
  · have y := R.sl j t q
    cases t with
    | v d' => cases so
    | o ds =>
      obtain ⟨b, vs, h1, h2, h3, h4, h5⟩ := y
      rw [z] at h1
      cases h1
      rw [upd_same] at h3
      cases h3
    | od ds =>
      obtain ⟨b, vs, h1, h2, h3, h4, h5, h6⟩ := y
      rw [z] at h1
      cases h1
      rw [upd_same] at h3
      cases h3
/-- what is nobody's may change -/
theorem RelS.touch (R : RelS K F Hs σ H ε) {p : Addr} {o : HO} (hp : Hs p = none) (hF : F p = none) (hn : Nobody σ ε p) : RelS K F Hs σ (upd H p o) ε := by
  refine ⟨fun a u q => ?_, fun a u q => ?_, R.len, fun j t q => ?_, R.ds⟩
  · rw [upd_ne (ne_of_none q hp)]
    exact R.ex a u q
  · rw [upd_ne (ne_of_none q hF)]
    exact R.fr a u q
  · have z := R.sl j t q
    cases t with
    | v d' => exact z
    | o ds =>
      obtain ⟨b, vs, h1, h2, h3, h4, h5⟩ := z
      have nb : b ≠ p := by
        intro z
        subst z
        exact hn j _ q rfl h1
      exact ⟨b, vs, h1, h2, h3, by rw [upd_ne nb]; exact h4, h5⟩
    | od ds =>
      obtain ⟨b, vs, h1, h2, h3, h4, h5, h6⟩ := z
      have nb : b ≠ p := by
        intro z
        subst z
        exact hn j _ q rfl h1
      exact ⟨b, vs, h1, h2, h3, by rw [upd_ne nb]; exact h4, h5, h6⟩
end

/-! ### targets -/
abbrev PTG := D → PEnv → (PEnv → Prop) → Prop
def Only (sl : List Nat) (σ σ' : St) : Prop := ∀ vs : List Nat, (∀ i ∈ sl, i ∈ vs) → L2.wipe σ' vs = L2.wipe σ vs
theorem wipe_set {σ : St} {i : Nat} {x : Option V} : ∀ {vs : List Nat}, i ∈ vs → L2.wipe (σ.set i x) vs = L2.wipe σ vs
  | v :: vs, h => by
    unfold L2.wipe
    by_cases hv : i ∈ vs
    · rw [wipe_set hv]
    · have e : i = v := by
        rcases List.mem_cons.mp h with h | h
        · exact h
        · exact absurd h hv
      subst e
      have out : ∀ {ws : List Nat}, i ∉ ws → (L2.wipe (σ.set i x) ws) = (L2.wipe σ ws).set i x := by
        intro ws
        induction ws with
        | nil => intro _; rfl
        | cons w ws ih =>
          intro hw
          simp only [List.mem_cons, not_or] at hw
          unfold L2.wipe
          rw [ih hw.2, List.set_comm _ _ hw.1]
      rw [out hv, List.set_set]
theorem Only.refl {sl : List Nat} {σ : St} : Only sl σ σ := fun _ _ => rfl
theorem Only.set {i : Nat} {σ : St} {x : Option V} : Only [i] σ (σ.set i x) := fun vs h => wipe_set (h i (by simp))
def KG (K : PySem.W.Frag) (F Hs : Hp) (σ : St) (sl : List Nat) (Q' : PEnv → Prop) (Q : St → Hp → Prop) : Prop := ∀ (σ' : St) (H' Hs' : Hp) (ε' : PEnv), Ex Hs Hs' → Only sl σ σ' → RelS K F Hs' σ' H' ε' → Q' ε' → Q σ' H'
structure YG (X : Cx) (tg : Expr) (g : PTG) (sl : List Nat) : Prop where
  ex : ∃ t, PG X tg t ∧ ∀ (F Hs : Hp) (σ : St) (H : Hp) (ε : PEnv) (v : V) (d : D) (Q' : PEnv → Prop) (Q : St → Hp → Prop), RelS X.K F Hs σ H ε → Rep X.K Hs v d → g d ε Q' → KG X.K F Hs σ sl Q' Q → t v σ H Q
def cG (K : PySem.W.Frag) (g : PTG) (sl : List Nat) : TG := fun v σ H Q => ∃ (F Hs : Hp) (ε : PEnv) (d : D) (Q' : PEnv → Prop), RelS K F Hs σ H ε ∧ Rep K Hs v d ∧ g d ε Q' ∧ KG K F Hs σ sl Q' Q
theorem YG.canon {X : Cx} {tg : Expr} {g : PTG} {sl : List Nat} (h : YG X tg g sl) : PG X tg (cG X.K g sl) := by
  obtain ⟨t, p, k⟩ := h.ex
  exact ⟨fun pins s σ H v u Q I r ⟨F, Hs, ε, d, Q', R, rv, q, kk⟩ => p.run pins s σ H v u Q I r (k F Hs σ H ε v d Q' Q R rv q kk)⟩
def gN (i : Nat) : PTG := fun d ε Q => Q (ε.set i (some (.v d)))
section
variable {X : Cx} {pos : Pos}
theorem yg_name {x : Str} (i : Nat) (hN : X.N.Nodup) (hi : X.N[i]? = some x) (hx : Loc X.env.scope x) (hf : X.fn x = true ∨ X.env.scope.names.lookup x = some .local := by first | exact .inl rfl | exact .inr rfl | assumption) : YG X (.Name x pos) (gN i) [i] :=
  ⟨_, pg_name hN hi hx hf, fun F Hs σ H ε v d Q' Q R rv q k => k _ H Hs _ (Evl.Ex.refl _) Only.set (R.store rv i) q⟩
def gAll : List PTG → List D → PEnv → (PEnv → Prop) → Prop
  | [], [], ε, Q => Q ε
  | g :: gs, d :: ds, ε, Q => g d ε fun ε' => gAll gs ds ε' Q
  | _, _, _, _ => False
structure YGs (X : Cx) (tgs : List Expr) (gs : List PTG) (sl : List Nat) : Prop where
  ex : ∃ t, PGs X tgs t ∧ ∀ (F Hs : Hp) (σ : St) (H : Hp) (ε : PEnv) (vs : List V) (ds : List D) (Q' : PEnv → Prop) (Q : St → Hp → Prop), RelS X.K F Hs σ H ε → Reps X.K Hs vs ds → gAll gs ds ε Q' → KG X.K F Hs σ sl Q' Q → t vs σ H Q
theorem ygs_nil : YGs X [] [] [] := ⟨_, pgs_nil, fun F Hs σ H ε vs ds Q' Q R rv q k => by
  cases rv with
  | nil => exact ⟨rfl, k _ H Hs _ (Evl.Ex.refl _) Only.refl R q⟩
  | cons _ _ => exact q.elim⟩
theorem ygs_cons {e : Expr} {es : List Expr} {g : PTG} {gs : List PTG} {sl ss : List Nat} (h : YG X e g sl) (hs : YGs X es gs ss) (hst : (assignEach (e :: es) X.env).map (·.2) = assign e X.env :: (assignEach es X.env).map (·.2) := by rfl) : YGs X (e :: es) (g :: gs) (sl ++ ss) := by
  obtain ⟨t, p, k⟩ := h.ex
  obtain ⟨ts, ps, ks⟩ := hs.ex
  refine ⟨_, pgs_cons p ps hst, fun F Hs σ H ε vs ds Q' Q R rv q kk => ?_⟩
  cases rv with
  | nil => exact q.elim
  | cons r rs => exact ⟨_, _, rfl, k F Hs σ H ε _ _ _ _ R r q fun σ1 H1 Hs1 ε1 e1 o1 R1 q1 => ks F Hs1 σ1 H1 ε1 _ _ _ _ R1 (rs.mono e1) q1 fun σ2 H2 Hs2 ε2 e2 o2 R2 q2 => kk σ2 H2 Hs2 ε2 (e1.trans e2) (fun vs hv => (o2 vs fun i hi => hv i (List.mem_append_right _ hi)).trans (o1 vs fun i hi => hv i (List.mem_append_left _ hi))) R2 q2⟩
theorem gAll_len : ∀ {gs : List PTG} {ds : List D} {ε : PEnv} {Q : PEnv → Prop}, gAll gs ds ε Q → (∀ g ∈ gs, ∀ d ε Q, g d ε Q → ∃ ε', Q ε') → ds.length = gs.length
  | [], [], _, _, _, _ => rfl
  | g :: gs, d :: ds, ε, Q, h, m => by
    obtain ⟨ε', h2⟩ := m g (List.mem_cons_self ..) d ε _ h
    rw [List.length_cons, List.length_cons, gAll_len h2 fun g hg => m g (List.mem_cons_of_mem _ hg)]
/-- a, b, .. = a tuple -/
def gTupY (n : Nat) (gs : List PTG) : PTG := fun d ε Q => match d with
  | .tup ds => gd (ds.length = n) (gAll gs ds ε Q)
  | _ => False
theorem yg_tup {es : List Expr} {k : Nat} {gs : List PTG} {n : Nat} {sl : List Nat} (hc : X.calm = true) (h : YGs X es gs sl) (hn : (assignEach es X.env).length = n := by rfl) (hst : (assignEach es X.env).findIdx? (·.1) = none := by rfl) : YG X (.Tuple es k pos) (gTupY n gs) sl := by
  obtain ⟨ts, ps, ks⟩ := h.ex
  refine ⟨_, pg_tup hc ps hn hst, fun F Hs σ H ε v d Q' Q R rv q kk => ?_⟩
  unfold gTupY at q
  split at q
  · obtain ⟨hl, q⟩ := gd_elim q
    cases rv with
    | tup h1 r1 => exact ⟨_, _, rfl, Evl.ex_t R.ex h1, by rw [r1.len]; exact hl, ks F Hs σ H ε _ _ _ _ R r1 q kk⟩
  · exact q.elim
/-- a, b, .. = a list -/
def gLstY (n : Nat) (gs : List PTG) : PTG := fun d ε Q => match d with
  | .lst ds => gd (ds.length = n) (gAll gs ds ε Q)
  | _ => False
theorem yg_lst {es : List Expr} {k : Nat} {gs : List PTG} {n : Nat} {sl : List Nat} (hc : X.calm = true) (h : YGs X es gs sl) (hn : (assignEach es X.env).length = n := by rfl) (hst : (assignEach es X.env).findIdx? (·.1) = none := by rfl) : YG X (.Tuple es k pos) (gLstY n gs) sl := by
  obtain ⟨ts, ps, ks⟩ := h.ex
  refine ⟨_, pg_lst hc ps hn hst, fun F Hs σ H ε v d Q' Q R rv q kk => ?_⟩
  unfold gLstY at q
  split at q
  · obtain ⟨hl, q⟩ := gd_elim q
    cases rv with
    | lst h1 r1 => exact ⟨_, _, rfl, SqL.of (R.ex _ _ h1), by rw [r1.len]; exact hl, ks F Hs σ H ε _ _ _ _ R r1 q kk⟩
  · exact q.elim
end

/-! ### what is walked -/
structure Seqs (K : PySem.W.Frag) (Hs : Hp) (J : It) (ds : List D) : Prop where
  go : ∀ i H, Ex Hs H → i < ds.length → J.go i H
  stop : ∀ i H, Ex Hs H → ds.length ≤ i → J.stop i H
  yld : ∀ (i : Nat) (F Hc : Hp) (σ : St) (H : Hp) (ε : PEnv) (x : V) (H' : Hp), Ex Hs Hc → RelS K F Hc σ H ε → i < ds.length → J.yld i H x H' → ∃ Hc' d, Ex Hc Hc' ∧ RelS K F Hc' σ H' ε ∧ ds[i]? = some d ∧ Rep K Hc' x d
structure YI (X : Cx) (W : WX) (Ξ : Xi) (tg iter : Expr) (r : PTN) : Prop where
  ex : ∃ wi, PI X tg iter wi ∧ ∀ (F Hs : Hp) (σ : St) (H : Hp) (ε : PEnv) (Q' : List D → PEnv → Prop) (R' : It → Hp → Prop), RelS X.K F Hs σ H ε → Lk X.K F Hs W Ξ → r ε Q' →
    (∀ J H' Hs' ds ε', Ex Hs Hs' → RelS X.K F Hs' σ H' ε' → Seqs X.K Hs' J ds → Q' ds ε' → R' J H') → wi σ H R'
theorem seqs_list {K : PySem.W.Frag} {Hs : Hp} {a : Addr} {vs : List V} {ds : List D} (h : SqL K Hs a vs) (r : Reps K Hs vs ds) : Seqs K Hs (Itl K a) ds where
  go := fun i H e hi => by
    rw [← r.len] at hi
    exact ⟨vs, vs[i], Evl.ex_l e h, by simp [hi]⟩
  stop := fun i H e hi => ⟨vs, Evl.ex_l e h, by rw [r.len]; exact hi⟩
  yld := fun i F Hc σ H ε x H' e R hi y => by
    obtain ⟨rfl, y⟩ := y
    have e2 := y vs (Evl.ex_l (e.trans R.ex) h)
    obtain ⟨d, h1, h2⟩ := r.getV e2
    exact ⟨Hc, d, Evl.Ex.refl _, R, h1, h2.mono e⟩
theorem seqs_tup {K : PySem.W.Frag} {Hs : Hp} {a : Addr} {vs : List V} {ds : List D} (h : SqT K Hs a vs) (r : Reps K Hs vs ds) : Seqs K Hs (Itt K a) ds where
  go := fun i H e hi => by
    rw [← r.len] at hi
    exact ⟨vs, vs[i], Evl.ex_t e h, by simp [hi]⟩
  stop := fun i H e hi => ⟨vs, Evl.ex_t e h, by rw [r.len]; exact hi⟩
  yld := fun i F Hc σ H ε x H' e R hi y => by
    obtain ⟨rfl, y⟩ := y
    have e2 := y vs (Evl.ex_t (e.trans R.ex) h)
    obtain ⟨d, h1, h2⟩ := r.getV e2
    exact ⟨Hc, d, Evl.Ex.refl _, R, h1, h2.mono e⟩
def rangeD (lo : Int) (n : Nat) : List D := (List.range n).map fun (i : Nat) => D.int (lo + (i : Int))
theorem rangeD_len {lo : Int} {n : Nat} : (rangeD lo n).length = n := by unfold rangeD; rw [List.length_map, List.length_range]
theorem rangeD_get {lo : Int} {n i : Nat} {d : D} (h : (rangeD lo n)[i]? = some d) : i < n ∧ d = .int (lo + (i : Int)) := by
  unfold rangeD at h
  rw [List.getElem?_map] at h
  by_cases hi : i < n
  · rw [List.getElem?_range hi] at h
    exact ⟨hi, (Option.some.inj h).symm⟩
  · rw [List.getElem?_eq_none (by rw [List.length_range]; omega)] at h
    cases h
theorem seqs_range {K : PySem.W.Frag} {Hs : Hp} {lo : Int} {n : Nat} : Seqs K Hs (Itr lo n) (rangeD lo n) where
  go := fun i H e hi => by rw [rangeD_len] at hi; exact hi
  stop := fun i H e hi => by rw [rangeD_len] at hi; exact hi
  yld := fun i F Hc σ H ε x H' e R hi y => by
    rw [rangeD_len] at hi
    obtain ⟨rfl, rfl⟩ := y
    refine ⟨Hc, .int (lo + i), Evl.Ex.refl _, R, ?_, .int _⟩
    unfold rangeD
    rw [List.getElem?_map, List.getElem?_range hi] <;> rfl
section
variable {X : Cx} {W : WX} {Ξ : Xi} {tg a b : Expr} {pos p : Pos}
/-- for x in a list -/
def yiLst (r : PTE) : PTN := fun ε Q => r ε fun t ε' => out ε' t fun d ε2 => match d with
  | .lst ds => Q ds ε2
  | _ => False
theorem yi_lst {r : PTE} (h : YE X W Ξ a r) : YI X W Ξ tg a (yiLst r) := by
  obtain ⟨t, p, k⟩ := h.ex
  refine ⟨_, pi_list p, fun F Hs σ H ε Q' R' R L q kk => k F Hs σ H ε _ _ R L q fun v H1 Hs1 t ε1 e1 R1 p1 q1 => ?_⟩
  obtain ⟨d, ε2, Hs2, e2, R2, rv, q2⟩ := R1.out p1 q1
  split at q2
  · cases rv with
    | lst h1 r1 => exact ⟨_, rfl, ⟨_, SqL.of (R2.ex _ _ h1)⟩, kk _ H1 Hs2 _ ε2 (e1.trans e2) R2 (seqs_list (SqL.of h1) r1) q2⟩
  · exact q2.elim
/-- for x in a list that is only read -/
def yiFrl (r : PTE) : PTN := fun ε Q => r ε fun t ε' => out ε' t fun d ε2 => match d with
  | .frl ds => Q ds ε2
  | _ => False
theorem yi_frl {r : PTE} (h : YE X W Ξ a r) : YI X W Ξ tg a (yiFrl r) := by
  obtain ⟨t, p, k⟩ := h.ex
  refine ⟨_, pi_list p, fun F Hs σ H ε Q' R' R L q kk => k F Hs σ H ε _ _ R L q fun v H1 Hs1 t ε1 e1 R1 p1 q1 => ?_⟩
  obtain ⟨d, ε2, Hs2, e2, R2, rv, q2⟩ := R1.out p1 q1
  split at q2
  · cases rv with
    | frl h1 r1 => exact ⟨_, rfl, ⟨_, Evl.ex_l R2.ex h1.sq⟩, kk _ H1 Hs2 _ ε2 (e1.trans e2) R2 (seqs_list h1.sq r1) q2⟩
  · exact q2.elim
def yiTup (r : PTE) : PTN := fun ε Q => r ε fun t ε' => out ε' t fun d ε2 => match d with
  | .tup ds => Q ds ε2
  | _ => False
theorem yi_tup {r : PTE} (h : YE X W Ξ a r) : YI X W Ξ tg a (yiTup r) := by
  obtain ⟨t, p, k⟩ := h.ex
  refine ⟨_, pi_tup p, fun F Hs σ H ε Q' R' R L q kk => k F Hs σ H ε _ _ R L q fun v H1 Hs1 t ε1 e1 R1 p1 q1 => ?_⟩
  obtain ⟨d, ε2, Hs2, e2, R2, rv, q2⟩ := R1.out p1 q1
  split at q2
  · cases rv with
    | tup h1 r1 => exact ⟨_, rfl, ⟨_, Evl.ex_t R2.ex h1⟩, kk _ H1 Hs2 _ ε2 (e1.trans e2) R2 (seqs_tup h1 r1) q2⟩
  · exact q2.elim
def smallB : Int → Bool
  | .ofNat n => Nat.ble n 4611686018427387903
  | .negSucc n => Nat.ble n 4611686018427387903
theorem small_of {j : Int} (h : smallB j = true) : -4611686018427387904 ≤ j ∧ j < 4611686018427387904 := by
  cases j with
  | ofNat n =>
    have h := Nat.le_of_ble_eq_true h
    constructor
    · show _ ≤ ((n : Nat) : Int)
      omega
    · show ((n : Nat) : Int) < _
      omega
  | negSucc n =>
    have h := Nat.le_of_ble_eq_true h
    rw [Int.negSucc_eq]
    omega
theorem small_by {j : Int} (h0 : 0 ≤ j) (h : j < 4611686018427387904) : smallB j = true := by
  cases j with
  | ofNat n =>
    replace h : ((n : Nat) : Int) < _ := h
    exact Nat.ble_eq_true_of_le (by omega)
  | negSucc n =>
    rw [Int.negSucc_eq] at h0
    omega
def rg1 (Q : List D → Prop) : List D → Prop
  | [.int j] => gd (smallB j = true) (Q (rangeD 0 j.toNat))
  | _ => False
def rg2 (Q : List D → Prop) : List D → Prop
  | [.int i, .int j] => gd (smallB i = true ∧ smallB j = true) (Q (rangeD i (j - i).toNat))
  | _ => False
def yiRg1 (rs : PTL) : PTN := fun ε Q => rs ε fun ts ε1 => ress ε1 ts (rg1 fun ds => Q ds ε1)
def yiRg2 (rs : PTL) : PTN := fun ε Q => rs ε fun ts ε1 => ress ε1 ts (rg2 fun ds => Q ds ε1)
theorem yi_range1 {rs : PTL} (hg : Gl X "range") (hm : X.mg "range" = none) (h : YL X W Ξ [a] rs) (hs : starEach [a] X.env = [(false, eval a X.env)] := by rfl) : YI X W Ξ tg (.Call (.Name "range" p) [a] [] pos) (yiRg1 rs) := by
  obtain ⟨t, pa, k⟩ := h.ex
  refine ⟨_, pi_range1 hg hm pa hs, fun F Hs σ H ε Q' R' R L q kk => k F Hs σ H ε _ _ R L q fun vs H1 Hs1 ts ε1 e1 R1 p1 q1 => ?_⟩
  obtain ⟨ds, rv, q2⟩ := R1.ress p1 q1
  unfold rg1 at q2
  split at q2
  · obtain ⟨v, rfl, r⟩ := rv.one
    have q2 := gd_elim q2
    exact ⟨_, by rw [r.int'], (small_of q2.1).1, (small_of q2.1).2, kk _ H1 Hs1 _ ε1 e1 R1 seqs_range q2.2⟩
  · exact q2.elim
theorem yi_range2 {rs : PTL} (hg : Gl X "range") (hm : X.mg "range" = none) (h : YL X W Ξ [a, b] rs) (hs : starEach [a, b] X.env = [(false, eval a X.env), (false, eval b X.env)] := by rfl) (hs2 : starEach [b] X.env = [(false, eval b X.env)] := by rfl) : YI X W Ξ tg (.Call (.Name "range" p) [a, b] [] pos) (yiRg2 rs) := by
  obtain ⟨t, pa, k⟩ := h.ex
  refine ⟨_, pi_range2 hg hm pa hs hs2, fun F Hs σ H ε Q' R' R L q kk => k F Hs σ H ε _ _ R L q fun vs H1 Hs1 ts ε1 e1 R1 p1 q1 => ?_⟩
  obtain ⟨ds, rv, q2⟩ := R1.ress p1 q1
  unfold rg2 at q2
  split at q2
  · obtain ⟨v, w, rfl, r1, r2⟩ := rv.two
    have q2 := gd_elim q2
    exact ⟨_, _, by rw [r1.int', r2.int'], ⟨(small_of q2.1.1).1, (small_of q2.1.1).2, (small_of q2.1.2).1, (small_of q2.1.2).2⟩, kk _ H1 Hs1 _ ε1 e1 R1 seqs_range q2.2⟩
  · exact q2.elim

/-! ### comprehensions -/
def wipeE (ε : PEnv) : List Nat → PEnv
  | [] => ε
  | v :: vs => (wipeE ε vs).set v none
/-- nothing that is owned stands in these slots -/
def freeE (ε : PEnv) : List Nat → Prop
  | [] => True
  | v :: vs => (match ε[v]? with
    | some (some (.o _)) => False
    | some (some (.od _)) => False
    | _ => True) ∧ freeE ε vs
theorem wipeE_len (ε : PEnv) : ∀ vs : List Nat, (wipeE ε vs).length = ε.length
  | [] => rfl
  | v :: vs => by unfold wipeE; rw [List.length_set, wipeE_len ε vs]
theorem wipeE_some {ε : PEnv} {i : Nat} {s : S} : ∀ {vs : List Nat}, (wipeE ε vs)[i]? = some (some s) → ε[i]? = some (some s) ∧ i ∉ vs
  | [], h => ⟨h, by simp⟩
  | v :: vs, h => by
    unfold wipeE at h
    by_cases hi : v = i
    · subst hi
      by_cases hv : v < (wipeE ε vs).length
      · rw [List.getElem?_set_self hv] at h; cases h
      · rw [List.getElem?_eq_none (by simpa using hv)] at h; cases h
    · rw [List.getElem?_set_ne hi] at h
      obtain ⟨h1, h2⟩ := wipeE_some h
      exact ⟨h1, by simp only [List.mem_cons, not_or]; exact ⟨fun e => hi e.symm, h2⟩⟩
theorem wipeE_get {ε : PEnv} {i : Nat} : ∀ {vs : List Nat}, i ∉ vs → (wipeE ε vs)[i]? = ε[i]?
  | [], _ => rfl
  | v :: vs, h => by
    simp only [List.mem_cons, not_or] at h
    unfold wipeE
    rw [List.getElem?_set_ne (Ne.symm h.1), wipeE_get h.2]
theorem wipe_get {σ : St} {i : Nat} : ∀ {vs : List Nat}, i ∉ vs → (wipe σ vs)[i]? = σ[i]?
  | [], _ => rfl
  | v :: vs, h => by
    simp only [List.mem_cons, not_or] at h
    unfold wipe
    rw [List.getElem?_set_ne (Ne.symm h.1), wipe_get h.2]
theorem freeE_own {ε : PEnv} {i : Nat} {s : S} (e : ε[i]? = some (some s)) (so : s.own = true) : ∀ {vs : List Nat}, freeE ε vs → i ∉ vs
  | [], _ => by simp
  | v :: vs, h => by
    simp only [List.mem_cons, not_or]
    refine ⟨fun z => ?_, freeE_own e so h.2⟩
    subst z
    have h1 := h.1
    rw [e] at h1
    cases s <;> first | exact h1 | cases so
section
variable {K : PySem.W.Frag} {F Hs Hs' H H' : Hp} {σ : St} {ε : PEnv}
theorem SlotOk.at {i : Nat} {s : S} {σ' : St} (h : SlotOk K F Hs σ H i s) (e : σ'[i]? = σ[i]?) : SlotOk K F Hs σ' H i s := by
  cases s <;> (unfold SlotOk at h ⊢; dsimp only at h ⊢; rw [e]; exact h)
theorem RelS.wipe (R : RelS K F Hs σ H ε) (vs : List Nat) : RelS K F Hs (L2.wipe σ vs) H (wipeE ε vs) := by
  refine ⟨R.ex, R.fr, by rw [wipe_length, wipeE_len]; exact R.len, fun j t q => ?_, fun j k t u hn h1 h2 h3 h4 => ?_⟩
  · obtain ⟨h1, h2⟩ := wipeE_some q
    exact (R.sl j t h1).at (wipe_get h2)
  · obtain ⟨g1, n1⟩ := wipeE_some h1
    obtain ⟨g2, n2⟩ := wipeE_some h2
    rw [wipe_get n1, wipe_get n2]
    exact R.ds j k t u hn g1 g2 h3 h4
theorem RelS.unwipe {vs : List Nat} (R : RelS K F Hs σ H ε) (R' : RelS K F Hs' (L2.wipe σ vs) H' (wipeE ε vs)) (e : Ex Hs Hs') (hf : freeE ε vs) : RelS K F Hs' σ H' ε := by
  refine ⟨R'.ex, R'.fr, R.len, fun j t q => ?_, R.ds⟩
  by_cases hj : j ∈ vs
  · have z := R.sl j t q
    cases t with
    | v d =>
      obtain ⟨v, h1, h2⟩ := z
      exact ⟨v, h1, h2.mono e⟩
    | o ds => exact absurd hj (freeE_own q rfl hf)
    | od ds => exact absurd hj (freeE_own q rfl hf)
  · exact (R'.sl j t (by rw [wipeE_get hj]; exact q)).at (wipe_get hj).symm
end
/-- [e for target in iter if test] -/
def ynLc (ri : PTN) (g : PTG) (rt : PTT) (re : PTE) (vs : List Nat) : PTN := fun ε Q => ri ε fun ds ε1 => freeE ε1 vs ∧ ds.length ≤ 16777216 ∧ ∃ Wp : Nat → List D → Prop, Wp 0 [] ∧
  (∀ i d acc, i < ds.length → ds[i]? = some d → acc.length ≤ i → Wp i acc → g d (wipeE ε1 vs) fun ε2 => rt ε2 fun k ε3 => match k with
    | true => re ε3 fun t ε4 => out ε4 t fun y ε5 => wipeE ε5 vs = wipeE ε1 vs ∧ Wp (i + 1) (acc ++ [y])
    | false => wipeE ε3 vs = wipeE ε1 vs ∧ Wp (i + 1) acc) ∧ ∀ acc, acc.length ≤ ds.length → Wp ds.length acc → Q acc ε1
def yYes : PTT := fun ε Q => Q true ε
/-- a clause's tests -/
structure YTs (X : Cx) (W : WX) (Ξ : Xi) (es : List Expr) (r : PTT) : Prop where
  ex : ∃ t, PTs X es t ∧ ∀ (F Hs : Hp) (σ : St) (H : Hp) (ε : PEnv) (Q' : Bool → PEnv → Prop) (Q : Bool → Hp → Prop), RelS X.K F Hs σ H ε → Lk X.K F Hs W Ξ → r ε Q' → KT X.K F Hs σ Q' Q → t σ H Q
theorem yts_nil : YTs X W Ξ [] yYes := ⟨_, pts_nil, fun F Hs σ H ε Q' Q R _ q k => k true H Hs ε (Evl.Ex.refl _) R q⟩
theorem yts_one {r : PTT} (h : YT X W Ξ a r) : YTs X W Ξ [a] r := by
  obtain ⟨t, p, k⟩ := h.ex
  exact ⟨t, pts_one p, k⟩
theorem YTs.canon {es : List Expr} {r : PTT} (h : YTs X W Ξ es r) : PTs X es (cT X.K W Ξ r) := by
  obtain ⟨t, p, k⟩ := h.ex
  exact ⟨fun pins s σ H Q I ⟨F, Hs, ε, Q', R, L, q, kk⟩ => p.run pins s σ H Q I (k F Hs σ H ε Q' Q R L q kk)⟩


theorem lc_reads {X : Cx} {W : WX} {Ξ : Xi} {own : List (Str × Nat)} {ri : PTN} {g : PTG} {rt : PTT} {re : PTE} {sl : List Nat} {wi : TI}
    (ki : ∀ (F Hs : Hp) (σ : St) (H : Hp) (ε : PEnv) (Q' : List D → PEnv → Prop) (R' : It → Hp → Prop), RelS X.K F Hs σ H ε → Lk X.K F Hs W Ξ → ri ε Q' →
      (∀ J H' Hs' ds ε', Ex Hs Hs' → RelS X.K F Hs' σ H' ε' → Seqs X.K Hs' J ds → Q' ds ε' → R' J H') → wi σ H R')
    (hsl : (sl.all fun i => (own.map (·.2)).contains i) = true) (F Hs : Hp) (σ : St) (H : Hp) (ε : PEnv) (Q' : List D → PEnv → Prop) (Q : VK) (R : RelS X.K F Hs σ H ε) (L : Lk X.K F Hs W Ξ) (q : ynLc ri g rt re (own.map (·.2)) ε Q') (k : KN X.K F Hs σ Q' Q) :
    tLc wi (cG X.K g sl) (cT X.K W0 Ξ0 rt) (cE X.K W0 Ξ0 re) (own.map (·.2)) σ H Q := by
  have hsl' : ∀ i ∈ sl, i ∈ own.map (·.2) := fun i hi => by simpa using List.all_eq_true.mp hsl i hi
  generalize own.map (·.2) = ws at hsl' q ⊢
  refine ki F Hs σ H ε _ _ R L q fun J H1 Hs1 ds ε1 e1 R1 sq ⟨hf, hl, Wp, w0, wt, wd⟩ => fun Dl hD => ?_
  obtain ⟨n1, n2, n3⟩ := R1.nobody hD
  have R2 : RelS X.K F Hs1 σ (upd H1 Dl (.lst [])) ε1 := R1.lay hD
  have lt' : Lk X.K F Hs1 W Ξ := L.mono e1
  -- the turns
  refine ⟨fun i m H => m = ds.length - i ∧ i ≤ ds.length ∧ ∃ (Hc : Hp) (av : List V) (acc : List D), Ex Hs1 Hc ∧ RelS X.K (upd F Dl (.lst av)) Hc (L2.wipe σ ws) H (wipeE ε1 ws) ∧ Reps X.K Hc av acc ∧ acc.length ≤ i ∧ Wp i acc, ⟨ds.length, by simp, Nat.zero_le _, Hs1, [], [], Evl.Ex.refl _, ?_, .nil, Nat.le_refl _, w0⟩, ?_⟩
  · refine (R2.wipe ws).lend upd_same n1 fun i s e so z => ?_
    obtain ⟨g1, g2⟩ := wipeE_some e
    rw [wipe_get g2] at z
    exact n3 i s g1 so z
  · rintro i m H2 ⟨rfl, hil, Hc, av, acc, ec, Rc, ra, hla, wp⟩
    by_cases hlt : i < ds.length
    · refine .inr ⟨sq.go i H2 (ec.trans Rc.ex) hlt, fun H' => i + 1 ≤ ds.length ∧ ∃ (Hc : Hp) (av : List V) (acc : List D), Ex Hs1 Hc ∧ RelS X.K (upd F Dl (.lst av)) Hc (L2.wipe σ ws) H' (wipeE ε1 ws) ∧ Reps X.K Hc av acc ∧ acc.length ≤ i + 1 ∧ Wp (i + 1) acc,
        fun H' n' => ⟨ds.length - (i + 1), by omega, rfl, n'.1, n'.2⟩, fun x H3 y => ?_⟩
      obtain ⟨Hc3, d, e3, R3, hd, rx⟩ := sq.yld i _ Hc _ H2 _ x H3 ec Rc hlt y
      refine ⟨_, Hc3, _, d, _, R3, rx, wt i d acc hlt hd hla wp, fun σ4 H4 Hc4 ε4 e4 o4 R4 q4 => ?_⟩
      have w4 : L2.wipe σ4 ws = L2.wipe σ ws := by
        rw [o4 ws hsl']
        have idem : ∀ (vs us : List Nat), (∀ v ∈ vs, v ∈ us) → L2.wipe (L2.wipe σ us) vs = L2.wipe σ us := by
          intro vs
          induction vs with
          | nil => intro _ _; rfl
          | cons v vs ih =>
            intro us hv
            show (L2.wipe (L2.wipe σ us) vs).set v none = L2.wipe σ us
            rw [ih us fun w hw => hv w (List.mem_cons_of_mem _ hw)]
            have in_ : ∀ {us : List Nat}, v ∈ us → (L2.wipe σ us).set v none = L2.wipe σ us := by
              intro us
              induction us with
              | nil => intro h; cases h
              | cons u us ih =>
                intro h
                show ((L2.wipe σ us).set u none).set v none = (L2.wipe σ us).set u none
                by_cases e : u = v
                · subst e
                  rw [List.set_set]
                · rw [List.set_comm _ _ e, ih (by
                    rcases List.mem_cons.mp h with h | h
                    · exact absurd h.symm e
                    · exact h)]
            exact in_ (hv v (List.mem_cons_self ..))
        exact idem ws ws fun _ h => h
      refine ⟨w4, ⟨_, Hc4, ε4, _, R4, Lk.none, q4, fun b H5 Hc5 ε5 e5 R5 q5 => ?_⟩⟩
      cases b with
      | true =>
        show (if true = true then _ else _)
        rw [if_pos rfl]
        refine ⟨_, Hc5, ε5, _, R5, Lk.none, q5, fun z H6 Hc6 t6 ε6 e6 R6 p6 q6 => ?_⟩
        obtain ⟨yd, ε7, Hc7, e7, R7, ry, we, wp7⟩ := R6.out p6 q6
        have ex : Ex Hc Hc7 := (((e3.trans e4).trans e5).trans e6).trans e7
        have R8 := R7.wipe ws
        rw [w4, we] at R8
        obtain ⟨R9, b1, b2, b3⟩ := R8.back n2
        refine ⟨av, b1, by rw [ra.len]; exact line_lt (by omega), hlt, Hc7, av ++ [z], acc ++ [yd], ec.trans ex, ?_, (ra.mono ex).append (.cons ry .nil), by rw [List.length_append]; simp; omega, wp7⟩
        exact (R9.touch b2 n2 b3).lend upd_same b2 b3
      | false =>
        show (if false = true then _ else _)
        rw [if_neg Bool.false_ne_true]
        obtain ⟨we, wp7⟩ := q5
        have ex : Ex Hc Hc5 := (e3.trans e4).trans e5
        have R8 := R5.wipe ws
        rw [w4, we] at R8
        exact ⟨hlt, Hc5, av, acc, ec.trans ex, R8, ra.mono ex, by omega, wp7⟩
    · have ei : i = ds.length := by omega
      subst ei
      refine .inl ⟨sq.stop _ H2 (ec.trans Rc.ex) (Nat.le_refl _), ?_⟩
      obtain ⟨R9, b1, b2, b3⟩ := Rc.back n2
      have R10 := R2.unwipe R9 ec hf
      refine k Dl H2 Hc av acc ε1 (e1.trans ec) R10 b1 b2 n2 (fun i s e so z => ?_) ra (wd acc hla wp)
      have hi := freeE_own e so hf
      exact b3 i s (by rw [wipeE_get hi]; exact e) so (by rw [wipe_get hi]; exact z)
theorem yn_lc {tg iter elt : Expr} {ifs : List Expr} {scope : Scope} {own : List (Str × Nat)} {ri : PTN} {g : PTG} {rt : PTT} {re : PTE} {sl : List Nat} (hc : X.calm = true) (hN : X.N.Nodup) (hi : YI X W Ξ tg iter ri) (ok : BlkOk X.N X.env.scope scope own)
    (hg : ∀ (s : Shared) (H : Hp) (C : Addr) (cl : List (Str × Addr)) (fp : List Addr), YG (X.blk s H scope (compEnvC scope cl C X.env) fp) tg g sl)
    (ht : ∀ (s : Shared) (H : Hp) (C : Addr) (cl : List (Str × Addr)) (fp : List Addr), YTs (X.blk s H scope (compEnvC scope cl C X.env) fp) W0 Ξ0 ifs rt)
    (he : ∀ (s : Shared) (H : Hp) (C : Addr) (cl : List (Str × Addr)) (fp : List Addr), YE (X.blk s H scope (compEnvC scope cl C X.env) fp) W0 Ξ0 elt re)
    (hsl : (sl.all fun i => (own.map (·.2)).contains i) = true := by decide) (hs : ∀ x, foldedSetIterable iter X.env x = pure x := by intro _; rfl) :
    YN X W Ξ (.ListComp elt [⟨tg, iter, ifs, 0⟩] scope pos) (ynLc ri g rt re (own.map (·.2))) := by
  obtain ⟨wi, pi, ki⟩ := hi.ex
  exact ⟨_, pe_lc (g := cG X.K g sl) (tt := cT X.K W0 Ξ0 rt) (te := cE X.K W0 Ξ0 re) hc hN pi ok (fun s H C cl fp => (hg s H C cl fp).canon) (fun s H C cl fp => (ht s H C cl fp).canon) (fun s H C cl fp => (he s H C cl fp).canon) hs, lc_reads ki hsl⟩
end
end PL

set_option Elab.async false
set_option linter.all false
set_option autoImplicit false
set_option maxRecDepth 100000
set_option maxHeartbeats 2000000
/-! Statements and defs, over plain data. -/
namespace PL
open PySem PySem.Spec PyProof.Rows L2
open Evl (Ex)

structure PEnds where
  nx : PEnv → Prop
  rt : D → PEnv → Prop
  bk : PEnv → Prop := fun _ => False
  ct : PEnv → Prop := fun _ => False
abbrev PTS := PEnds → PEnv → Prop
structure EOk (K : PySem.W.Frag) (F Hs : Hp) (Δ : PEnds) (Dd : Ends) : Prop where
  nx : ∀ (σ' : St) (H' Hs' : Hp) (ε' : PEnv), Ex Hs Hs' → RelS K F Hs' σ' H' ε' → Δ.nx ε' → Dd.nx σ' H'
  rt : ∀ (v : V) (σ' : St) (H' Hs' : Hp) (d : D) (ε' : PEnv), Ex Hs Hs' → RelS K F Hs' σ' H' ε' → Rep K Hs' v d → Δ.rt d ε' → Dd.rt v H'
  bk : ∀ (σ' : St) (H' Hs' : Hp) (ε' : PEnv), Ex Hs Hs' → RelS K F Hs' σ' H' ε' → Δ.bk ε' → Dd.bk σ' H'
  ct : ∀ (σ' : St) (H' Hs' : Hp) (ε' : PEnv), Ex Hs Hs' → RelS K F Hs' σ' H' ε' → Δ.ct ε' → Dd.ct σ' H'
theorem EOk.mono {K : PySem.W.Frag} {F Hs Hs' : Hp} {Δ : PEnds} {Dd : Ends} (e : Ex Hs Hs') (h : EOk K F Hs Δ Dd) : EOk K F Hs' Δ Dd :=
  ⟨fun σ' H' Hs' ε' e2 => h.nx σ' H' Hs' ε' (e.trans e2), fun v σ' H' Hs' d ε' e2 => h.rt v σ' H' Hs' d ε' (e.trans e2), fun σ' H' Hs' ε' e2 => h.bk σ' H' Hs' ε' (e.trans e2), fun σ' H' Hs' ε' e2 => h.ct σ' H' Hs' ε' (e.trans e2)⟩
structure YS (X : Cx) (W : WX) (Ξ : Xi) (st : Stmt) (r : PTS) : Prop where
  ex : ∃ t, PS X st t ∧ ∀ (F Hs : Hp) (σ : St) (H : Hp) (ε : PEnv) (Δ : PEnds) (Dd : Ends), RelS X.K F Hs σ H ε → Lk X.K F Hs W Ξ → r Δ ε → EOk X.K F Hs Δ Dd → t Dd σ H
structure YSs (X : Cx) (W : WX) (Ξ : Xi) (st : List Stmt) (r : PTS) : Prop where
  ex : ∃ t, PSs X st t ∧ ∀ (F Hs : Hp) (σ : St) (H : Hp) (ε : PEnv) (Δ : PEnds) (Dd : Ends), RelS X.K F Hs σ H ε → Lk X.K F Hs W Ξ → r Δ ε → EOk X.K F Hs Δ Dd → t Dd σ H
def cSs (K : PySem.W.Frag) (W : WX) (Ξ : Xi) (r : PTS) : TS := fun Dd σ H => ∃ (F Hs : Hp) (ε : PEnv) (Δ : PEnds), RelS K F Hs σ H ε ∧ Lk K F Hs W Ξ ∧ r Δ ε ∧ EOk K F Hs Δ Dd
theorem YSs.canon {X : Cx} {W : WX} {Ξ : Xi} {st : List Stmt} {r : PTS} (h : YSs X W Ξ st r) : PSs X st (cSs X.K W Ξ r) := by
  obtain ⟨t, p, k⟩ := h.ex
  exact ⟨fun pins s σ H Dd I ⟨F, Hs, ε, Δ, R, L, q, kk⟩ => p.run pins s σ H Dd I (k F Hs σ H ε Δ Dd R L q kk)⟩

section
variable {X : Cx} {W : WX} {Ξ : Xi} {st : Stmt} {rest : List Stmt} {r u : PTS} {e : Expr} {pos : Pos}
def ysNext : PTS := fun Δ ε => Δ.nx ε
def ysSeq (r u : PTS) : PTS := fun Δ ε => r { Δ with nx := fun ε' => u Δ ε' } ε
theorem yss_nil : YSs X W Ξ [] ysNext := ⟨_, pss_nil, fun F Hs σ H ε Δ Dd R L q k => k.nx σ H Hs ε (Evl.Ex.refl _) R q⟩
theorem yss_cons (h1 : YS X W Ξ st r) (h2 : YSs X W Ξ rest u) : YSs X W Ξ (st :: rest) (ysSeq r u) := by
  obtain ⟨t, p, k⟩ := h1.ex
  obtain ⟨t2, p2, k2⟩ := h2.ex
  refine ⟨_, pss_cons p p2, fun F Hs σ H ε Δ Dd R L q kk => k F Hs σ H ε _ _ R L q ⟨fun σ' H' Hs' ε' e R' q' => ?_, kk.rt, kk.bk, kk.ct⟩⟩
  exact k2 F Hs' σ' H' ε' Δ Dd R' (L.mono e) q' (kk.mono e)
theorem yss_one (h1 : YS X W Ξ st r) : YSs X W Ξ [st] r := by
  obtain ⟨t, p, k⟩ := h1.ex
  exact ⟨_, pss_one p, k⟩
theorem ys_pass : YS X W Ξ (.Pass pos) ysNext := ⟨_, ps_pass, fun F Hs σ H ε Δ Dd R L q k => k.nx σ H Hs ε (Evl.Ex.refl _) R q⟩
def ysBrk : PTS := fun Δ ε => Δ.bk ε
def ysCnt : PTS := fun Δ ε => Δ.ct ε
theorem ys_break : YS X W Ξ (.Break pos) ysBrk := ⟨_, ps_break, fun F Hs σ H ε Δ Dd R L q k => k.bk σ H Hs ε (Evl.Ex.refl _) R q⟩
theorem ys_continue : YS X W Ξ (.Continue pos) ysCnt := ⟨_, ps_continue, fun F Hs σ H ε Δ Dd R L q k => k.ct σ H Hs ε (Evl.Ex.refl _) R q⟩
/-- x = e -/
def ysAsg (re : PTE) (i : Nat) : PTS := fun Δ ε => re ε fun t ε' => out ε' t fun d ε2 => Δ.nx (ε2.set i (some (.v d)))
theorem ys_set (i : Nat) {x : Str} {pos' : Pos} {re : PTE} (hN : X.N.Nodup) (hi : X.N[i]? = some x) (hx : Loc X.env.scope x) (he : YE X W Ξ e re) (hs : swapsWith e (some (.Name x pos')) pos.line X.env = pure false := by rfl)
    (hf : X.fn x = true ∨ X.env.scope.names.lookup x = some .local := by first | exact .inl rfl | exact .inr rfl | assumption) : YS X W Ξ (.Assign [.Name x pos'] e pos) (ysAsg re i) := by
  obtain ⟨t, p, k⟩ := he.ex
  refine ⟨_, ps_set hN hi hx p hs hf, fun F Hs σ H ε Δ Dd R L q kk => k F Hs σ H ε _ _ R L q fun v H1 Hs1 t1 ε1 e1 R1 p1 q1 => ?_⟩
  obtain ⟨d, ε2, Hs2, e2, R2, rv, q2⟩ := R1.out p1 q1
  exact kk.nx _ H1 Hs2 _ (e1.trans e2) (R2.store rv i) q2
/-- x = a new list, that x owns -/
def ysAsgO (rn : PTN) (i : Nat) : PTS := fun Δ ε => rn ε fun ds ε' => Δ.nx (ε'.set i (some (.o ds)))
theorem storeO_of {K : PySem.W.Frag} {F Hs H : Hp} {σ : St} {ε : PEnv} {p : Addr} {vs : List V} {ds : List D} (R : RelS K F Hs σ H ε) (i : Nat) (hH : H p = some (.lst vs)) (hp : Hs p = none) (hF : F p = none) (hn : Nobody σ ε p) (r : Reps K Hs vs ds) :
    RelS K F Hs (σ.set i (some (.ref p))) H (ε.set i (some (.o ds))) := by
  refine R.storeO rfl i hn fun hi => ?_
  exact ⟨p, vs, by rw [List.getElem?_set_self (by rw [R.len]; exact hi)], hp, hF, hH, r⟩
theorem ys_setO (i : Nat) {x : Str} {pos' : Pos} {rn : PTN} (hN : X.N.Nodup) (hi : X.N[i]? = some x) (hx : Loc X.env.scope x) (he : YN X W Ξ e rn) (hs : swapsWith e (some (.Name x pos')) pos.line X.env = pure false := by rfl)
    (hf : X.fn x = true ∨ X.env.scope.names.lookup x = some .local := by first | exact .inl rfl | exact .inr rfl | assumption) : YS X W Ξ (.Assign [.Name x pos'] e pos) (ysAsgO rn i) := by
  obtain ⟨t, p, k⟩ := he.ex
  refine ⟨_, ps_set hN hi hx p hs hf, fun F Hs σ H ε Δ Dd R L q kk => k F Hs σ H ε _ _ R L q fun p H' Hs' vs ds ε' e R' g1 g2 g3 g4 rs q' => ?_⟩
  exact kk.nx _ H' Hs' _ e (storeO_of R' i g1 g2 g3 g4 rs) q'
/-- x = [.. for ..] -/
theorem ys_setLc (i : Nat) {y : Str} {py spos : Pos} {tg iter elt : Expr} {ifs : List Expr} {scope : Scope} {own : List (Str × Nat)} {ri : PTN} {g : PTG} {rt : PTT} {re : PTE} {sl : List Nat} (o : Bool) (hc : X.calm = true) (hN : X.N.Nodup) (hy : X.N[i]? = some y) (hyl : X.env.scope.names.lookup y = some .local)
    (hsw : swapsWith (.ListComp elt [⟨tg, iter, ifs, 0⟩] scope pos) (some (.Name y py)) spos.line X.env = pure true) (hi : YI X W Ξ tg iter ri) (ok : BlkOk X.N X.env.scope scope own)
    (hg : ∀ (s : Shared) (H : Hp) (C : Addr) (cl : List (Str × Addr)) (fp : List Addr), YG (X.blk s H scope (compEnvC scope cl C X.env) fp) tg g sl)
    (ht : ∀ (s : Shared) (H : Hp) (C : Addr) (cl : List (Str × Addr)) (fp : List Addr), YTs (X.blk s H scope (compEnvC scope cl C X.env) fp) W0 Ξ0 ifs rt)
    (he : ∀ (s : Shared) (H : Hp) (C : Addr) (cl : List (Str × Addr)) (fp : List Addr), YE (X.blk s H scope (compEnvC scope cl C X.env) fp) W0 Ξ0 elt re)
    (hsl : (sl.all fun i => (own.map (·.2)).contains i) = true := by decide) (hs : ∀ x, foldedSetIterable iter X.env x = pure x := by intro _; rfl) :
    YS X W Ξ (.Assign [.Name y py] (.ListComp elt [⟨tg, iter, ifs, 0⟩] scope pos) spos) (match o with
      | true => ysAsgO (ynLc ri g rt re (own.map (·.2))) i
      | false => ysAsg (yNew (ynLc ri g rt re (own.map (·.2)))) i) := by
  obtain ⟨wi, pi, ki⟩ := hi.ex
  refine ⟨_, ps_setLc (g := cG X.K g sl) (tt := cT X.K W0 Ξ0 rt) (te := cE X.K W0 Ξ0 re) hc hN hy hyl hsw pi ok (fun s H C cl fp => (hg s H C cl fp).canon) (fun s H C cl fp => (ht s H C cl fp).canon) (fun s H C cl fp => (he s H C cl fp).canon) hs, fun F Hs σ H ε Δ Dd R L q kk => ?_⟩
  cases o with
  | true =>
    refine lc_reads ki hsl F Hs σ H ε _ _ R L q fun p H' Hs' vs ds ε' e R' g1 g2 g3 g4 rs q' => ?_
    exact kk.nx _ H' Hs' _ e (storeO_of R' i g1 g2 g3 g4 rs) q'
  | false =>
    refine lc_reads ki hsl F Hs σ H ε _ _ R L q fun p H' Hs' vs ds ε' e R' g1 g2 g3 g4 rs q' => ?_
    exact kk.nx _ H' _ _ (e.trans (ex_upd g2)) ((R'.adopt g1 g2 g3 g4).store (.lst upd_same (rs.mono (ex_upd g2))) i) q'
/-- targets = e -/
def ysAsgG (re : PTE) (g : PTG) : PTS := fun Δ ε => re ε fun t ε' => out ε' t fun d ε2 => g d ε2 Δ.nx
theorem ys_asg {tg : Expr} {re : PTE} {g : PTG} {sl : List Nat} (he : YE X W Ξ e re) (hg : YG X tg g sl) (hs : swapsWithSole [tg] e pos.line X.env = pure false := by rfl) (hw : swappedStores [tg] e X.env = pure none := by rfl)
    (h1 : (assignEach [tg] X.env).map (·.2) = [assign tg X.env] := by rfl) : YS X W Ξ (.Assign [tg] e pos) (ysAsgG re g) := by
  obtain ⟨t, p, k⟩ := he.ex
  obtain ⟨tg', pg, kg⟩ := hg.ex
  refine ⟨_, ps_asg p pg hs hw h1, fun F Hs σ H ε Δ Dd R L q kk => k F Hs σ H ε _ _ R L q fun v H1 Hs1 t1 ε1 e1 R1 p1 q1 => ?_⟩
  obtain ⟨d, ε2, Hs2, e2, R2, rv, q2⟩ := R1.out p1 q1
  exact kg F Hs2 σ H1 ε2 v d _ _ R2 rv q2 fun σ3 H3 Hs3 ε3 e3 _ R3 q3 => kk.nx σ3 H3 Hs3 ε3 ((e1.trans e2).trans e3) R3 q3
/-- x += e -/
def ysAug (f : Int → Int → Int) (i : Nat) (re : PTE) : PTS := fun Δ ε => match ε[i]? with
  | some (some (.v (.int a))) => re ε fun t ε' => res ε' t (asI fun b => Δ.nx (ε'.set i (some (.v (.int (f a b))))))
  | _ => False
theorem ys_aug (i : Nat) {x : Str} {pos' : Pos} {op : Operator} {f : Int → Int → Int} {re : PTE} (ho : PIp X op (ipI f)) (hN : X.N.Nodup) (hi : X.N[i]? = some x) (hx : Loc X.env.scope x) (he : YE X W Ξ e re) (hf : X.fn x = true ∨ X.env.scope.names.lookup x = some .local := by first | exact .inl rfl | exact .inr rfl | assumption) :
    YS X W Ξ (.AugAssign (.Name x pos') op e pos) (ysAug f i re) := by
  obtain ⟨t, p, k⟩ := he.ex
  refine ⟨_, ps_aug hN hi hx p ho hf, fun F Hs σ H ε Δ Dd R L q kk => ?_⟩
  unfold ysAug at q
  split at q
  · rename_i a ea
    obtain ⟨v, h1, h2⟩ := R.sl i _ ea
    cases h2
    refine ⟨_, h1, k F Hs σ H ε _ _ R L q fun v H1 Hs1 t1 ε1 e1 R1 p1 q1 => ?_⟩
    obtain ⟨d, rv, q2⟩ := R1.res p1 q1
    cases d with
    | int b => exact ⟨a, b, rfl, rv.int', kk.nx _ H1 Hs1 _ e1 (R1.store (.int _) i) q2⟩
    | _ => exact False.elim q2
  · exact q.elim
theorem ys_augAdd (i : Nat) {x : Str} {pos' : Pos} {re : PTE} (hN : X.N.Nodup) (hi : X.N[i]? = some x) (hx : Loc X.env.scope x) (he : YE X W Ξ e re) (hf : X.fn x = true ∨ X.env.scope.names.lookup x = some .local := by first | exact .inl rfl | exact .inr rfl | assumption) :
    YS X W Ξ (.AugAssign (.Name x pos') .Add e pos) (ysAug (fun a b => a + b) i re) := ys_aug i ip_add hN hi hx he hf
/-- e -/
def ysDrop (re : PTE) : PTS := fun Δ ε => re ε fun _ ε' => Δ.nx ε'
theorem ys_expr {re : PTE} (he : YE X W Ξ e re) (hs : swapsWith e none pos.line X.env = pure false := by rfl) : YS X W Ξ (.Expr e pos) (ysDrop re) := by
  obtain ⟨t, p, k⟩ := he.ex
  exact ⟨_, ps_expr p hs, fun F Hs σ H ε Δ Dd R L q kk => k F Hs σ H ε _ _ R L q fun v H1 Hs1 t1 ε1 e1 R1 p1 q1 => kk.nx σ H1 Hs1 ε1 e1 R1 q1⟩
def ysRet (re : PTE) : PTS := fun Δ ε => re ε fun t ε' => out ε' t fun d ε2 => Δ.rt d ε2
theorem ys_ret {re : PTE} (he : YE X W Ξ e re) : YS X W Ξ (.Return (some e) pos) (ysRet re) := by
  obtain ⟨t, p, k⟩ := he.ex
  refine ⟨_, ps_ret p, fun F Hs σ H ε Δ Dd R L q kk => k F Hs σ H ε _ _ R L q fun v H1 Hs1 t1 ε1 e1 R1 p1 q1 => ?_⟩
  obtain ⟨d, ε2, Hs2, e2, R2, rv, q2⟩ := R1.out p1 q1
  exact kk.rt v σ H1 Hs2 d ε2 (e1.trans e2) R2 rv q2
def ysIf (rt : PTT) (r u : PTS) : PTS := fun Δ ε => rt ε fun k ε' => match k with
  | true => r Δ ε'
  | false => u Δ ε'
theorem ys_if {c : Expr} {a b : List Stmt} {rt : PTT} (hc : YT X W Ξ c rt) (ha : YSs X W Ξ a r) (hb : YSs X W Ξ b u) : YS X W Ξ (.If c a b pos) (ysIf rt r u) := by
  obtain ⟨t, p, k⟩ := hc.ex
  obtain ⟨t1, p1, k1⟩ := ha.ex
  obtain ⟨t2, p2, k2⟩ := hb.ex
  refine ⟨_, ps_if p p1 p2, fun F Hs σ H ε Δ Dd R L q kk => k F Hs σ H ε _ _ R L q fun b H1 Hs1 ε1 e1 R1 q1 => ?_⟩
  cases b with
  | true =>
    show (if true = true then _ else _)
    rw [if_pos rfl]
    exact k1 F Hs1 σ H1 ε1 Δ Dd R1 (L.mono e1) q1 (kk.mono e1)
  | false =>
    show (if false = true then _ else _)
    rw [if_neg Bool.false_ne_true]
    exact k2 F Hs1 σ H1 ε1 Δ Dd R1 (L.mono e1) q1 (kk.mono e1)
/-- while, by an invariant and a measure -/
def ysWhile (rt : PTT) (rb : PTS) : PTS := fun Δ ε => ∃ Wp : Nat → PEnv → Prop, (∃ m, Wp m ε) ∧ ∀ m ε, Wp m ε → rt ε fun k ε' => match k with
  | true => rb { Δ with nx := fun ε2 => ∃ m', m' < m ∧ Wp m' ε2, ct := fun ε2 => ∃ m', m' < m ∧ Wp m' ε2, bk := Δ.nx } ε'
  | false => Δ.nx ε'
theorem ys_while {c : Expr} {body : List Stmt} {rt : PTT} {rb : PTS} (hp : PassesOwn (model X.prog X.w) X.A X.env X.xe) (hc : YT X W Ξ c rt) (hb : YSs X W Ξ body rb) : YS X W Ξ (.While c body [] pos) (ysWhile rt rb) := by
  obtain ⟨t, p, k⟩ := hc.ex
  obtain ⟨t1, p1, k1⟩ := hb.ex
  refine ⟨_, ps_while hp p p1, fun F Hs σ H ε Δ Dd R L q kk => ?_⟩
  obtain ⟨Wp, ⟨m0, w0⟩, turn⟩ := q
  refine ⟨fun m σ H => ∃ Hc ε, Ex Hs Hc ∧ RelS X.K F Hc σ H ε ∧ Wp m ε, ⟨m0, Hs, ε, Evl.Ex.refl _, R, w0⟩, ?_⟩
  rintro m σ1 H1 ⟨Hc, ε1, ec, R1, w1⟩
  refine k F Hc σ1 H1 ε1 _ _ R1 (L.mono ec) (turn m ε1 w1) fun b H2 Hs2 ε2 e2 R2 q2 => ?_
  cases b with
  | true =>
    show (if true = true then _ else _)
    rw [if_pos rfl]
    refine ⟨fun σ' H' => ∃ m', m' < m ∧ ∃ Hc ε, Ex Hs Hc ∧ RelS X.K F Hc σ' H' ε ∧ Wp m' ε, fun σ' H' ⟨m', hm, z⟩ => ⟨m', hm, z⟩, ?_⟩
    have again : ∀ (σ' : St) (H' Hs' : Hp) (ε' : PEnv), Ex Hs2 Hs' → RelS X.K F Hs' σ' H' ε' → (∃ m', m' < m ∧ Wp m' ε') → ∃ m', m' < m ∧ ∃ Hc ε, Ex Hs Hc ∧ RelS X.K F Hc σ' H' ε ∧ Wp m' ε :=
      fun σ' H' Hs' ε' e' R' ⟨m', hm, w'⟩ => ⟨m', hm, Hs', ε', (ec.trans e2).trans e', R', w'⟩
    exact k1 F Hs2 σ1 H2 ε2 _ _ R2 (L.mono (ec.trans e2)) q2 ⟨again, fun v σ' H' Hs' d ε' e' => kk.rt v σ' H' Hs' d ε' ((ec.trans e2).trans e'), fun σ' H' Hs' ε' e' => kk.nx σ' H' Hs' ε' ((ec.trans e2).trans e'), again⟩
  | false =>
    show (if false = true then _ else _)
    rw [if_neg Bool.false_ne_true]
    exact kk.nx σ1 H2 Hs2 ε2 (ec.trans e2) R2 q2
/-- for, by an invariant over the turn -/
def ysFor (ri : PTN) (g : PTG) (rb : PTS) : PTS := fun Δ ε => ri ε fun ds ε1 => ∃ Wp : Nat → PEnv → Prop, Wp 0 ε1 ∧
  (∀ i d ε, i < ds.length → ds[i]? = some d → Wp i ε → g d ε fun ε2 => rb { Δ with nx := Wp (i + 1), ct := Wp (i + 1), bk := Δ.nx } ε2) ∧ ∀ ε, Wp ds.length ε → Δ.nx ε
theorem ys_for {tg iter : Expr} {body : List Stmt} {ri : PTN} {g : PTG} {rb : PTS} {sl : List Nat} (hp : PassesOwn (model X.prog X.w) X.A X.env X.xe) (hc : X.calm = true) (hi : YI X W Ξ tg iter ri) (hg : YG X tg g sl) (hb : YSs X W Ξ body rb)
    (hs : ∀ x, foldedSetIterable iter X.env x = pure x := by intro _; rfl) : YS X W Ξ (.For tg iter body [] pos) (ysFor ri g rb) := by
  obtain ⟨wi, pi, ki⟩ := hi.ex
  obtain ⟨tg', pg, kg⟩ := hg.ex
  obtain ⟨t1, p1, k1⟩ := hb.ex
  refine ⟨_, ps_for hp hc pi pg p1 hs, fun F Hs σ H ε Δ Dd R L q kk => ?_⟩
  refine ki F Hs σ H ε _ _ R L q fun J H1 Hs1 ds ε1 e1 R1 sq ⟨Wp, w0, turn, done⟩ => ?_
  refine ⟨fun i m σ H => m = ds.length - i ∧ i ≤ ds.length ∧ ∃ Hc ε, Ex Hs1 Hc ∧ RelS X.K F Hc σ H ε ∧ Wp i ε, ⟨ds.length, by simp, Nat.zero_le _, Hs1, ε1, Evl.Ex.refl _, R1, w0⟩, ?_⟩
  rintro i m σ2 H2 ⟨rfl, hil, Hc, ε2, ec, R2, w2⟩
  by_cases hlt : i < ds.length
  · refine .inr ⟨sq.go i H2 (ec.trans R2.ex) hlt, fun σ' H' => ∃ Hc ε, Ex Hs1 Hc ∧ RelS X.K F Hc σ' H' ε ∧ Wp (i + 1) ε, fun σ' H' n' => ⟨ds.length - (i + 1), by omega, rfl, hlt, n'⟩, fun x H3 y => ?_⟩
    obtain ⟨Hc3, d, e3, R3, hd, rx⟩ := sq.yld i F Hc σ2 H2 ε2 x H3 ec R2 hlt y
    refine kg F Hc3 σ2 H3 ε2 x d _ _ R3 rx (turn i d ε2 hlt hd w2) fun σ4 H4 Hc4 ε4 e4 _ R4 q4 => ?_
    have ex4 : Ex Hs1 Hc4 := (ec.trans e3).trans e4
    have again : ∀ (σ' : St) (H' Hs' : Hp) (ε' : PEnv), Ex Hc4 Hs' → RelS X.K F Hs' σ' H' ε' → Wp (i + 1) ε' → ∃ Hc ε, Ex Hs1 Hc ∧ RelS X.K F Hc σ' H' ε ∧ Wp (i + 1) ε := fun σ' H' Hs' ε' e' R' w' => ⟨Hs', ε', ex4.trans e', R', w'⟩
    exact k1 F Hc4 σ4 H4 ε4 _ _ R4 (L.mono (e1.trans ex4)) q4 ⟨again, fun v σ' H' Hs' d ε' e' => kk.rt v σ' H' Hs' d ε' ((e1.trans ex4).trans e'), fun σ' H' Hs' ε' e' => kk.nx σ' H' Hs' ε' ((e1.trans ex4).trans e'), again⟩
  · have ei : i = ds.length := by omega
    subst ei
    exact .inl ⟨sq.stop _ H2 (ec.trans R2.ex) (Nat.le_refl _), kk.nx σ2 H2 Hc ε2 (e1.trans ec) R2 (done ε2 w2)⟩

/-! ### a name's own list: append, extend, pop, an item stored -/
def ysApp (i : Nat) (re : PTE) : PTS := fun Δ ε => match ε[i]? with
  | some (some (.o _)) => re ε fun t ε' => out ε' t fun d ε2 => match ε2[i]? with
    | some (some (.o ds)) => gd (ds.length < 16777216) (Δ.nx (ε2.set i (some (.o (ds ++ [d])))))
    | _ => False
  | _ => False
theorem ys_app (i : Nat) {x : Str} {px pa pc : Pos} {re : PTE} (hN : X.N[i]? = some x) (hv : Vis X.env.scope x) (he : YE X W Ξ e re) (hd : (x == ("__debug__" : Str)) = false := by decide) (hcd : (x == ("__classdict__" : Str)) = false := by decide)
    (hbase : attributeBase (.Name x px) "append" X.env (eval (.Name x px) X.env) = eval (.Name x px) X.env := by rfl)
    (hfew : ((backTo pc (starEach (e :: []) X.env)).all (fun x => !x.1) && (backToKw pc (keywordEach [] X.env)).all (fun x => x.1.isSome)
      && decide ((e :: []).length + ([] : List Keyword).length + (if ([] : List Keyword).isEmpty then 0 else 1) < 30)) = true := by rfl)
    (hline : (pa.endLine == pc.line) = true := by rfl) (hs : starEach (e :: []) X.env = (false, eval e X.env) :: starEach [] X.env := by rfl) (hplain : (backTo pc (starEach [] X.env)).any (·.1) = false := by rfl)
    (hsw : swapsWith (.Call (.Attribute (.Name x px) "append" pa) [e] [] pc) none pos.line X.env = pure false := by rfl) :
    YS X W Ξ (.Expr (.Call (.Attribute (.Name x px) "append" pa) [e] [] pc) pos) (ysApp i re) := by
  obtain ⟨t, p, k⟩ := he.ex
  refine ⟨_, ps_expr (pe_bm PySem.F.plainAttrs_list PySem.F.slot_list_append PySem.F.type_list_append mt_append (pe_var hN hv hd hcd) (pa_cons p pa_nil hs) hbase hfew hline hs hplain) hsw, fun F Hs σ H ε Δ Dd R L q kk => ?_⟩
  unfold ysApp at q
  split at q
  · rename_i ds0 e0
    obtain ⟨p0, vs0, h1, h2, h3, h4, h5⟩ := R.sl i _ e0
    refine ⟨_, h1, .inl ⟨rfl, _, SqL.of h4⟩, ?_⟩
    refine k F Hs σ H ε _ _ R L q fun v H1 Hs1 t1 ε1 e1 R1 p1 q1 => ?_
    obtain ⟨d, ε2, Hs2, e2, R2, rv, q2⟩ := R1.out p1 q1
    split at q2
    · rename_i ds ei
      obtain ⟨p3, vs, g1, g2, g3, g4, g5⟩ := R2.sl i _ ei
      rw [h1] at g1
      cases g1
      have q2 := gd_elim q2
      refine ⟨_, vs, v, rfl, rfl, g4, by rw [g5.len]; exact line_lt q2.1, ?_⟩
      refine kk.nx σ _ Hs2 _ (e1.trans e2) (R2.change (s' := .o (ds ++ [d])) ei rfl rfl h1 g2 g3 ⟨_, _, h1, g2, g3, upd_same, g5.append (.cons rv .nil)⟩) q2.2
    · exact q2.elim
  · exact q.elim
def ysExt (i : Nat) (re : PTE) : PTS := fun Δ ε => match ε[i]? with
  | some (some (.o _)) => re ε fun t ε' => out ε' t fun d ε2 => match d, ε2[i]? with
    | .lst es, some (some (.o ds)) => gd (ds.length + es.length ≤ 16777216) (Δ.nx (ε2.set i (some (.o (ds ++ es)))))
    | _, _ => False
  | _ => False
theorem ys_ext (i : Nat) {x : Str} {px pa pc : Pos} {re : PTE} (hN : X.N[i]? = some x) (hv : Vis X.env.scope x) (he : YE X W Ξ e re) (hd : (x == ("__debug__" : Str)) = false := by decide) (hcd : (x == ("__classdict__" : Str)) = false := by decide)
    (hbase : attributeBase (.Name x px) "extend" X.env (eval (.Name x px) X.env) = eval (.Name x px) X.env := by rfl)
    (hfew : ((backTo pc (starEach (e :: []) X.env)).all (fun x => !x.1) && (backToKw pc (keywordEach [] X.env)).all (fun x => x.1.isSome)
      && decide ((e :: []).length + ([] : List Keyword).length + (if ([] : List Keyword).isEmpty then 0 else 1) < 30)) = true := by rfl)
    (hline : (pa.endLine == pc.line) = true := by rfl) (hs : starEach (e :: []) X.env = (false, eval e X.env) :: starEach [] X.env := by rfl) (hplain : (backTo pc (starEach [] X.env)).any (·.1) = false := by rfl)
    (hsw : swapsWith (.Call (.Attribute (.Name x px) "extend" pa) [e] [] pc) none pos.line X.env = pure false := by rfl) :
    YS X W Ξ (.Expr (.Call (.Attribute (.Name x px) "extend" pa) [e] [] pc) pos) (ysExt i re) := by
  obtain ⟨t, p, k⟩ := he.ex
  refine ⟨_, ps_expr (pe_bm PySem.F.plainAttrs_list PySem.F.slot_list_extend PySem.F.type_list_extend mt_extend (pe_var hN hv hd hcd) (pa_cons p pa_nil hs) hbase hfew hline hs hplain) hsw, fun F Hs σ H ε Δ Dd R L q kk => ?_⟩
  unfold ysExt at q
  split at q
  · rename_i ds0 e0
    obtain ⟨p0, vs0, h1, h2, h3, h4, h5⟩ := R.sl i _ e0
    refine ⟨_, h1, .inl ⟨rfl, _, SqL.of h4⟩, ?_⟩
    refine k F Hs σ H ε _ _ R L q fun v H1 Hs1 t1 ε1 e1 R1 p1 q1 => ?_
    obtain ⟨d, ε2, Hs2, e2, R2, rv, q2⟩ := R1.out p1 q1
    split at q2
    · rename_i es ds ei
      obtain ⟨p3, vs, g1, g2, g3, g4, g5⟩ := R2.sl i _ ei
      rw [h1] at g1
      cases g1
      have q2 := gd_elim q2
      cases rv with
      | lst hb rb =>
        refine ⟨_, _, vs, _, rfl, rfl, g4, R2.ex _ _ hb, by rw [g5.len, rb.len]; exact line_le q2.1, ?_⟩
        exact kk.nx σ _ Hs2 _ (e1.trans e2) (R2.change (s' := .o (ds ++ es)) ei rfl rfl h1 g2 g3 ⟨_, _, h1, g2, g3, upd_same, g5.append rb⟩) q2.2
    · exact q2.elim
  · exact q.elim
def unsnoc : List D → Option (List D × D)
  | [] => none
  | [d] => some ([], d)
  | d :: e :: ds => match unsnoc (e :: ds) with
    | some (es, x) => some (d :: es, x)
    | none => none
theorem unsnoc_snoc : ∀ (es : List D) (d : D), unsnoc (es ++ [d]) = some (es, d)
  | [], d => rfl
  | [e], d => rfl
  | e :: e2 :: es, d => by
    show (match unsnoc ((e2 :: es) ++ [d]) with
      | some (es, x) => some (e :: es, x)
      | none => none) = some (e :: e2 :: es, d)
    rw [unsnoc_snoc (e2 :: es) d]
theorem unsnoc_elim : ∀ {ds es : List D} {d : D}, unsnoc ds = some (es, d) → ds = es ++ [d]
  | [], _, _, h => by cases h
  | [x], _, _, h => by cases h; rfl
  | x :: y :: ds, es, d, h => by
    have h2 : (match unsnoc (y :: ds) with
      | some (es, z) => some (x :: es, z)
      | none => none) = some (es, d) := h
    split at h2
    · rename_i e
      cases h2
      rw [unsnoc_elim e] <;> rfl
    · cases h2
def yPop (i : Nat) : PTE := fun ε Q => match ε[i]? with
  | some (some (.o ds)) => opt (unsnoc ds) fun p => Q (.d p.2) (ε.set i (some (.o p.1)))
  | _ => False
theorem Reps.last {K : PySem.W.Frag} {H : Hp} {vs : List V} {es : List D} {d : D} (r : Reps K H vs (es ++ [d])) : ∃ v, vs[vs.length - 1]? = some v ∧ Rep K H v d ∧ Reps K H vs.dropLast es := by
  have hl := r.len
  rw [List.length_append] at hl
  have h1 : (es ++ [d])[vs.length - 1]? = some d := by
    have e : vs.length - 1 = es.length := by
      have : ([d] : List D).length = 1 := rfl
      omega
    rw [e]
    simp
  obtain ⟨v, h2, h3⟩ := r.get h1
  refine ⟨v, h2, h3, ?_⟩
  rw [List.dropLast_eq_take]
  have h4 := r.take (vs.length - 1)
  have e : (es ++ [d]).take (vs.length - 1) = es := by
    have e : vs.length - 1 = es.length := by
      have : ([d] : List D).length = 1 := rfl
      omega
    rw [e]
    simp
  rw [e] at h4
  exact h4
theorem ye_pop (i : Nat) {x : Str} {px pa pc : Pos} (hN : X.N[i]? = some x) (hv : Vis X.env.scope x) (hd : (x == ("__debug__" : Str)) = false := by decide) (hcd : (x == ("__classdict__" : Str)) = false := by decide)
    (hbase : attributeBase (.Name x px) "pop" X.env (eval (.Name x px) X.env) = eval (.Name x px) X.env := by rfl) (hline : (pa.endLine == pc.line) = true := by rfl) :
    YE X W Ξ (.Call (.Attribute (.Name x px) "pop" pa) [] [] pc) (yPop i) := by
  refine ⟨_, pe_bm0 PySem.F.plainAttrs_list PySem.F.slot_list_pop PySem.F.type_list_pop mt_pop (pe_var hN hv hd hcd) hbase hline, fun F Hs σ H ε Q' Q R L q k => ?_⟩
  unfold yPop at q
  split at q
  · rename_i ds e0
    obtain ⟨⟨es, d⟩, eu, q2⟩ := opt_elim q
    have eu := unsnoc_elim eu
    subst eu
    obtain ⟨p0, vs, h1, h2, h3, h4, h5⟩ := R.sl i _ e0
    obtain ⟨v, l1, l2, l3⟩ := h5.last
    refine ⟨_, h1, .inl ⟨rfl, _, SqL.of h4⟩, _, vs, v, rfl, rfl, h4, l1, ?_⟩
    exact k v _ Hs (.d d) _ (Evl.Ex.refl _) (R.change (s' := .o es) e0 rfl rfl h1 h2 h3 ⟨_, _, h1, h2, h3, upd_same, l3⟩) l2 q2
  · exact q.elim
def ysSetIx (i : Nat) (rj re : PTE) : PTS := fun Δ ε => re ε fun t ε1 => out ε1 t fun d ε2 => (match ε2[i]? with
  | some (some (.o _)) => rj ε2 fun t2 ε3 => res ε3 t2 (asI fun j => match ε3[i]? with
    | some (some (.o ds)) => opt (ixN ds.length j) fun n => Δ.nx (ε3.set i (some (.o (ds.set n d))))
    | _ => False)
  | _ => False)
theorem ys_setIx (i : Nat) {x : Str} {px ps : Pos} {j : Expr} {rj re : PTE} (hN : X.N[i]? = some x) (hv : Vis X.env.scope x) (hj : YE X W Ξ j rj) (he : YE X W Ξ e re) (hd : (x == ("__debug__" : Str)) = false := by decide) (hcd : (x == ("__classdict__" : Str)) = false := by decide)
    (ha : ∀ v, assign (.Subscript (.Name x px) j ps) X.env v = (do
      let ov ← holding [v] (eval (.Name x px) X.env)
      let iv ← holding [v, ov] (eval j X.env)
      standAt ps
      holding [v, ov, iv] (setItem ov iv v)
      release [v, ov, iv] []) := by intro _; rfl) (hs : swapsWithSole [.Subscript (.Name x px) j ps] e pos.line X.env = pure false := by rfl) (hw : swappedStores [.Subscript (.Name x px) j ps] e X.env = pure none := by rfl)
    (h1 : (assignEach [.Subscript (.Name x px) j ps] X.env).map (·.2) = [assign (.Subscript (.Name x px) j ps) X.env] := by rfl) :
    YS X W Ξ (.Assign [.Subscript (.Name x px) j ps] e pos) (ysSetIx i rj re) := by
  obtain ⟨t, p, k⟩ := he.ex
  obtain ⟨t2, p2, k2⟩ := hj.ex
  refine ⟨_, ps_asg p (pg_sub (pe_var hN hv hd hcd) p2 set_list ha) hs hw h1, fun F Hs σ H ε Δ Dd R L q kk => ?_⟩
  refine k F Hs σ H ε _ _ R L q fun v H1 Hs1 t1 ε1 e1 R1 p1 q1 => ?_
  obtain ⟨d, ε2, Hs2, e2, R2, rv, q2⟩ := R1.out p1 q1
  split at q2
  · rename_i ds0 e0
    obtain ⟨p0, vs0, g1, _⟩ := R2.sl i _ e0
    refine ⟨_, g1, ?_⟩
    refine k2 F Hs2 σ H1 ε2 _ _ R2 (L.mono (e1.trans e2)) q2 fun w H3 Hs3 t3 ε3 e3 R3 p3 q3 => ?_
    obtain ⟨dj, rj, q4⟩ := R3.res p3 q3
    cases dj with
    | int jj =>
      have q4 : (match ε3[i]? with
        | some (some (.o ds)) => opt (ixN ds.length jj) fun n => Δ.nx (ε3.set i (some (.o (ds.set n d))))
        | _ => False) := q4
      split at q4
      · rename_i ds ei
        obtain ⟨n, hn, q5⟩ := opt_elim q4
        obtain ⟨p3, vs, f1, f2, f3, f4, f5⟩ := R3.sl i _ ei
        rw [g1] at f1
        cases f1
        refine ⟨_, vs, jj, n, rfl, rj.int', f4, by rw [f5.len]; exact hn, ?_⟩
        exact kk.nx σ _ Hs3 _ ((e1.trans e2).trans e3) (R3.change (s' := .o (ds.set n d)) ei rfl rfl g1 f2 f3 ⟨_, _, g1, f2, f3, upd_same, f5.set (rv.mono e3) n⟩) q5
      · exact q4.elim
    | _ => exact False.elim q4
  · exact q2.elim

/-! ### raise -/
def ysRaise (c : Nat) (Ξ : Xi) : PTS := fun _ ε => Ξ c ε
theorem pmk_own0 {C : Addr} {bmB : List Value} {B newId initId : String} {x : Str} {p : Pos} (F : ExcBaseFacts B newId initId bmB) (q : PySem.W.excIn X.K C bmB newId = true) (gC : X.mg x = some (.ref C))
    (kC : PySem.W.keepIn X.K (.ref C) = true) (r : Raises X (.ref C)) (hg : Gl X x) (hdb : (x == ("__debug__" : Str)) = false := by decide) : PMk X (.Call (.Name x p) [] [] pos) (fun _ H Q => Q (.ref C) none H) := by
  intro pins s σ H Q I h
  refine wpAny_Call_Name_kw (ld_glob I hg gC ?_ hdb)
  refine PySem.W.callWith_K0 I.kIn kC ?_
  obtain ⟨bm, N, nm, qn, bs, hdct, sn, sub, ab, col, dd, k0, k1, k2, k3, k5, mN, hC, hN, hni, T⟩ := exc_obj I.kIn q
  refine wpAny_call_exc_subT F T hC hN hni (fun h' e hm => ?_) (by decide)
  exact mk_of I hm r h (I.hok.gone hm.new)
theorem ys_raise (c : Nat) {bmB : List Value} {B newId initId : String} {p p2 : Pos} (hc : X.calm = true) (tk : Takes X W) (F : ExcBaseFacts B newId initId bmB) (q : PySem.W.excIn X.K (exA X.K c) bmB newId = true) (gC : X.mg (exS c) = some (.ref (exA X.K c)))
    (kC : PySem.W.keepIn X.K (.ref (exA X.K c)) = true) (r : Raises X (.ref (exA X.K c))) {x : Str} (hx : exS c = x := by rfl) (hg : Gl X x) (hdb : (x == ("__debug__" : Str)) = false := by decide) : YS X W Ξ (.Raise (some (.Call (.Name x p) [] [] p2)) none pos) (ysRaise c Ξ) := by
  subst hx
  exact
  ⟨_, ps_raise hc tk (pmk_own0 F q gC kC r hg hdb), fun F Hs σ H ε Δ Dd R L q k => L c σ H Hs ε q (Evl.Ex.refl _) R⟩
end

/-! ### a def -/
def startE (N : List Str) (ds : List D) : PEnv := ds.map (fun d => some (.v d)) ++ List.replicate (N.length - ds.length) none
def foreign (Hs H : Hp) : Hp := fun p => match Hs p with
  | none => H p
  | some _ => none
theorem foreign_some {Hs H : Hp} {p : Addr} {o : HO} (h : foreign Hs H p = some o) : H p = some o ∧ Hs p = none := by
  unfold foreign at h
  cases e : Hs p with
  | none => rw [e] at h; exact ⟨h, rfl⟩
  | some u => rw [e] at h; cases h
theorem foreign_of {Hs H : Hp} {p : Addr} {o : HO} (h : H p = some o) (hn : Hs p = none) : foreign Hs H p = some o := by
  unfold foreign
  rw [hn]
  exact h
theorem RelS.keeps {K : PySem.W.Frag} {Hs H Hs' H' : Hp} {σ' : St} {ε' : PEnv} (R : RelS K (foreign Hs H) Hs' σ' H' ε') (e : Ex Hs Hs') : Keeps Hs H Hs' H' := ⟨e, R.ex, fun p o h hn => R.fr p o (foreign_of h hn)⟩
theorem start_get {N : List Str} {ds : List D} {i : Nat} {s : S} (h : (startE N ds)[i]? = some (some s)) : ∃ d, ds[i]? = some d ∧ s = .v d := by
  unfold startE at h
  by_cases hi : i < ds.length
  · rw [List.getElem?_append_left (by rw [List.length_map]; exact hi), List.getElem?_map] at h
    cases e : ds[i]? with
    | none => rw [e] at h; cases h
    | some d =>
      rw [e] at h
      refine ⟨d, rfl, ?_⟩
      exact (Option.some.inj (Option.some.inj h)).symm
  · rw [List.getElem?_append_right (by rw [List.length_map]; omega), List.getElem?_replicate] at h
    split at h <;> cases h
theorem start_at {N : List Str} {vs : List V} {i : Nat} {v : V} (h : vs[i]? = some v) : (L2.start N vs)[i]? = some (some v) := by
  unfold L2.start
  have hi : i < vs.length := (List.getElem?_eq_some_iff.mp h).1
  rw [List.getElem?_append_left (by rw [List.length_map]; exact hi), List.getElem?_map, h] <;> rfl
theorem rel_start {K : PySem.W.Frag} {Hs H : Hp} {N : List Str} {vs : List V} {ds : List D} (e : Ex Hs H) (r : Reps K Hs vs ds) : RelS K (foreign Hs H) Hs (L2.start N vs) H (startE N ds) := by
  refine ⟨e, fun p o h => foreign_some h, ?_, fun i s h => ?_, fun i j s t hn h1 h2 h3 h4 => ?_⟩
  · unfold L2.start startE
    rw [List.length_append, List.length_append, List.length_map, List.length_map, List.length_replicate, List.length_replicate, r.len]
  · obtain ⟨d, hd, rfl⟩ := start_get h
    obtain ⟨v, hv, rv⟩ := r.get hd
    exact ⟨v, start_at hv, rv⟩
  · obtain ⟨d, hd, rfl⟩ := start_get h1
    cases h3
section
variable {P : Program} {w : World} {K : PySem.W.Frag} {mg : Str → Option Value} {base : Heap} {x qual : Str} {params : Arguments} {body : List Stmt} {scope : Scope} {dvs : List V} {kws : List (Str × V)} {f : Addr} {fd : FuncData} {N ps : List Str} {k : Nat} {φ : Spec}
abbrev cxY (P : Program) (w : World) (K : PySem.W.Frag) (mg : Str → Option Value) (base : Heap) (N : List Str) (qual : Str) (scope : Scope) (f : Addr) (cdv : Value) (A : Around) (outer : List Env) (s : Shared) (H : Hp) (E : XK) : Cx := cxOf (L2.CX P w) P w K mg base N qual scope f cdv A outer s H E
abbrev wY (E : XK) : WX := fun cls d _ H => E cls d H
theorem fun_ok (F : FunD K x qual params body scope dvs kws f fd) (S : FnScope N ps scope) (len : ∀ ds Q E, φ ds Q E → ds.length = ps.length) (r : Xi → PTS)
    (hbody : ∀ (cdv : Value) (A : Around) (outer : List Env) (s : Shared) (H : Hp) (E : XK) (Ξ : Xi), Room k (A.deeper (envOfC qual scope s.heap.objs.size f cdv)) → YSs (cxY P w K mg base N qual scope f cdv A outer s H E) (wY E) Ξ body (r Ξ))
    (vc : ∀ (ds : List D) (Q' : D → Prop) (E' : Nat → Prop), φ ds Q' E' → r (fun c _ => E' c) { nx := fun _ => Q' .non, rt := fun d _ => Q' d } (startE N ds)) : FnOk P w K mg base (L2.CX P w) (k + 1) f fd ps (pSp K φ) := by
  refine F.ok S (fun vs H Q E h => ?_) (fun cdv A outer s H vs Q E hr h => ?_)
  · obtain ⟨Hs, ds, Q', E', _, rs, h, _⟩ := h
    rw [rs.len]
    exact len ds Q' E' h
  · obtain ⟨Hs, ds, Q', E', ex, rs, h, hq, he⟩ := h
    obtain ⟨t, p, kk⟩ := (hbody cdv A outer s H E (fun c _ => E' c) hr).ex
    refine ⟨t, p, kk (foreign Hs H) Hs _ H _ _ _ (rel_start ex rs) (fun c σ' H' Hs' ε' hc e' R' => he c hc H' Hs' (R'.keeps e')) (vc ds Q' E' h) ⟨fun σ' H' Hs' ε' e' R' q' => ?_, fun v σ' H' Hs' d ε' e' R' rv q' => ?_, fun _ _ _ _ _ _ q => q.elim, fun _ _ _ _ _ _ q => q.elim⟩⟩
    · exact hq .non q' .non H' Hs' (R'.keeps e') .non
    · exact hq d q' v H' Hs' (R'.keeps e') rv
end
end PL

set_option Elab.async false
set_option linter.all false
set_option autoImplicit false
set_option maxRecDepth 100000
set_option maxHeartbeats 2000000
/-! try, a pair stored, the pool opened in a def, the law's end. -/
namespace PL
open PySem PySem.Spec PyProof.Rows L2
open Evl (Ex)

/-! ### try: .. except PageError as e: .. -/
/-- is class c one that an except clause of class t takes (0: the base of all) -/
def exSub (c t : Nat) : Bool := c == t || t == 0
/-- what the written part says of the classes in cs -/
structure ExK (K : PySem.W.Frag) (cs : List Nat) : Prop where
  exm : ∀ c ∈ cs, PySem.W.exmOne K (.ref (exA K c)) (.ref (exA K 0)) = some true
  kit : ∀ c ∈ cs, ∀ t ∈ cs, PySem.W.kitOne K (.ref (exA K c)) (.ref (exA K t)) = some (exSub c t)
  exc : ∀ c ∈ cs, ExcC K (exA K c)
section
variable {X : Cx} {W : WX} {Ξ : Xi}
/-- the suite sees the error's class as a datum -/
def excD (a : Addr) : D := .vl (.ref a)
def ysTry (cs : List Nat) (i : Nat) (rb : Xi → PTS) (rs : Addr → Nat → PTS) : PTS := fun Δ ε =>
  rb (fun c ε' => c ∈ cs ∧ ∀ a : Addr, rs a c { nx := fun ε2 => Δ.nx (ε2.set i none), rt := fun d ε2 => Δ.rt d (ε2.set i none), bk := fun ε2 => Δ.bk (ε2.set i none), ct := fun ε2 => Δ.ct (ε2.set i none) } (ε'.set i (some (.v (excD a))))) Δ ε
theorem RelS.drop {K : PySem.W.Frag} {F Hs H : Hp} {σ : St} {ε : PEnv} (R : RelS K F Hs σ H ε) (i : Nat) : RelS K F Hs (σ.set i none) H (ε.set i none) := by
  refine ⟨R.ex, R.fr, by rw [List.length_set, List.length_set]; exact R.len, fun j t q => ?_, fun j k t u hn h1 h2 h3 h4 => ?_⟩
  · have hj : i ≠ j := by
      rintro rfl
      by_cases hi : i < ε.length
      · rw [List.getElem?_set_self hi] at q; cases q
      · rw [List.getElem?_eq_none (by rw [List.length_set]; omega)] at q; cases q
    rw [List.getElem?_set_ne hj] at q
    exact (R.sl j t q).at (List.getElem?_set_ne hj)
  · have ne : ∀ (j : Nat) (t : S), (ε.set i none)[j]? = some (some t) → i ≠ j := by
      rintro j t q rfl
      by_cases hi : i < ε.length
      · rw [List.getElem?_set_self hi] at q; cases q
      · rw [List.getElem?_eq_none (by rw [List.length_set]; omega)] at q; cases q
    have nj := ne j t h1
    have nk := ne k u h2
    rw [List.getElem?_set_ne nj] at h1 ⊢
    rw [List.getElem?_set_ne nk] at h2 ⊢
    exact R.ds j k t u hn h1 h2 h3 h4
theorem ys_try {cs : List Nat} (i : Nat) {n x : Str} {body suite : List Stmt} {b₀ : Stmt} {np pos pos' : Pos} {rb : Xi → PTS} {rs : Addr → Nat → PTS} (xk : ExK X.K cs) (hs : X.stack = X.env :: X.outer) (hf : X.env.frame = some X.env.locals) (hN : X.N.Nodup) (hi : X.N[i]? = some n)
    (hln : X.env.kindOf n = some .local) (hx : exS 0 = x) (hc : Names X x (.ref (exA X.K 0))) (tk : Takes X W)
    (hb : ∀ (W : WX) (Ξ : Xi) (pn : List (Addr × Obj)) (xe : Value → Shared → Prop), Takes (X.tr pn xe) W → PassesOwn (model X.prog X.w) X.A X.env xe → YSs (X.tr pn xe) W Ξ body (rb Ξ))
    (hsu : ∀ (c : Nat) (a : Addr) (oe : Obj) (pn : List (Addr × Obj)), c ∈ cs → ExcC X.K (exA X.K c) → Zc (.ref (exA X.K c)) none oe → (∃ vs, oe.data = .fields vs) → YSs (X.suite a ((a, oe) :: pn)) W0 Ξ0 (b₀ :: suite) (rs a c)) :
    YS X W Ξ (.Try body [.ExceptHandler (some (.Name x np)) (some n) (b₀ :: suite) pos'] [] [] pos) (ysTry cs i rb rs) := by
  subst hx
  let ts : Addr → Value → Option Addr → TS := fun a cls d Dd σ H => ∃ c, c ∈ cs ∧ cls = .ref (exA X.K c) ∧ d = none ∧ cSs X.K W0 Ξ0 (rs a c) Dd σ H
  have hsu' : ∀ (a : Addr) (oe : Obj) (cls : Value) (d : Option Addr) (pn : List (Addr × Obj)), Zc cls d oe → (∃ vs, oe.data = .fields vs) → PSs (X.suite a ((a, oe) :: pn)) (b₀ :: suite) (ts a cls d) := by
    intro a oe cls d pn hz hfv
    refine ⟨fun pins s σ H Dd I ⟨c, hc1, e1, e2, q⟩ => ?_⟩
    subst e1 e2
    exact (hsu c a oe pn hc1 (xk.exc c hc1) hz hfv).canon.run pins s σ H Dd I q
  -- the body, for any wish
  let tb : WX → TS := fun Wb Dd σ H => ∃ (Ξb : Xi), cSs X.K Wb Ξb (rb Ξb) Dd σ H
  have hb' : ∀ (W : WX) (pn : List (Addr × Obj)) (xe : Value → Shared → Prop), Takes (X.tr pn xe) W → PassesOwn (model X.prog X.w) X.A X.env xe → PSs (X.tr pn xe) body (tb W) := by
    intro W pn xe tk po
    exact ⟨fun pins s σ H Dd I ⟨Ξb, q⟩ => (hb W Ξb pn xe tk po).canon.run pins s σ H Dd I q⟩
  refine ⟨_, ps_try_as (ts := ts) (tb := tb) hs hf hN hi hln hc tk hb' hsu', fun F Hs σ H ε Δ Dd R L q kk => ?_⟩
  refine ⟨_, F, Hs, ε, Δ, R, ?_, q, kk⟩
  intro c σ' H' Hs' ε' hq e' R'
  obtain ⟨hc1, hq⟩ := hq
  refine ⟨true, xk.exm c hc1, fun _ a na => ?_, fun h => Bool.noConfusion h⟩
  have R2 : RelS X.K F Hs' (σ'.set i (some (.ref a))) H' (ε'.set i (some (.v (excD a)))) := R'.store (.vl (.ref a)) i
  refine ⟨c, hc1, rfl, rfl, F, Hs', _, _, R2, Lk.none, hq a, ⟨fun σ3 H3 Hs3 ε3 e3 R3 q3 => ?_, fun v σ3 H3 Hs3 d ε3 e3 R3 rv q3 => ?_, fun σ3 H3 Hs3 ε3 e3 R3 q3 => ?_, fun σ3 H3 Hs3 ε3 e3 R3 q3 => ?_⟩⟩
  · exact kk.nx _ H3 Hs3 _ (e'.trans e3) (R3.drop i) q3
  · exact kk.rt v _ H3 Hs3 d _ (e'.trans e3) (R3.drop i) rv q3
  · exact kk.bk _ H3 Hs3 _ (e'.trans e3) (R3.drop i) q3
  · exact kk.ct _ H3 Hs3 _ (e'.trans e3) (R3.drop i) q3
/-- isinstance(e, C), e what the suite holds -/
def yIsE (i : Nat) (a : Addr) (c t : Nat) : PTE := fun ε Q => ε[i]? = some (some (.v (excD a))) ∧ Q (.d (.bl (exSub c t))) ε
theorem ye_isE {a : Addr} {oe : Obj} {pn : List (Addr × Obj)} {cs : List Nat} (c t i : Nat) {n x : Str} {p p1 p2 pos : Pos} (xk : ExK X.K cs) (hc1 : c ∈ cs) (ht1 : t ∈ cs) (hz : Zc (.ref (exA X.K c)) none oe) (hf : ∃ vs, oe.data = .fields vs) (hg : Gl X "isinstance") (hm : X.mg "isinstance" = none)
    (hN : X.N[i]? = some n) (hv : Vis X.env.scope n) (hx : exS t = x) (hgx : Gl X x) (hmx : X.mg x = some (.ref (exA X.K t))) (hd : (n == ("__debug__" : Str)) = false := by decide) (hcd : (n == ("__classdict__" : Str)) = false := by decide) (hdx : (x == ("__debug__" : Str)) = false := by decide)
    (hst : starEach [.Name n p1, .Name x p2] X.env = (false, eval (.Name n p1) X.env) :: starEach [.Name x p2] X.env := by rfl) (hs2 : starEach [.Name x p2] X.env = (false, eval (.Name x p2) X.env) :: starEach [] X.env := by rfl) (hpl : (backTo pos (starEach [.Name x p2] X.env)).any (·.1) = false := by rfl) :
    YE (X.suite a ((a, oe) :: pn)) W Ξ (.Call (.Name "isinstance" p) [.Name n p1, .Name x p2] [] pos) (yIsE i a c t) := by
  subst hx
  have C := xk.exc c hc1
  refine ⟨_, pe_callB (X := X.suite a ((a, oe) :: pn)) (call_isE (X := X) C hz hf) hg hm PyProof.Rows.boot_isinstance (pa_cons (X := X.suite a ((a, oe) :: pn)) (pe_var (X := X.suite a ((a, oe) :: pn)) hN hv hd hcd) (pa_cons (X := X.suite a ((a, oe) :: pn)) (pe_glob (X := X.suite a ((a, oe) :: pn)) (v := .ref (exA X.K t)) hgx hmx rfl hdx) pa_nil hs2) hst) (by decide) (by decide) hst hpl, fun F Hs σ H ε Q' Q R L q k => ?_⟩
  obtain ⟨e0, q⟩ := q
  obtain ⟨v, h1, h2⟩ := R.sl i _ e0
  cases h2
  refine ⟨_, h1, ?_⟩
  exact ⟨.ref (exA X.K t), .ref (exA X.K t), exSub c t, rfl, fun u r => r, xk.kit c hc1 t ht1, k (.bl _) H Hs (.d (.bl _)) ε (Evl.Ex.refl _) R (.bl _) q⟩
end
end PL

set_option Elab.async false
set_option linter.all false
set_option autoImplicit false
set_option maxRecDepth 100000
set_option maxHeartbeats 2000000
/-! The stream of numbers, made, drawn from; a pair stored; the law's end. -/
namespace PL
open PySem PySem.Spec PyProof.Rows L2
open Evl (Ex)

/-! ### one tracked object told otherwise -/
section
variable {P : Program} {w : World} {H : Hp} {h h' : Heap} {p : Addr} {o o' : HO}
theorem retell_ok (ok : HOk P w H h) (hp : H p = some o) (n1 : ∀ a, o ≠ .own a) (n2 : ∀ xs, o ≠ .tup xs) (new : ObjOk P w (upd H p o') h p o') : HOk P w (upd H p o') h := fun b u e => by
  by_cases hb : b = p
  · subst hb
    rw [upd_same] at e
    cases e
    exact new
  · rw [upd_ne hb] at e
    have ne1 : ∀ c a, H c = some (.own a) → c ≠ p := fun c a q z => by
      subst z
      rw [hp] at q
      exact n1 a (Option.some.inj q)
    have ne2 : ∀ c xs, H c = some (.tup xs) → c ≠ p := fun c xs q z => by
      subst z
      rw [hp] at q
      exact n2 xs (Option.some.inj q)
    exact (ok b u e).stay (fun c v _ q => q) (fun c q => by rw [upd_ne (ne1 c b q)]; exact q) fun c xs q => by rw [upd_ne (ne2 c xs q)]; exact q
end
theorem pool_obj {P : Program} {w : World} {H : Hp} {h : Heap} {p : Addr} {ns : List Int} (x : ObjOk P w H h p (.lst (ns.map V.int))) (ok : PoolOk ns) (H' : Hp) : ObjOk P w H' h p (.ext (PoolAt p)) := by
  obtain ⟨z, its, n, r, e⟩ := x
  refine ⟨⟨its, n, ns, e, r, ok⟩, ⟨_, e⟩, fun h1 h2 ⟨its, n, ns, e, r, ok⟩ k => ⟨its, n, ns, k _ e, r, ok⟩⟩
theorem obj_pool {P : Program} {w : World} {H : Hp} {h : Heap} {p : Addr} (x : ObjOk P w H h p (.ext (PoolAt p))) (H' : Hp) : ∃ ns, PoolOk ns ∧ ObjOk P w H' h p (.lst (ns.map V.int)) := by
  obtain ⟨⟨its, n, ns, e, r, ok⟩, _⟩ := x
  refine ⟨ns, ok, ?_, its, n, r, e⟩
  rw [List.length_map, sizeLine_eq]
  exact Nat.le_trans ok.2.1 (by decide)
/-! ### drawing -/
/-- a draw, with the list in sight -/
def spPick : Sp := fun vs H Q _ => ∃ (p : Addr) (n : Int) (ns : List Int), vs = [.ref p, .int n] ∧ H p = some (.lst (ns.map V.int)) ∧ PoolOk ns ∧ 0 < n ∧
  ∀ (r : Int) (ns' : List Int), 0 ≤ r → r < n → PoolOk ns' → Q (.int r) (upd H p (.lst (ns'.map V.int)))
def φPick : Spec
  | [.pool, .int n], Q, _ => gd (0 < n) (∀ r : Int, 0 ≤ r → r < n → Q (.int r))
  | _, _, _ => False
theorem φPick_inv {ds : List D} {Q : D → Prop} {E : Nat → Prop} (h : φPick ds Q E) : ∃ n, ds = [.pool, .int n] ∧ 0 < n ∧ ∀ r : Int, 0 ≤ r → r < n → Q (.int r) := by
  unfold φPick at h
  split at h
  · exact ⟨_, rfl, gd_elim h⟩
  · exact h.elim
theorem cx_never {P : Program} {w : World} {outer : List Env} {H : Hp} {s s' : Shared} {u : Value} (h : L2.CX P w outer H s (fun _ _ _ => False) u s') : False := by
  obtain ⟨_, _, _, _, _, _, _, _, _, _, _, _, z⟩ := h
  exact z
section
variable {P : Program} {w : World} {K : PySem.W.Frag} {mg : Str → Option Value} {base : Heap} {k : Nat} {f : Addr} {fd : FuncData} {ps : List Str}
theorem env0_retell {A : Around} {outer : List Env} {s : Shared} {H : Hp} {p : Addr} {o o' : HO} (e : Env0 P w K mg base A outer s H) (hp : H p = some o) (n1 : ∀ a, o ≠ .own a) (n2 : ∀ xs, o ≠ .tup xs) (new : ObjOk P w (upd H p o') s.heap p o') : Env0 P w K mg base A outer s (upd H p o') :=
  
  have h1 : ∀ b, H b = none → upd H p o' b = none := fun b q => by
    have ne : b ≠ p := fun z => by
      subst z
      rw [q] at hp
      cases hp
    rw [upd_ne ne]
    exact q
  ⟨e.frames, e.mod, fun b u q => ⟨(e.bs b u q).1, h1 b (e.bs b u q).2⟩, e.bsz, e.funs, fun b hb => h1 b (e.frf b hb), retell_ok e.hok hp n1 n2 new, e.bare⟩
theorem pick_close (F : FnOk P w K mg base (L2.CX P w) k f fd ps spPick) : FnOk P w K mg base (L2.CX P w) k f fd ps (pSp K φPick) := by
  refine ⟨fun vs H Q E h => ?_, fun A outer s H args us vs Q E hr e0 hb hv h => ?_⟩
  · obtain ⟨Hs, ds, Q', E', ex, rs, h, _⟩ := h
    obtain ⟨n, rfl, h0n, hn⟩ := φPick_inv h
    · cases rs with
      | cons r1 r2 =>
        cases r2 with
        | cons r2 r3 =>
          cases r3
          cases r1
          cases r2
          exact F.len [.ref _, .int _] (upd H _ (.lst ([1, 1].map V.int))) (fun _ _ => True) (fun _ _ _ => False) ⟨_, _, [1, 1], rfl, upd_same, ⟨by decide, by decide, 1, rfl, by decide, by decide⟩, h0n, fun _ _ _ _ _ => trivial⟩
  · obtain ⟨Hs, ds, Q', E', ex, rs, h, hq, _⟩ := h
    obtain ⟨n, rfl, h0n, hn⟩ := φPick_inv h
    · cases rs with
      | cons r1 r2 =>
        cases r2 with
        | cons r2 r3 =>
          cases r3
          cases r1 with
          | pool hsp =>
            rename_i p
            cases r2
            have hp : H p = some (.ext (PoolAt p)) := ex _ _ hsp
            obtain ⟨ns, ok, ob⟩ := obj_pool (e0.hok p _ hp) (upd H p (.lst ([] : List V)))
            obtain ⟨ns, ok, ob⟩ := obj_pool (e0.hok p _ hp) (upd H p (.lst (ns.map V.int)))
            have ob2 : ObjOk P w (upd H p (.lst (ns.map V.int))) s.heap p (.lst (ns.map V.int)) := ob
            have e1 := env0_retell (o' := .lst (ns.map V.int)) e0 hp (fun a z => by cases z) (fun a z => by cases z) ob2
            refine codeAny_mono (F.run A outer s (upd H p (.lst (ns.map V.int))) args us [.ref p, .int n] (fun v H' => ∃ (r : Int) (ns' : List Int), v = .int r ∧ 0 ≤ r ∧ r < n ∧ PoolOk ns' ∧ H' = upd H p (.lst (ns'.map V.int))) (fun _ _ _ => False) hr e1 hb hv
              ⟨p, n, ns, rfl, upd_same, ok, h0n, fun r ns' h0 h1 ok' => ⟨r, ns', rfl, h0, h1, ok', upd_upd⟩⟩) fun rr s' hrr => ?_
            cases rr with
            | error e => exact (cx_never hrr).elim
            | ok fl =>
              cases fl with
              | ret u =>
                obtain ⟨v, H', os, bare, un, hok, rv, r, ns', rfl, h0, h1, ok', rfl⟩ := hrr
                have hpe : upd H p (.ext (PoolAt p)) = H := by
                  funext b
                  by_cases hb : b = p
                  · subst hb; rw [upd_same, hp]
                  · rw [upd_ne hb]
                have hok2 : HOk P w H s'.heap := by
                  have z := retell_ok (o' := .ext (PoolAt p)) hok (p := p) upd_same (fun a z => by cases z) (fun a z => by cases z) (pool_obj (hok p _ upd_same) ok' _)
                  rw [upd_upd, hpe] at z
                  exact z
                refine ⟨.int r, H, os, bare, ⟨fun b ob q n hf hx => un.keep b ob q ?_ hf hx, fun b ob q n hf hx => un.slot b ob q ?_ hf hx, fun b ob q n hx => n, un.there, fun b xs q => q, fun b ob u q => q, fun b ps q => ⟨#[], by rw [q]; simp⟩⟩, hok2, rv, ?_⟩
                · rw [upd_ne]
                  · exact n
                  · intro z; subst z; rw [hp] at n; cases n
                · rw [upd_ne]
                  · exact n
                  · intro z; subst z; rw [hp] at n; cases n
                · exact hq (.int r) (hn r h0 h1) (.int r) H Hs ⟨Evl.Ex.refl _, ex, fun b o q1 q2 => ⟨q1, q2⟩⟩ (.int r)
              | next => exact False.elim hrr
              | brk => exact False.elim hrr
              | cont => exact False.elim hrr
/-- the stream is made: a new list becomes the stream -/
def φList : Spec
  | [.frl ds], Q, _ => ∃ xs : List Int, ds = xs.map D.int ∧ xs.length ≤ 63 ∧ ∀ ns : List Int, PoolOk ns → Q (.lst (ns.map D.int))
  | _, _, _ => False
def φStream : Spec
  | [.frl ds], Q, _ => (∃ xs : List Int, ds = xs.map D.int ∧ xs.length ≤ 63) ∧ Q .pool
  | _, _, _ => False
/-- what is locked in H alone -/
def locked (H : Hp) : Hp := fun b => match H b with
  | some (.frz o u) => some (.frz o u)
  | _ => none
theorem locked_ex {H : Hp} : Ex (locked H) H := fun b o e => by
  unfold locked at e
  split at e
  · rename_i o' u h
    rw [h]
    exact e
  · cases e
theorem stream_close (F : FnOk P w K mg base (L2.CX P w) k f fd ps (pSp K φList)) : FnOk P w K mg base (L2.CX P w) k f fd ps (pSp K φStream) := by
  have conv : ∀ {vs H Q E}, pSp K φStream vs H Q E → pSp K φList vs H (fun v H' => ∃ (p : Addr) (ns : List Int) (Hs' : Hp), v = .ref p ∧ PoolOk ns ∧ Keeps (locked H) H Hs' H' ∧ Hs' p = some (.lst (ns.map V.int))) (fun _ _ _ => False) := by
    intro vs H Q E h
    obtain ⟨Hs, ds, Q', E', ex, rs, h, hq, he⟩ := h
    unfold φStream at h
    split at h
    · obtain ⟨⟨xs, rfl, hx⟩, h⟩ := h
      cases rs with
      | cons r1 r2 =>
        cases r2
        cases r1 with
        | frl hs rr =>
          rename_i a ws
          have er := rr.inv_ints
          subst er
          have hs2 : FrL K (locked H) a (xs.map V.int) := by
            rcases hs with ⟨o, hs⟩ | hs
            · refine .inl ⟨o, ?_⟩
              unfold locked
              rw [ex _ _ hs]
            · exact .inr hs
          refine ⟨locked H, _, fun d => ∃ ns, PoolOk ns ∧ d = .lst (ns.map D.int), fun _ => False, locked_ex, .cons (.frl hs2 (Reps.ints xs)) .nil, ⟨xs, rfl, hx, fun ns ok => ⟨ns, ok, rfl⟩⟩, fun d ⟨ns, ok, e⟩ v H' Hs' kp rv => ?_, fun _ z => z.elim⟩
          subst e
          cases rv with
          | lst hp rr2 =>
            have e2 := rr2.inv_ints
            subst e2
            exact ⟨_, ns, Hs', rfl, ok, kp, hp⟩
    · exact h.elim
  refine ⟨fun vs H Q E h => F.len _ _ _ _ (conv h), fun A outer s H args us vs Q E hr e0 hb hv h => ?_⟩
  refine codeAny_mono (F.run A outer s H args us vs _ (fun _ _ _ => False) hr e0 hb hv (conv h)) fun rr s' hrr => ?_
  obtain ⟨Hs, ds, Q', E', ex, rs, h, hq, he⟩ := h
  unfold φStream at h
  split at h
  · obtain ⟨_, h⟩ := h
    cases rr with
    | error e => exact (cx_never hrr).elim
    | ok fl =>
      cases fl with
      | ret u =>
        obtain ⟨v, H', os, bare, un, hok, rv, p, ns, Hs', rfl, ok, kp, hp⟩ := hrr
        have hp' : H' p = some (.lst (ns.map V.int)) := kp.2.1 _ _ hp
        have lp : locked H p = none := by
          cases e : locked H p with
          | none => rfl
          | some o =>
            have e2 := kp.1 _ _ e
            rw [hp] at e2
            unfold locked at e
            split at e
            · cases e
              cases e2
            · cases e
        have hH : H p = none := by
          cases e : H p with
          | none => rfl
          | some o =>
            have e2 := (kp.2.2 p o e lp).2
            rw [hp] at e2
            cases e2
        have hh : s.heap.get? p = none := by
          cases e : s.heap.get? p with
          | none => rfl
          | some o =>
            have e2 := un.free p o e hH (by simp)
            rw [hp'] at e2
            cases e2
        have old : ∀ b o, H b = some o → H' b = some o := fun b o q => by
          cases e : locked H b with
          | none => exact (kp.2.2 b o q e).1
          | some o' =>
            have q2 := locked_ex b o' e
            rw [q] at q2
            cases q2
            exact kp.2.1 _ _ (kp.1 _ _ e)
        have nep : ∀ b, H b ≠ none → b ≠ p := fun b q z => by
          subst z
          exact q hH
        have hok2 : HOk P w (upd H' p (.ext (PoolAt p))) s'.heap := retell_ok hok hp' (fun a z => by cases z) (fun a z => by cases z) (pool_obj (hok p _ hp') ok _)
        refine ⟨.ref p, upd H' p (.ext (PoolAt p)), os, bare, ⟨un.keep, un.slot, fun b ob q n hx => ?_, un.there, fun b xs q => ?_, fun b ob u q => ?_, fun b ps q => ?_⟩, hok2, rv, ?_⟩
        · have ne : b ≠ p := by
            intro z
            subst z
            rw [hh] at q
            cases q
          rw [upd_ne ne]
          exact un.free b ob q n hx
        · rw [upd_ne (nep b (by rw [q]; simp))]
          exact un.tups b xs q
        · rw [upd_ne (nep b (by rw [q]; simp))]
          exact un.frzs b ob u q
        · rw [upd_ne (nep b (by rw [q]; simp))]
          exact un.tbls b ps q
        · have hsp : Hs p = none := Evl.fresh_back ex hH
          refine hq .pool h (.ref p) _ (upd Hs p (.ext (PoolAt p))) ⟨ex_upd hsp, fun b o q => ?_, fun b o q1 q2 => ?_⟩ (.pool upd_same)
          · by_cases hb : b = p
            · subst hb
              rw [upd_same] at q ⊢
              exact q
            · rw [upd_ne hb] at q ⊢
              exact old b o (ex b o q)
          · have ne := nep b (by rw [q1]; simp)
            rw [upd_ne ne, upd_ne ne]
            exact ⟨old b o q1, q2⟩
      | next => exact False.elim hrr
      | brk => exact False.elim hrr
      | cont => exact False.elim hrr
  · exact h.elim
/-- the law's promise, as the head asks it -/
def φLaw : Spec
  | [.frl ds], Q, _ => ∃ xs : List Int, ds = xs.map D.int ∧ xs.length ≤ 63 ∧ Q (.bl true)
  | _, _, _ => False
theorem law_sp {H : Hp} {a : Addr} {ns : List Int} (hl : ns.length ≤ 63) (ho : L2.Only H) (hs : SqL K H a (ns.map V.int)) : pSp K φLaw [.ref a] H (fun v _ => v = .bl true) (fun _ _ _ => False) := by
  have hs2 : FrL K H a (ns.map V.int) := by
    rcases hs with (hs | ⟨o, hs⟩) | hs
    · rcases ho a with h | ⟨o, xs, h⟩
      · rw [hs] at h; cases h
      · rw [hs] at h; cases h
    · exact .inl ⟨o, hs⟩
    · exact .inr hs
  refine ⟨H, [.frl (ns.map D.int)], fun d => d = .bl true, fun _ => False, Evl.Ex.refl _, .cons (.frl hs2 (Reps.ints ns)) .nil, ⟨ns, rfl, hl, rfl⟩, fun d e v H' Hs' kp rv => ?_, fun _ z => z.elim⟩
  subst e
  cases rv
  rfl
end
end PL

set_option Elab.async false
set_option linter.all false
set_option autoImplicit false
set_option maxRecDepth 100000
set_option maxHeartbeats 2000000
/-! a, b = x, y -/
namespace PL
open PySem PySem.Spec PyProof.Rows L2
open Evl (Ex)
/-- what a name is to hold, on the way: a datum, or a new list that is nobody's yet -/
def Pend (K : PySem.W.Frag) (F Hs : Hp) (σ : St) (H : Hp) (ε : PEnv) (v : V) : S → Prop
  | .v d => Rep K Hs v d
  | .o ds => ∃ p vs, v = .ref p ∧ H p = some (.lst vs) ∧ Hs p = none ∧ F p = none ∧ Nobody σ ε p ∧ Reps K Hs vs ds
  | .od _ => False
abbrev PTX := PEnv → (S → PEnv → Prop) → Prop
structure YX (X : Cx) (W : WX) (Ξ : Xi) (e : Expr) (r : PTX) : Prop where
  ex : ∃ t, PE X e t ∧ ∀ (F Hs : Hp) (σ : St) (H : Hp) (ε : PEnv) (Q' : S → PEnv → Prop) (Q : VK), RelS X.K F Hs σ H ε → Lk X.K F Hs W Ξ → r ε Q' →
    (∀ (v : V) (H' Hs' : Hp) (s : S) (ε' : PEnv), Ex Hs Hs' → RelS X.K F Hs' σ H' ε' → Pend X.K F Hs' σ H' ε' v s → Q' s ε' → Q v H') → t σ H Q
section
variable {X : Cx} {W : WX} {Ξ : Xi} {e : Expr} {pos : Pos}
def yxE (r : PTE) : PTX := fun ε Q => r ε fun t ε1 => out ε1 t fun d ε2 => Q (.v d) ε2
def yxN (r : PTN) : PTX := fun ε Q => r ε fun ds ε1 => Q (.o ds) ε1
theorem yx_e {r : PTE} (h : YE X W Ξ e r) : YX X W Ξ e (yxE r) := by
  obtain ⟨t, p, k⟩ := h.ex
  refine ⟨t, p, fun F Hs σ H ε Q' Q R L q kk => k F Hs σ H ε _ _ R L q fun v H1 Hs1 t1 ε1 e1 R1 p1 q1 => ?_⟩
  obtain ⟨d, ε2, Hs2, e2, R2, rv, q2⟩ := R1.out p1 q1
  exact kk v H1 Hs2 (.v d) ε2 (e1.trans e2) R2 rv q2
theorem yx_n {r : PTN} (h : YN X W Ξ e r) : YX X W Ξ e (yxN r) := by
  obtain ⟨t, p, k⟩ := h.ex
  exact ⟨t, p, fun F Hs σ H ε Q' Q R L q kk => k F Hs σ H ε _ _ R L q fun p H' Hs' vs ds ε' e R' g1 g2 g3 g4 rs q' => kk (.ref p) H' Hs' (.o ds) ε' e R' ⟨p, vs, rfl, g1, g2, g3, g4, rs⟩ q'⟩
theorem pend_store {K : PySem.W.Frag} {F Hs H : Hp} {σ : St} {ε : PEnv} {v : V} {s : S} (R : RelS K F Hs σ H ε) (h : Pend K F Hs σ H ε v s) (i : Nat) : RelS K F Hs (σ.set i (some v)) H (ε.set i (some s)) := by
  cases s with
  | v d => exact R.store h i
  | o ds =>
    obtain ⟨p, vs, rfl, g1, g2, g3, g4, rs⟩ := h
    exact storeO_of R i g1 g2 g3 g4 rs
  | od _ => exact h.elim
def ysPar (i j : Nat) (ra rb : PTX) : PTS := fun Δ ε => ra ε fun s1 ε1 => rb ε1 fun s2 ε2 => Δ.nx ((ε2.set i (some s1)).set j (some s2))
theorem nobody_set {σ : St} {ε : PEnv} {p q : Addr} {s : S} {i : Nat} (h : Nobody σ ε p) (hq : q ≠ p) : Nobody (σ.set i (some (.ref q))) (ε.set i (some s)) p := fun k t e so z => by
  by_cases hk : i = k
  · subst hk
    by_cases hi : i < σ.length
    · rw [List.getElem?_set_self hi] at z
      exact hq (V.ref.inj (Option.some.inj (Option.some.inj z)))
    · rw [List.getElem?_eq_none (by rw [List.length_set]; omega)] at z
      cases z
  · rw [List.getElem?_set_ne hk] at e z
    exact h k t e so z
theorem nobody_setV {σ : St} {ε : PEnv} {p : Addr} {d : D} {v : V} {i : Nat} (h : Nobody σ ε p) : Nobody (σ.set i (some v)) (ε.set i (some (.v d))) p := fun k t e so z => by
  by_cases hk : i = k
  · subst hk
    by_cases hi : i < ε.length
    · rw [List.getElem?_set_self hi] at e
      cases e
      cases so
    · rw [List.getElem?_eq_none (by rw [List.length_set]; omega)] at e
      cases e
  · rw [List.getElem?_set_ne hk] at e z
    exact h k t e so z
theorem ys_par (i j : Nat) {x y : Str} {a b : Expr} {ra rb : PTX} {px py pt : Pos} {kt k2 : Nat} {pt2 : Pos} (hc : X.calm = true) (hN : X.N.Nodup) (hi : X.N[i]? = some x) (hj : X.N[j]? = some y) (hij : i ≠ j)
    (hx : X.env.scope.names.lookup x = some .local) (hy : X.env.scope.names.lookup y = some .local) (ha : YX X W Ξ a ra) (hb : YX X W Ξ b rb)
    (hst : starEach [a, b] X.env = (false, eval a X.env) :: starEach [b] X.env := by rfl) (hst2 : starEach [b] X.env = (false, eval b X.env) :: starEach [] X.env := by rfl)
    (hw : swappedStores [.Tuple [.Name x px, .Name y py] kt pt] (.Tuple [a, b] k2 pt2) X.env = pure (some [x, y]) := by rfl)
    (hs : swapsWithSole [.Tuple [.Name x px, .Name y py] kt pt] (.Tuple [a, b] k2 pt2) pos.line X.env = pure false := by rfl) :
    YS X W Ξ (.Assign [.Tuple [.Name x px, .Name y py] kt pt] (.Tuple [a, b] k2 pt2) pos) (ysPar i j ra rb) := by
  obtain ⟨ta, pa, ka⟩ := ha.ex
  obtain ⟨tb, pb, kb⟩ := hb.ex
  refine ⟨_, ps_par hc hN hi hj hij hx hy (pa_cons pa (pa_cons pb pa_nil hst2) hst) hw hs, fun F Hs σ H ε Δ Dd R L q kk => ?_⟩
  refine ka F Hs σ H ε _ _ R L q fun v H1 Hs1 s1 ε1 e1 R1 p1 q1 => ?_
  cases s1 with
  | v d =>
    refine kb F Hs1 σ H1 ε1 _ _ R1 (L.mono e1) q1 fun w H2 Hs2 s2 ε2 e2 R2 p2 q2 => ?_
    refine ⟨v, w, rfl, ?_⟩
    have R3 := R2.store (Rep.mono e2 p1) i
    refine kk.nx _ H2 Hs2 _ (e1.trans e2) (pend_store R3 ?_ j) q2
    cases s2 with
    | v d2 => exact p2
    | o ds =>
      obtain ⟨p, vs, rfl, g1, g2, g3, g4, rs⟩ := p2
      exact ⟨p, vs, rfl, g1, g2, g3, nobody_setV g4, rs⟩
    | od _ => exact p2.elim
  | o ds =>
    obtain ⟨p, vs, rfl, g1, g2, g3, g4, rs⟩ := p1
    have R1' := R1.lend g1 g2 g4
    have L' : Lk X.K (upd F p (.lst vs)) Hs1 W Ξ := fun c σ' H' Hs' ε' xc e' R' => L c σ' H' Hs' ε' xc (e1.trans e') (R'.back g3).1
    refine kb _ Hs1 σ H1 ε1 _ _ R1' L' q1 fun w H2 Hs2 s2 ε2 e2 R2 p2 q2 => ?_
    refine ⟨.ref p, w, rfl, ?_⟩
    obtain ⟨R2', b1, b2, b3⟩ := R2.back g3
    have R3 := storeO_of R2' i b1 b2 g3 b3 (rs.mono e2)
    refine kk.nx _ H2 Hs2 _ (e1.trans e2) (pend_store R3 ?_ j) q2
    cases s2 with
    | v d2 => exact p2
    | o ds2 =>
      obtain ⟨p', vs', rfl, f1, f2, f3, f4, rs'⟩ := p2
      have ne : p ≠ p' := by
        intro z
        subst z
        rw [upd_same] at f3
        cases f3
      exact ⟨p', vs', rfl, f1, f2, by rw [upd_ne (Ne.symm ne)] at f3; exact f3, nobody_set f4 ne, rs'⟩
    | od _ => exact p2.elim
  | od _ => exact p1.elim
end
end PL

set_option Elab.async false
set_option linter.all false
set_option autoImplicit false
set_option maxRecDepth 100000
set_option maxHeartbeats 2000000
/-! Short words for the printed derivations. -/
namespace PL
open PySem PySem.Spec PyProof.Rows L2
open Evl (Ex)
theorem atI_in {α : Type} {xs : List α} {i : Int} (h0 : 0 ≤ i) (h1 : i < (xs.length : Int)) : ∃ d, atI xs i = some d ∧ d ∈ xs := by
  obtain ⟨j, rfl⟩ := Int.eq_ofNat_of_zero_le h0
  have hn : j < xs.length := Int.ofNat_lt.mp h1
  exact ⟨xs[j], atI_nat (List.getElem?_eq_getElem hn), List.getElem_mem hn⟩
/-- an item at a place that is drawn -/
theorem pick_of {xs : List D} {i : Int} {Q : D → Prop} (h0 : 0 ≤ i) (h1 : i < (xs.length : Int)) (k : ∀ d, d ∈ xs → Q d) : opt (atI xs i) Q := by
  obtain ⟨d, e, hd⟩ := atI_in h0 h1
  exact opt_of e (k d hd)
/-- a def that may be called -/
structure CallOk (P : Program) (w : World) (K : PySem.W.Frag) (mg : Str → Option Value) (base : Heap) (k : Nat) (x : Str) (ps : List Str) (φ : Spec) : Prop where
  fn : ∃ fd, FnOk P w K mg base (L2.CX P w) k (He.ga K x) fd ps (pSp K φ) ∧ (∃ oc od sl, K.lookup (He.ga K x) = some ⟨oc, od, .func fd, sl⟩) ∧ ∀ (s : Shared) (us : List Value), us.length = ps.length → BindsTo s fd ⟨us, []⟩ (ps.zip us)
  kp : PySem.W.keepIn K (.ref (He.ga K x)) = true
  gl : mg x = some (.ref (He.ga K x))
theorem funLook {K : PySem.W.Frag} {x qual : Str} {params : Arguments} {body : List Stmt} {scope : Scope} {dvs : List V} {kws : List (Str × V)} {f : Addr} {fd : FuncData} (F : FunD K x qual params body scope dvs kws f fd) : ∃ oc od sl, K.lookup f = some ⟨oc, od, .func fd, sl⟩ := by
  obtain ⟨oc, od, dV, kV, doc, pm, an, cdv, ct, osl, rfl, lk, _⟩ := F.ex
  exact ⟨_, _, _, lk⟩
theorem CallOk.imp {P : Program} {w : World} {K : PySem.W.Frag} {mg : Str → Option Value} {base : Heap} {k : Nat} {x : Str} {ps : List Str} {φ ψ : Spec} (h : CallOk P w K mg base k x ps φ) (i : ∀ ds Q E, ψ ds Q E → φ ds Q E) : CallOk P w K mg base k x ps ψ := by
  obtain ⟨⟨fd, F, lk, b⟩, kp, gl⟩ := h
  exact ⟨⟨fd, F.imp fun vs H Q E ⟨Hs, ds, Q', E', a, b, c, d⟩ => ⟨Hs, ds, Q', E', a, b, i _ _ _ c, d⟩, lk, b⟩, kp, gl⟩
section
variable {X : Cx} {W : WX} {Ξ : Xi} {a b c : Expr} {es : List Expr} {pos : Pos}
theorem yeCall {φ : Spec} {rs : PTL} {k : Nat} {ps : List Str} {x : Str} {p : Pos} (C : CallOk X.prog X.w X.K X.mg X.base k x ps φ) (tk : Takes X W) (hr : Room k X.A) (h : YL X W Ξ (a :: es) rs) (hg : Gl X x := by rfl) (hdb : (x == ("__debug__" : Str)) = false := by decide)
    (he : starEach (a :: es) X.env = (false, eval a X.env) :: starEach es X.env := by rfl) (hpl : (backTo pos (starEach es X.env)).any (·.1) = false := by rfl) :
    YE X W Ξ (.Call (.Name x p) (a :: es) [] pos) (yCall φ Ξ rs) := by
  obtain ⟨⟨fd, F, _, b⟩, kp, gl⟩ := C
  exact ye_call F tk hr hg gl kp (fun s us _ hl => by rw [List.append_nil] at hl ⊢; exact b s us hl) h hdb he hpl
/-- a name is stored: the plain ways -/
theorem ysSet (i : Nat) {x : Str} {pos' : Pos} {re : PTE} (hN : X.N.Nodup) (he : YE X W Ξ a re) (hi : X.N[i]? = some x := by rfl) (hx : Loc X.env.scope x := by first | exact Or.inl rfl | exact Or.inr rfl) (hs : swapsWith a (some (.Name x pos')) pos.line X.env = pure false := by rfl)
    (hf : X.fn x = true ∨ X.env.scope.names.lookup x = some .local := by first | exact .inl rfl | exact .inr rfl) : YS X W Ξ (.Assign [.Name x pos'] a pos) (ysAsg re i) := ys_set i hN hi hx he hs hf
theorem ysSetO (i : Nat) {x : Str} {pos' : Pos} {rn : PTN} (hN : X.N.Nodup) (he : YN X W Ξ a rn) (hi : X.N[i]? = some x := by rfl) (hx : Loc X.env.scope x := by first | exact Or.inl rfl | exact Or.inr rfl) (hs : swapsWith a (some (.Name x pos')) pos.line X.env = pure false := by rfl)
    (hf : X.fn x = true ∨ X.env.scope.names.lookup x = some .local := by first | exact .inl rfl | exact .inr rfl) : YS X W Ξ (.Assign [.Name x pos'] a pos) (ysAsgO rn i) := ys_setO i hN hi hx he hs hf
theorem ygN {x : Str} (i : Nat) (hN : X.N.Nodup) (hi : X.N[i]? = some x := by rfl) (hx : Loc X.env.scope x := by first | exact Or.inl rfl | exact Or.inr rfl) (hf : X.fn x = true ∨ X.env.scope.names.lookup x = some .local := by first | exact .inl rfl | exact .inr rfl) : YG X (.Name x pos) (gN i) [i] := yg_name i hN hi hx hf
theorem ysApp' (i : Nat) {x : Str} {px pa pc : Pos} {re : PTE} (he : YE X W Ξ a re) (hN : X.N[i]? = some x := by rfl) (hv : Vis X.env.scope x := by first | exact Or.inl rfl | exact Or.inr (Or.inl rfl) | exact Or.inr (Or.inr rfl)) (hd : (x == ("__debug__" : Str)) = false := by decide) (hcd : (x == ("__classdict__" : Str)) = false := by decide)
    (hbase : attributeBase (.Name x px) "append" X.env (eval (.Name x px) X.env) = eval (.Name x px) X.env := by rfl)
    (hfew : ((backTo pc (starEach (a :: []) X.env)).all (fun x => !x.1) && (backToKw pc (keywordEach [] X.env)).all (fun x => x.1.isSome)
      && decide ((a :: []).length + ([] : List Keyword).length + (if ([] : List Keyword).isEmpty then 0 else 1) < 30)) = true := by rfl)
    (hline : (pa.endLine == pc.line) = true := by rfl) (hs : starEach (a :: []) X.env = (false, eval a X.env) :: starEach [] X.env := by rfl) (hplain : (backTo pc (starEach [] X.env)).any (·.1) = false := by rfl)
    (hsw : swapsWith (.Call (.Attribute (.Name x px) "append" pa) [a] [] pc) none pos.line X.env = pure false := by rfl) :
    YS X W Ξ (.Expr (.Call (.Attribute (.Name x px) "append" pa) [a] [] pc) pos) (ysApp i re) := ys_app i hN hv he hd hcd hbase hfew hline hs hplain hsw
theorem ysExt' (i : Nat) {x : Str} {px pa pc : Pos} {re : PTE} (he : YE X W Ξ a re) (hN : X.N[i]? = some x := by rfl) (hv : Vis X.env.scope x := by first | exact Or.inl rfl | exact Or.inr (Or.inl rfl) | exact Or.inr (Or.inr rfl)) (hd : (x == ("__debug__" : Str)) = false := by decide) (hcd : (x == ("__classdict__" : Str)) = false := by decide)
    (hbase : attributeBase (.Name x px) "extend" X.env (eval (.Name x px) X.env) = eval (.Name x px) X.env := by rfl)
    (hfew : ((backTo pc (starEach (a :: []) X.env)).all (fun x => !x.1) && (backToKw pc (keywordEach [] X.env)).all (fun x => x.1.isSome)
      && decide ((a :: []).length + ([] : List Keyword).length + (if ([] : List Keyword).isEmpty then 0 else 1) < 30)) = true := by rfl)
    (hline : (pa.endLine == pc.line) = true := by rfl) (hs : starEach (a :: []) X.env = (false, eval a X.env) :: starEach [] X.env := by rfl) (hplain : (backTo pc (starEach [] X.env)).any (·.1) = false := by rfl)
    (hsw : swapsWith (.Call (.Attribute (.Name x px) "extend" pa) [a] [] pc) none pos.line X.env = pure false := by rfl) :
    YS X W Ξ (.Expr (.Call (.Attribute (.Name x px) "extend" pa) [a] [] pc) pos) (ysExt i re) := ys_ext i hN hv he hd hcd hbase hfew hline hs hplain hsw
theorem yePop' (i : Nat) {x : Str} {px pa pc : Pos} (hN : X.N[i]? = some x := by rfl) (hv : Vis X.env.scope x := by first | exact Or.inl rfl | exact Or.inr (Or.inl rfl) | exact Or.inr (Or.inr rfl)) (hd : (x == ("__debug__" : Str)) = false := by decide) (hcd : (x == ("__classdict__" : Str)) = false := by decide)
    (hbase : attributeBase (.Name x px) "pop" X.env (eval (.Name x px) X.env) = eval (.Name x px) X.env := by rfl) (hline : (pa.endLine == pc.line) = true := by rfl) :
    YE X W Ξ (.Call (.Attribute (.Name x px) "pop" pa) [] [] pc) (yPop i) := ye_pop i hN hv hd hcd hbase hline
/-- a module's constant: an int, a text -/
structure GlI (mg : Str → Option Value) (x : Str) (i : Int) : Prop where
  ex : ∃ t, mg x = some (.int i t)
structure GlS (mg : Str → Option Value) (x z : Str) : Prop where
  ex : ∃ t, mg x = some (.str z t)
theorem yeGlI {x : Str} {i : Int} (h : GlI X.mg x i) (hg : Gl X x := by rfl) (hd : (x == ("__debug__" : Str)) = false := by decide) : YE X W Ξ (.Name x pos) (yC (.int i)) := by
  obtain ⟨t, e⟩ := h.ex
  exact ye_glob (v := .int i) hg e ⟨t, rfl⟩ (fun _ _ => .int i) hd
theorem yeGlS {x z : Str} (h : GlS X.mg x z) (hg : Gl X x := by rfl) (hd : (x == ("__debug__" : Str)) = false := by decide) : YE X W Ξ (.Name x pos) (yC (.str z)) := by
  obtain ⟨t, e⟩ := h.ex
  exact ye_glob (v := .str z) hg e ⟨t, rfl⟩ (fun _ _ => .str z) hd
theorem peTy {x : Str} {n : String} (hm : X.mg x = none) (hv : bootBuiltins x = some (.type n)) (hg : Gl X x := by rfl) (hn : x ≠ "__name__" := by decide) (hd : (x == ("__debug__" : Str)) = false := by decide) : PE X (.Name x pos) (tC (.ty n)) := pe_bltn hg hm hv rfl hn hd
theorem ye_chain {op op' : CmpOp} {o o' : OP2} {ra rb rc : PTE} (ho : OpY X (compareOp op) o) (ho' : OpY X (compareOp op') o') (ha : YE X W Ξ a ra) (hb : YE X W Ξ b rb) (hc : YE X W Ξ c rc) (hm : lastMarks [op, op'] [b, c] = false := by with_unfolding_all rfl) :
    YE X W Ξ (.Compare a [op, op'] [b, c] pos) (yChain o o' ra rb rc) := by
  obtain ⟨r, hr, h⟩ := ho
  obtain ⟨r', hr', h'⟩ := ho'
  obtain ⟨ta, pa, ka⟩ := ha.ex
  obtain ⟨tb, pb, kb⟩ := hb.ex
  obtain ⟨tc, pc, kc⟩ := hc.ex
  refine ⟨_, pe_chain hr hr' pa pb pc hm, fun F Hs σ H ε Q' Q R L q k => ?_⟩
  refine ka F Hs σ H ε _ _ R L q fun v H1 Hs1 t1 ε1 e1 R1 p1 q1 => ?_
  refine kb F Hs1 σ H1 ε1 _ _ R1 (L.mono e1) q1 fun w H2 Hs2 t2 ε2 e2 R2 p2 q2 => ?_
  obtain ⟨d1, v1, q3⟩ := R2.res (p1.mono e2) q2
  obtain ⟨d2, v2, q4⟩ := R2.res p2 q3
  refine h F Hs2 σ H2 ε2 v w d1 d2 _ _ R2 v1 v2 q4 fun z H3 Hs3 d e3 R3 p3 q5 => ?_
  obtain ⟨kk, e4, q6⟩ := asB_rep p3 q5
  refine ⟨kk, e4, ?_⟩
  cases kk with
  | true =>
    show (if true = true then _ else _)
    rw [if_pos rfl]
    refine kc F Hs3 σ H3 ε2 _ _ R3 (L.mono ((e1.trans e2).trans e3)) q6 fun u H4 Hs4 t3 ε4 e5 R4 p4 q7 => ?_
    obtain ⟨d2', v2', q8⟩ := R4.res ((p2.mono e3).mono e5) q7
    obtain ⟨d3, v3, q9⟩ := R4.res p4 q8
    exact h' F Hs4 σ H4 ε4 w u d2' d3 _ Q R4 v2' v3 q9 fun z H' Hs' d e6 R6 p6 q => k z H' Hs' (.d d) ε4 ((((e1.trans e2).trans e3).trans e5).trans e6) R6 p6 q
  | false =>
    show (if false = true then _ else _)
    rw [if_neg Bool.false_ne_true]
    exact k _ H3 Hs3 (.d (.bl false)) ε2 ((e1.trans e2).trans e3) R3 (.bl false) q6
/-- {} -/
def yDic0 : PTE := fun ε Q => Q (.d (.dic [])) ε
theorem ye_dic0 : YE X W Ξ (.Dict [] [] pos) yDic0 := by
  refine ⟨_, pe_dnewK, fun F Hs σ H ε Q' Q R L q k => fun p hp => ?_⟩
  obtain ⟨R3, e3⟩ := R.new (o := .dK []) hp
  exact k (.ref p) _ _ (.d (.dic [])) ε e3 R3 (.dic upd_same rfl .nil) q
/-- not a, by truth -/
def yNotB (r : PTE) : PTE := fun ε Q => r ε fun t ε' => res ε' t (asB fun k => Q (.d (.bl (!k))) ε')
theorem ye_not {r : PTE} (h : YE X W Ξ a r) : YE X W Ξ (.UnaryOp .Not a pos) (yNotB r) := by
  obtain ⟨t, p, k⟩ := h.ex
  refine ⟨_, pe_not p, fun F Hs σ H ε Q' Q R L q kk => k F Hs σ H ε _ _ R L q fun v H1 Hs1 t1 ε1 e1 R1 p1 q1 => ?_⟩
  obtain ⟨d, rv, q2⟩ := R1.res p1 q1
  cases d with
  | bl b => exact ⟨b, rv.bl', kk _ H1 Hs1 (.d (.bl (!b))) ε1 e1 R1 (.bl _) q2⟩
  | _ => exact False.elim q2
/-- for x in a list, a tuple -/
def yiSeq (r : PTE) : PTN := fun ε Q => r ε fun t ε' => out ε' t fun d ε2 => match d with
  | .lst ds => Q ds ε2
  | .frl ds => Q ds ε2
  | .tup ds => Q ds ε2
  | _ => False
def iSeq (K : PySem.W.Frag) (tl : TE) : TI := fun σ H R => tl σ H fun x H1 => ∃ a, x = .ref a ∧ (((∃ xs, SqL K H1 a xs) ∧ R (Itl K a) H1) ∨ ((∃ xs, SqT K H1 a xs) ∧ R (Itt K a) H1))
theorem pi_seq {tg l : Expr} {tl : TE} (hl : PE X l tl) : PI X tg l (iSeq X.K tl) := by
  refine ⟨fun pins s σ H R I h => ?_⟩
  refine thn (hl.run pins s σ H _ I h) fun v s1 ⟨x, H1, I1, r1, q1⟩ => ?_
  obtain ⟨a, e, q⟩ := q1
  subst e
  cases r1
  rcases q with ⟨⟨xs, hq⟩, q⟩ | ⟨⟨xs, hq⟩, q⟩
  · obtain ⟨its, rv, p, hz⟩ := I1.list hq
    refine wpAny_pyIter_list p.isList ?_
    refine ⟨s1.heap.objs.size, [s1.heap.objs.size], _, _, H1, rfl, I1.kept (t' := s1.toks) fun b o e => Heap.get?_push_of_some _ e, turn_list a _, ⟨_, Heap.get?_push_size _ rfl, rfl, rfl⟩, fun b hb => ?_, q⟩
    have e : b = s1.heap.objs.size := by simpa using hb
    subst e
    exact I1.fpOk (Nat.le_refl _) (I1.hok.fresh (Nat.le_refl _))
  · obtain ⟨its, rv, p, hz⟩ := I1.tuple hq
    refine wpAny_pyIter_tuple (show s1.heap.IsTuple a its.toArray from p) ?_
    refine ⟨s1.heap.objs.size, [s1.heap.objs.size], _, _, H1, rfl, I1.kept (t' := s1.toks) fun b o e => Heap.get?_push_of_some _ e, turn_tuple a _, ⟨_, Heap.get?_push_size _ rfl, rfl, rfl⟩, fun b hb => ?_, q⟩
    have e : b = s1.heap.objs.size := by simpa using hb
    subst e
    exact I1.fpOk (Nat.le_refl _) (I1.hok.fresh (Nat.le_refl _))
theorem yi_seq {tg : Expr} {r : PTE} (h : YE X W Ξ a r) : YI X W Ξ tg a (yiSeq r) := by
  obtain ⟨t, p, k⟩ := h.ex
  refine ⟨_, pi_seq p, fun F Hs σ H ε Q' R' R L q kk => k F Hs σ H ε _ _ R L q fun v H1 Hs1 t ε1 e1 R1 p1 q1 => ?_⟩
  obtain ⟨d, ε2, Hs2, e2, R2, rv, q2⟩ := R1.out p1 q1
  split at q2
  · cases rv with
    | lst h1 r1 => exact ⟨_, rfl, .inl ⟨⟨_, SqL.of (R2.ex _ _ h1)⟩, kk _ H1 Hs2 _ ε2 (e1.trans e2) R2 (seqs_list (SqL.of h1) r1) q2⟩⟩
  · cases rv with
    | frl h1 r1 => exact ⟨_, rfl, .inl ⟨⟨_, Evl.ex_l R2.ex h1.sq⟩, kk _ H1 Hs2 _ ε2 (e1.trans e2) R2 (seqs_list h1.sq r1) q2⟩⟩
  · cases rv with
    | tup h1 r1 => exact ⟨_, rfl, .inr ⟨⟨_, Evl.ex_t R2.ex h1⟩, kk _ H1 Hs2 _ ε2 (e1.trans e2) R2 (seqs_tup h1 r1) q2⟩⟩
  · exact q2.elim
def yChainT (o o' : OP2) (ra rb rc : PTE) : PTT := yB (yChain o o' ra rb rc)
theorem yt_chain {op op' : CmpOp} {o o' : OP2} {ra rb rc : PTE} (ho : OpY X (compareOp op) o) (ho' : OpY X (compareOp op') o') (ha : YE X W Ξ a ra) (hb : YE X W Ξ b rb) (hc : YE X W Ξ c rc) (hm : lastMarks [op, op'] [b, c] = false := by with_unfolding_all rfl) :
    YT X W Ξ (.Compare a [op, op'] [b, c] pos) (yChainT o o' ra rb rc) := by
  obtain ⟨r, hr, h⟩ := ho
  obtain ⟨r', hr', h'⟩ := ho'
  obtain ⟨ta, pa, ka⟩ := ha.ex
  obtain ⟨tb, pb, kb⟩ := hb.ex
  obtain ⟨tc, pc, kc⟩ := hc.ex
  refine ⟨_, pt_chain hr hr' pa pb pc hm, fun F Hs σ H ε Q' Q R L q k => ?_⟩
  refine ka F Hs σ H ε _ _ R L q fun v H1 Hs1 t1 ε1 e1 R1 p1 q1 => ?_
  refine kb F Hs1 σ H1 ε1 _ _ R1 (L.mono e1) q1 fun w H2 Hs2 t2 ε2 e2 R2 p2 q2 => ?_
  obtain ⟨d1, v1, q3⟩ := R2.res (p1.mono e2) q2
  obtain ⟨d2, v2, q4⟩ := R2.res p2 q3
  refine h F Hs2 σ H2 ε2 v w d1 d2 _ _ R2 v1 v2 q4 fun z H3 Hs3 d e3 R3 p3 q5 => ?_
  obtain ⟨kk, e4, q6⟩ := asB_rep p3 q5
  refine ⟨kk, e4, ?_⟩
  cases kk with
  | true =>
    show (if true = true then _ else _)
    rw [if_pos rfl]
    refine kc F Hs3 σ H3 ε2 _ _ R3 (L.mono ((e1.trans e2).trans e3)) q6 fun u H4 Hs4 t3 ε4 e5 R4 p4 q7 => ?_
    obtain ⟨d2', v2', q8⟩ := R4.res ((p2.mono e3).mono e5) q7
    obtain ⟨d3, v3, q9⟩ := R4.res p4 q8
    refine h' F Hs4 σ H4 ε4 w u d2' d3 _ _ R4 v2' v3 q9 fun z H' Hs' d e6 R6 p6 q => ?_
    obtain ⟨b, e7, q7⟩ := asB_rep p6 q
    exact ⟨b, e7, k b H' Hs' ε4 ((((e1.trans e2).trans e3).trans e5).trans e6) R6 q7⟩
  | false =>
    show (if false = true then _ else _)
    rw [if_neg Bool.false_ne_true]
    exact ⟨false, rfl, k false H3 Hs3 ε2 ((e1.trans e2).trans e3) R3 q6⟩
def ysNever : PTS := fun _ _ => False
theorem ys_never {st : Stmt} : YS X W Ξ st ysNever := ⟨_, ps_never, fun _ _ _ _ _ _ _ _ _ q _ => q.elim⟩
def ysRetN : PTS := fun Δ ε => Δ.rt .non ε
theorem ys_retN : YS X W Ξ (.Return none pos) ysRetN := ⟨_, ps_retN, fun F Hs σ H ε Δ Dd R L q k => k.rt .non σ H Hs .non ε (Evl.Ex.refl _) R .non q⟩
abbrev exBase : List Value := [.type "Exception", .type "BaseException", .type "object"]
end
end PL

set_option Elab.async false
set_option linter.all false
set_option autoImplicit false
set_option maxRecDepth 100000
set_option maxHeartbeats 2000000
/-! Loops and comprehensions over lists that lie open. -/
namespace PL
open PySem PySem.Spec PyProof.Rows L2
def forRun (g : PTG) (rb : PTS) (Δ : PEnds) : List D → PEnv → Prop
  | [], ε => Δ.nx ε
  | d :: ds, ε => g d ε fun ε2 => rb { Δ with nx := forRun g rb Δ ds, ct := forRun g rb Δ ds, bk := Δ.nx } ε2
theorem drop_get {α : Type} {xs : List α} {i : Nat} {d : α} (h : xs[i]? = some d) : xs.drop i = d :: xs.drop (i + 1) := by
  obtain ⟨hi, e⟩ := List.getElem?_eq_some_iff.mp h
  rw [List.drop_eq_getElem_cons hi, e]
theorem for_run {g : PTG} {rb : PTS} {Δ : PEnds} {ds : List D} {ε1 : PEnv} (h : forRun g rb Δ ds ε1) : ∃ Wp : Nat → PEnv → Prop, Wp 0 ε1 ∧
    (∀ i d ε, i < ds.length → ds[i]? = some d → Wp i ε → g d ε fun ε2 => rb { Δ with nx := Wp (i + 1), ct := Wp (i + 1), bk := Δ.nx } ε2) ∧ ∀ ε, Wp ds.length ε → Δ.nx ε := by
  refine ⟨fun i ε => forRun g rb Δ (ds.drop i) ε, h, fun i d ε hi hd w => ?_, fun ε w => ?_⟩
  · replace w : forRun g rb Δ (ds.drop i) ε := w
    rw [drop_get hd] at w
    exact w
  · replace w : forRun g rb Δ (ds.drop ds.length) ε := w
    rw [List.drop_length] at w
    exact w
def lcRun (g : PTG) (rt : PTT) (re : PTE) (vs : List Nat) (ε1 : PEnv) (Q : List D → PEnv → Prop) : List D → List D → Prop
  | [], acc => Q acc ε1
  | d :: ds, acc => g d (wipeE ε1 vs) fun ε2 => rt ε2 fun k ε3 => match k with
    | true => re ε3 fun t ε4 => out ε4 t fun y ε5 => wipeE ε5 vs = wipeE ε1 vs ∧ lcRun g rt re vs ε1 Q ds (acc ++ [y])
    | false => wipeE ε3 vs = wipeE ε1 vs ∧ lcRun g rt re vs ε1 Q ds acc
theorem lc_run {g : PTG} {rt : PTT} {re : PTE} {vs : List Nat} {ε1 : PEnv} {Q : List D → PEnv → Prop} {ds : List D} (h : lcRun g rt re vs ε1 Q ds []) : ∃ Wp : Nat → List D → Prop, Wp 0 [] ∧
  (∀ i d acc, i < ds.length → ds[i]? = some d → acc.length ≤ i → Wp i acc → g d (wipeE ε1 vs) fun ε2 => rt ε2 fun k ε3 => match k with
    | true => re ε3 fun t ε4 => out ε4 t fun y ε5 => wipeE ε5 vs = wipeE ε1 vs ∧ Wp (i + 1) (acc ++ [y])
    | false => wipeE ε3 vs = wipeE ε1 vs ∧ Wp (i + 1) acc) ∧ ∀ acc, acc.length ≤ ds.length → Wp ds.length acc → Q acc ε1 := by
  refine ⟨fun i acc => lcRun g rt re vs ε1 Q (ds.drop i) acc, h, fun i d acc hi hd hl w => ?_, fun acc hl w => ?_⟩
  · replace w : lcRun g rt re vs ε1 Q (ds.drop i) acc := w
    rw [drop_get hd] at w
    exact w
  · replace w : lcRun g rt re vs ε1 Q (ds.drop ds.length) acc := w
    rw [List.drop_length] at w
    exact w
theorem seq_step {r u : PTS} {Δ : PEnds} {ε : PEnv} (ε' : PEnv) (h1 : ∀ K : PEnv → Prop, K ε' → r { Δ with nx := K } ε) (h2 : u Δ ε') : ysSeq r u Δ ε := h1 _ h2
theorem seq_post {r u : PTS} {Δ : PEnds} {ε : PEnv} (Po : PEnv → Prop) (h1 : ∀ K : PEnv → Prop, (∀ ε', Po ε' → K ε') → r { Δ with nx := K } ε) (h2 : ∀ ε', Po ε' → u Δ ε') : ysSeq r u Δ ε := h1 _ h2
theorem gtup2 {i j : Nat} {d1 d2 : D} {ε : PEnv} {Q : PEnv → Prop} (h : Q ((ε.set i (some (.v d1))).set j (some (.v d2)))) : gTupY 2 [gN i, gN j] (.tup [d1, d2]) ε Q := h
end PL

set_option Elab.async false
set_option linter.all false
set_option autoImplicit false
set_option maxRecDepth 100000
set_option maxHeartbeats 2000000
/-! A number is drawn, by hand. -/
namespace PL
open PySem PySem.Spec PyProof.Rows L2
section
variable {K : PySem.W.Frag}
def r_len (K : PySem.W.Frag) : List V → Hp → VK → Prop := fun xs H Q => ∃ x n, xs = [x] ∧ LenV K x H n ∧ Q (.int (n : Nat)) H
def t_pick (K : PySem.W.Frag) : TS :=
  tSeq (tAsg (tOp (rIxL K) (tVar 0) (tC (.int 0))) (gName 2))
    (tSeq (tAsg (tOp (rI0 fun i j => V.int (i + j)) (tVar 2) (tC (.int 1))) (gSub (tVar 0) (tC (.int 0)) rSetL))
      (tSeq (tIfS (tTest (tOp rEq (tOp (rIxL K) (tVar 0) (tC (.int 0))) (tCB (r_len K) (tCons (tVar 0) tNil))))
          (tAsg (tC (.int 1)) (gSub (tVar 0) (tC (.int 0)) rSetL)) tNext)
        (tRet (tOp (rI (fun _ j => 0 < j) fun i j => V.int (i % j))
            (tCB (fun xs H Q => (∃ i, xs = [V.int i] ∧ Q (V.int i) H) ∨ ∃ k, xs = [V.bl k] ∧ Q (V.int (if k = true then 1 else 0)) H)
              (tCons (tOp (rIxL K) (tVar 0) (tVar 2)) tNil))
            (tVar 1)))))
theorem atI_int {ns : List Int} {i : Int} {x : Int} (h : atI ns i = some x) : atI (ns.map V.int) i = some (.int x) := by
  unfold atI at h ⊢
  rw [List.length_map]
  cases e : ixN ns.length i with
  | none => rw [e] at h; cases h
  | some j =>
    rw [e] at h
    show (ns.map V.int)[j]? = some (.int x)
    replace h : ns[j]? = some x := h
    rw [List.getElem?_map, h]
    rfl
theorem ix0 {n : Nat} (h : 0 < n) : ixN n 0 = some 0 := by
  unfold ixN
  rw [if_pos (Int.le_refl 0), if_pos (by omega)]
  rfl
theorem at0 {x : V} {xs : List V} : atI (x :: xs) 0 = some x := atI_nat (j := 0) (v := x) rfl
theorem pick_pure {vs : List V} {H : Hp} {Q : VK} {E : XK} (h : spPick vs H Q E) : t_pick K { nx := fun _ H' => Q .non H', rt := Q } (L2.start ["pool", "many", "place"] vs) H := by
  obtain ⟨p, n, ns, rfl, hH, ⟨hl1, hl2, c, hc, c1, c2⟩, hn, hQ⟩ := h
  cases ns with
  | nil => cases hc
  | cons c' tl =>
    obtain rfl : c' = c := Option.some.inj hc
    have hx : ∀ (d : Int) (H : Hp), H p = some (.lst ((d :: tl).map V.int)) → 0 ≤ d → True := fun _ _ _ _ => trivial
    -- the item drawn: place c' of the list with another head
    have fin : ∀ (d : Int) (H' : Hp), H' = upd H p (.lst ((d :: tl).map V.int)) → PoolOk (d :: tl) →
        (tRet (tOp (rI (fun _ j => 0 < j) fun i j => V.int (i % j))
            (tCB (fun xs H Q => (∃ i, xs = [V.int i] ∧ Q (V.int i) H) ∨ ∃ k, xs = [V.bl k] ∧ Q (V.int (if k = true then 1 else 0)) H)
              (tCons (tOp (rIxL K) (tVar 0) (tVar 2)) tNil))
            (tVar 1))) { nx := fun _ H' => Q .non H', rt := Q } [some (.ref p), some (.int n), some (.int c')] H' := by
      intro d H' hH' ok
      subst hH'
      have hlen : c' < ((d :: tl).length : Int) := c2
      obtain ⟨x, hx, _⟩ := atI_in (xs := d :: tl) (i := c') (by omega) hlen
      refine ⟨_, rfl, _, rfl, p, (d :: tl).map V.int, c', .int x, rfl, rfl, SqL.of upd_same, atI_int hx, .inl ⟨x, rfl, _, rfl, x, n, rfl, rfl, hn, ?_⟩⟩
      exact hQ _ (d :: tl) (Int.emod_nonneg _ (by omega)) (Int.emod_lt_of_pos _ hn) ok
    refine ⟨_, rfl, p, _, 0, .int c', rfl, rfl, SqL.of hH, at0, ?_⟩
    refine ⟨_, rfl, c', 1, rfl, rfl, ?_⟩
    refine ⟨_, rfl, p, _, 0, 0, rfl, rfl, hH, ix0 (by rw [List.length_map]; exact Nat.succ_pos _), ?_⟩
    have e1 : upd H p (.lst (((c' :: tl).map V.int).set 0 (.int (c' + 1)))) = upd H p (.lst (((c' + 1) :: tl).map V.int)) := rfl
    refine ⟨_, rfl, p, _, 0, .int (c' + 1), rfl, rfl, SqL.of upd_same, at0, ?_⟩
    refine ⟨_, rfl, .ref p, (((c' + 1) :: tl).map V.int).length, rfl, .inl ⟨_, SqL.of upd_same, rfl⟩, ?_⟩
    refine ⟨rfl, _, rfl, ?_⟩
    have hm : (((c' + 1) :: tl).map V.int).length = tl.length + 1 := by rw [List.length_map]; rfl
    have hd : decide (V.int (c' + 1) = V.int ((((c' + 1) :: tl).map V.int).length : Nat)) = decide (c' + 1 = ((tl.length + 1 : Nat) : Int)) := by
      rw [hm]
      by_cases q : c' + 1 = ((tl.length + 1 : Nat) : Int)
      · rw [decide_eq_true q, decide_eq_true (by rw [q])]
      · rw [decide_eq_false q, decide_eq_false (fun z => q (V.int.inj z))]
    show (if decide (V.int (c' + 1) = V.int ((((c' + 1) :: tl).map V.int).length : Nat)) = true then _ else _)
    rw [hd]
    have hl : (((c' :: tl).length : Nat) : Int) = ((tl.length + 1 : Nat) : Int) := rfl
    by_cases q : c' + 1 = ((tl.length + 1 : Nat) : Int)
    · rw [if_pos (decide_eq_true q)]
      refine ⟨_, rfl, p, _, 0, 0, rfl, rfl, upd_same, ix0 (by rw [List.length_set, List.length_map]; exact Nat.succ_pos _), ?_⟩
      refine fin 1 _ ?_ ⟨hl1, hl2, 1, rfl, by decide, by show (1 : Int) < ((tl.length + 1 : Nat) : Int); replace hl1 : 2 ≤ tl.length + 1 := hl1; omega⟩
      rw [upd_upd]
      rfl
    · rw [if_neg (by rw [decide_eq_false q]; exact Bool.false_ne_true)]
      refine fin (c' + 1) _ rfl ⟨hl1, hl2, c' + 1, rfl, by omega, by show c' + 1 < ((tl.length + 1 : Nat) : Int); rw [hl] at c2; omega⟩
end
end PL

set_option Elab.async false
set_option linter.all false
set_option autoImplicit false
set_option maxRecDepth 100000
set_option maxHeartbeats 2000000
/-! The head: what is looked at; the law's end. -/
namespace PL
open PySem PySem.Spec PyProof.Rows L2
def excB (K : PySem.W.Frag) (a : Addr) : Bool :=
  He.eqO (PySem.W.findIn K (.ref a) "__getattribute__") (some (some (.builtin "BaseException.__getattribute__"))) &&
  (He.eqO (PySem.W.findIn K (.ref a) "__getattr__") (some none) && (decide (PySem.W.subIn K (.ref a) (.type "BaseException") = some true) &&
  (PySem.W.hasDictIn K a && (He.eqO (PySem.W.findIn K (.ref a) "__class__") (some (some (.builtin "object.__class__"))) &&
  (He.eqO (PySem.W.specialIn K (.builtin "object.__class__") "__get__") (some (some (.builtin "getset_descriptor.__get__"))) &&
  (decide (PySem.W.takesIn K (.builtin "object.__class__") = some true) && decide (PySem.W.mroIn K a (.type "object") = some true)))))))
theorem excB_ok {K : PySem.W.Frag} {a : Addr} (h : excB K a = true) : ExcC K a := by
  obtain ⟨h1, h⟩ := He.ba h
  obtain ⟨h2, h⟩ := He.ba h
  obtain ⟨h3, h⟩ := He.ba h
  obtain ⟨h4, h⟩ := He.ba h
  obtain ⟨h5, h⟩ := He.ba h
  obtain ⟨h6, h⟩ := He.ba h
  obtain ⟨h7, h8⟩ := He.ba h
  exact ⟨He.eqO_ok h1, He.eqO_ok h2, of_decide_eq_true h3, h4, He.eqO_ok h5, He.eqO_ok h6, of_decide_eq_true h7, of_decide_eq_true h8⟩
def exB (cs : List Nat) (K : PySem.W.Frag) : Bool := cs.all fun c =>
  PySem.W.excIn K (exA K c) exBase "Exception.__new__" && (PySem.W.keepIn K (.ref (exA K c)) && (decide (PySem.W.subIn K (.ref (exA K c)) (.type "BaseException") = some true) &&
  (decide (PySem.W.typeIn K (.ref (exA K c)) = some (.type "type")) && (excB K (exA K c) && (decide (PySem.W.exmOne K (.ref (exA K c)) (.ref (exA K 0)) = some true) &&
  cs.all fun t => decide (PySem.W.kitOne K (.ref (exA K c)) (.ref (exA K t)) = some (exSub c t)))))))
structure ExF (K : PySem.W.Frag) (c : Nat) : Prop where
  x : PySem.W.excIn K (exA K c) exBase "Exception.__new__" = true
  k : PySem.W.keepIn K (.ref (exA K c)) = true
  s : PySem.W.subIn K (.ref (exA K c)) (.type "BaseException") = some true
  t : PySem.W.typeIn K (.ref (exA K c)) = some (.type "type")
theorem exB_at {cs : List Nat} {K : PySem.W.Frag} (h : exB cs K = true) {c : Nat} (hc : c ∈ cs) : ExF K c ∧ ExcC K (exA K c) ∧ PySem.W.exmOne K (.ref (exA K c)) (.ref (exA K 0)) = some true ∧ ∀ t ∈ cs, PySem.W.kitOne K (.ref (exA K c)) (.ref (exA K t)) = some (exSub c t) := by
  have h := List.all_eq_true.mp h c hc
  obtain ⟨h1, h⟩ := He.ba h
  obtain ⟨h2, h⟩ := He.ba h
  obtain ⟨h3, h⟩ := He.ba h
  obtain ⟨h4, h⟩ := He.ba h
  obtain ⟨h5, h⟩ := He.ba h
  obtain ⟨h6, h7⟩ := He.ba h
  exact ⟨⟨h1, h2, of_decide_eq_true h3, of_decide_eq_true h4⟩, excB_ok h5, of_decide_eq_true h6, fun t ht => of_decide_eq_true (List.all_eq_true.mp h7 t ht)⟩
theorem exB_k {cs : List Nat} {K : PySem.W.Frag} (h : exB cs K = true) : ExK K cs :=
  ⟨fun c hc => (exB_at h hc).2.2.1, fun c hc => (exB_at h hc).2.2.2, fun c hc => (exB_at h hc).2.1⟩
/-- the law's end -/
theorem walk_ofP {l : PySem.W.OpenLaw} {k : Nat} {q : Program} {loose : List Str} {XP : (Str → Option Value) → Heap → Prop} {YP : World → Heap → Prop} {d : DefRec}
    (hn : l.most = some 63) (hdf : d.params.defaults = []) (hr : Room k callerA)
    (F : ∀ (w : World) (mg : Str → Option Value) (h : Heap), YP w h → h.Ns mainGlobals mg →
      ∃ (K : PySem.W.Frag), K.In h ∧ mg d.name = some (.ref (He.ga K "law")) ∧ ∀ base : Heap, CallOk l.prog w K mg base k "law" ["script"] φLaw) :
    PySem.W.WalkO q loose XP YP l.row.toRowW d [] (fun f vs => PySem.call f vs) := by
  refine Att.attach_call hn hdf fun w s₀ s₁ mg mb fa o pm cd doc a vs ns G Y ho hd hcd hmg hobj hints hlen hg => ?_
  obtain ⟨K, KX, gl, hF⟩ := F w mg _ Y G.T.g
  obtain rfl : fa = He.ga K "law" := by
    have e := hmg.symm.trans gl
    cases e
    rfl
  obtain ⟨fd, _, lk, hb⟩ := (hF s₁.heap).fn
  have hF2 : ∀ base : Heap, K.In base → base.Ns mainGlobals mg → FnOk l.prog w K mg base (L2.CX l.prog w) k (He.ga K "law") fd ["script"] (pSp K φLaw) := fun base _ _ => by
    obtain ⟨fd', F', lk', _⟩ := (hF base).fn
    obtain ⟨_, _, _, e1⟩ := lk
    obtain ⟨_, _, _, e2⟩ := lk'
    rw [e1] at e2
    cases e2
    exact F'
  exact law_call KX G.T.g G.T.b G.T.builtins G.T.nolimit hg hobj hints (Nat.le_trans hlen (by rw [sizeLine_eq]; decide)) hr hF2 (fun s u => hb s [u] rfl) (fun H hO hS => law_sp hlen hO hS) fun H e s' h => cx_never h
theorem CallOk.stream {P : Program} {w : World} {K : PySem.W.Frag} {mg : Str → Option Value} {base : Heap} {k : Nat} {x : Str} {ps : List Str} (h : CallOk P w K mg base k x ps φList) : CallOk P w K mg base k x ps φStream := by
  obtain ⟨⟨fd, F, lk, b⟩, kp, gl⟩ := h
  exact ⟨⟨fd, stream_close F, lk, b⟩, kp, gl⟩
end PL

set_option Elab.async false
set_option linter.all false
set_option autoImplicit false
set_option maxRecDepth 100000
set_option maxHeartbeats 2000000
/-! Texts: order, slices, walks, times; in; turned lists. -/
namespace PL
open PySem PySem.Spec PyProof.Rows L2
open Evl (Ex)
section
variable {X : Cx} {W : WX} {Ξ : Xi} {tg a b : Expr} {pos p : Pos}
/-- x in the order of texts -/
def ltS (x y : Str) : Bool := decide (x.cps.toList < y.cps.toList)
theorem op_le_str : OpR X (compareOp .LtE) (fun x y H Q => ∃ i j, x = .str i ∧ y = .str j ∧ Q (.bl (!ltS j i)) H) := by
  intro pins s σ H x y v u Q I rx ry h
  obtain ⟨i, j, rfl, rfl, q⟩ := h
  obtain ⟨t, rfl⟩ := rx
  obtain ⟨t', rfl⟩ := ry
  exact PySem.P.le_str (fin_bl I q rfl)
def oLeA : OP2
  | .int i, .int j, Q => Q (.bl (decide (i ≤ j)))
  | .str x, .str y, Q => Q (.bl (!ltS y x))
  | _, _, _ => False
theorem oy_leA : OpY X (compareOp .LtE) oLeA := by
  refine ⟨_, op_le.or op_le_str, fun F Hs σ H ε v w d1 d2 Q' Q R r1 r2 q k => ?_⟩
  unfold oLeA at q
  split at q
  · exact .inl ⟨_, _, r1.int', r2.int', k _ H Hs _ (Evl.Ex.refl _) R (.bl _) q⟩
  · exact .inr ⟨_, _, r1.str', r2.str', k _ H Hs _ (Evl.Ex.refl _) R (.bl _) q⟩
  · exact q.elim
/-- ord -/
def oOrd : OPC
  | [.str x], Q => gd (x.length = 1) (Q (.int (x.cps.getD 0 0 : Nat)))
  | _, _ => False
theorem cy_ord : CallY X (.builtin "ord") oOrd := by
  refine ⟨_, call_ord, fun F Hs σ H ε vs ds Q' Q R r q k => ?_⟩
  unfold oOrd at q
  split at q
  · obtain ⟨v, rfl, rv⟩ := r.one
    have q := gd_elim q
    exact ⟨_, by rw [rv.str'], q.1, k _ H Hs _ (Evl.Ex.refl _) R (.int _) q.2⟩
  · exact q.elim
/-- the signs of a text -/
def signsD (x : Str) : List D := x.cps.toList.map fun c => D.str ⟨#[c]⟩
theorem signsD_len {x : Str} : (signsD x).length = x.cps.size := by unfold signsD; rw [List.length_map, Array.length_toList]
theorem seqs_str {K : PySem.W.Frag} {Hs : Hp} {x : Str} : Seqs K Hs (Its x) (signsD x) where
  go := fun i H e hi => by rw [signsD_len] at hi; exact hi
  stop := fun i H e hi => by rw [signsD_len] at hi; exact hi
  yld := fun i F Hc σ H ε z H' e R hi y => by
    rw [signsD_len] at hi
    obtain ⟨rfl, c, hc, rfl⟩ := y
    refine ⟨Hc, .str ⟨#[c]⟩, Evl.Ex.refl _, R, ?_, .str _⟩
    unfold signsD
    rw [List.getElem?_map, Array.getElem?_toList, hc] <;> rfl
def asS (Q : Str → Prop) : D → Prop
  | .str x => Q x
  | _ => False
theorem asS_elim {d : D} {Q : Str → Prop} (h : asS Q d) : ∃ x, d = .str x ∧ Q x := by
  cases d with
  | str x => exact ⟨x, rfl, h⟩
  | _ => exact h.elim
/-- for sign in a text -/
def yiStr (r : PTE) : PTN := fun ε Q => r ε fun t ε' => res ε' t (asS fun x => Q (signsD x) ε')
theorem yi_str {r : PTE} (h : YE X W Ξ a r) : YI X W Ξ tg a (yiStr r) := by
  obtain ⟨t, p, k⟩ := h.ex
  refine ⟨_, pi_str p, fun F Hs σ H ε Q' R' R L q kk => k F Hs σ H ε _ _ R L q fun v H1 Hs1 t ε1 e1 R1 p1 q1 => ?_⟩
  obtain ⟨d, rv, q2⟩ := R1.res p1 q1
  obtain ⟨x, rfl, q2⟩ := asS_elim q2
  exact ⟨x, rv.str', kk _ H1 Hs1 _ ε1 e1 R1 seqs_str q2⟩
/-- x[a:b], a text -/
def ySlS (ra : PTE) (rl rh : PTO) : PTE := fun ε Q => ra ε fun t ε1 => rl ε1 fun lo ε2 => rh ε2 fun hi ε3 => res ε3 t (asS fun x => gd (x.length ≤ 16777216) (Q (.d (.str (cutS x lo hi))) ε3))
theorem ye_slS {lo hi : Option Expr} {p2 : Pos} {ra : PTE} {rl rh : PTO} (ha : YE X W Ξ a ra) (hl : YO X W Ξ lo rl) (hh : YO X W Ξ hi rh) : YE X W Ξ (.Subscript a (.Slice lo hi none p2) pos) (ySlS ra rl rh) := by
  obtain ⟨ta, pa, ka⟩ := ha.ex
  obtain ⟨tl, pl, kl⟩ := hl.ex
  obtain ⟨th, ph, kh⟩ := hh.ex
  refine ⟨_, pe_slice sl_str pa pl ph, fun F Hs σ H ε Q' Q R L q k => ?_⟩
  refine ka F Hs σ H ε _ _ R L q fun v H1 Hs1 t1 ε1 e1 R1 p1 q1 => ?_
  refine kl F Hs1 σ H1 ε1 _ _ R1 (L.mono e1) q1 fun l H2 Hs2 ε2 e2 R2 q2 => ?_
  refine kh F Hs2 σ H2 ε2 _ _ R2 (L.mono (e1.trans e2)) q2 fun h H3 Hs3 ε3 e3 R3 q3 => ?_
  obtain ⟨d, v1, q4⟩ := R3.res (p1.mono (e2.trans e3)) q3
  obtain ⟨x, rfl, q4⟩ := asS_elim q4
  have q4 := gd_elim q4
  exact ⟨x, v1.str', line_le q4.1, k _ H3 Hs3 _ ε3 ((e1.trans e2).trans e3) R3 (show RepT X.K Hs3 σ (.str (cutS x l h)) (.d (.str (cutS x l h))) from Rep.str _) q4.2⟩
/-- xs[::-1], a list -/
def ynRev (ra : PTE) : PTN := fun ε Q => ra ε fun t ε1 => res ε1 t (asL fun xs => Q xs.reverse ε1)
theorem Reps.rev {K : PySem.W.Frag} {H : Hp} : ∀ {vs : List V} {ds : List D}, Reps K H vs ds → Reps K H vs.reverse ds.reverse
  | _, _, .nil => .nil
  | _, _, .cons h t => by
    rw [List.reverse_cons, List.reverse_cons]
    exact (Reps.rev t).append (.cons h .nil)
theorem yn_rev {k : Nat} {p1 p2 p3 : Pos} {ra : PTE} (ha : YE X W Ξ a ra) : YN X W Ξ (.Subscript a (.Slice none none (some (.UnaryOp .USub (.Constant (.int 1) k p1) p2)) p3) pos) (ynRev ra) := by
  obtain ⟨ta, pa, ka⟩ := ha.ex
  refine ⟨_, pe_revL pa, fun F Hs σ H ε Q' Q R L q k => ?_⟩
  refine ka F Hs σ H ε _ _ R L q fun v H1 Hs1 t1 ε1 e1 R1 p1 q1 => ?_
  obtain ⟨d, v1, q4⟩ := R1.res p1 q1
  obtain ⟨xs, rfl, q4⟩ := asL_elim q4
  obtain ⟨a, vs, g1, h1, p1⟩ := v1.lst' R1.ex
  refine ⟨a, vs, g1, SqL.of h1, fun p hp => ?_⟩
  obtain ⟨n1, n2, n3⟩ := R1.nobody hp
  exact k p _ Hs1 _ _ ε1 e1 (R1.lay hp) upd_same n1 n2 n3 p1.rev q4
/-- text times a number -/
def repS (x : Str) (n : Nat) : Str := ⟨(List.replicate n x.cps.toList).flatten.toArray⟩
theorem foldl_repA (l : List Nat) : ∀ (n : Nat) (acc : Array Nat), (List.replicate n l.toArray).foldl (· ++ ·) acc = acc ++ (List.replicate n l).flatten.toArray
  | 0, acc => by simp
  | n + 1, acc => by
    rw [List.replicate_succ, List.foldl_cons, foldl_repA l n, List.replicate_succ, List.flatten_cons]
    simp
theorem repS_len {x : Str} {n : Nat} : (repS x n).length = x.length * n := by
  show ((List.replicate n x.cps.toList).flatten.toArray).size = x.cps.size * n
  rw [List.size_toArray, List.length_flatten, List.map_replicate, List.sum_replicate_nat, Array.length_toList, Nat.mul_comm]
theorem op_mul_str : OpR X (binaryOp .Mult) (fun x y H Q => ∃ z n, x = .str z ∧ y = .int n ∧ -(2 ^ 63) ≤ n ∧ n < 2 ^ 63 ∧ z.length * n.toNat ≤ sizeLine ∧ Q (.str (repS z n.toNat)) H) := by
  intro pins s σ H x y v u Q I rx ry h
  obtain ⟨z, n, rfl, rfl, h1, h2, hz, q⟩ := h
  obtain ⟨t, rfl⟩ := rx
  obtain ⟨t', rfl⟩ := ry
  have hs : sizeLine = 16777216 := sizeLine_eq
  have big : ¬ n < 1 → ((z.length : Int) * n ≤ 16777216) := fun h0 => by
    have e : n = ((n.toNat : Nat) : Int) := by omega
    rw [e]
    have : ((z.length * n.toNat : Nat) : Int) ≤ 16777216 := by omega
    rw [Int.natCast_mul] at this
    exact this
  refine PySem.P.mul_str ?_ (fun h0 _ => ?_) (fun h0 _ => ?_) ?_
  · rw [decide_eq_false (by omega), decide_eq_false (by omega)]
    rfl
  · have := big h0
    have hn : 0 < n := by omega
    have h3 : (z.length : Int) ≤ (2 ^ 63 - 1) / n := (Int.le_ediv_iff_mul_le hn).mpr (Int.le_trans this (by decide))
    omega
  · show decide (z.length * n.toNat > sizeLine) = false
    exact decide_eq_false (by omega)
  · by_cases h0 : n < 1
    · rw [if_pos h0]
      have e : repS z n.toNat = Str.empty := by
        have : n.toNat = 0 := by omega
        rw [this]
        rfl
      rw [e] at q
      exact ⟨by decide, .str Str.empty, H, I.tok _, ⟨_, rfl⟩, q⟩
    · rw [if_neg h0]
      by_cases h4 : (n == 1 || z.length == 0) = true
      · rw [if_pos h4]
        have e : repS z n.toNat = z := by
          rcases Bool.or_eq_true_iff.mp h4 with h5 | h5
          · have : n = 1 := by simpa using h5
            subst this
            obtain ⟨z⟩ := z
            show (⟨([z.toList].flatten).toArray⟩ : Str) = ⟨z⟩
            simp
          · have h6 : z.length = 0 := by simpa using h5
            obtain ⟨z⟩ := z
            have h7 : z = #[] := Array.eq_empty_of_size_eq_zero h6
            subst h7
            show (⟨((List.replicate n.toNat []).flatten).toArray⟩ : Str) = ⟨#[]⟩
            simp
        rw [e] at q
        exact ⟨.str z, H, I, ⟨_, rfl⟩, q⟩
      · rw [if_neg h4]
        have e : (⟨(List.replicate n.toNat z.cps).foldl (· ++ ·) #[]⟩ : Str) = repS z n.toNat := by
          have := foldl_repA z.cps.toList n.toNat #[]
          rw [Array.toArray_toList] at this
          rw [this]
          simp [repS]
        rw [e]
        exact ⟨by rw [repS_len]; exact hz, .str (repS z n.toNat), H, I.tok _, ⟨_, rfl⟩, q⟩
def oMulA : OP2
  | .int i, .int j, Q => gd ((-18446744073709551616 < i ∧ i < 18446744073709551616) ∨ (-18446744073709551616 < j ∧ j < 18446744073709551616)) (Q (.int (i * j)))
  | .lst xs, .int k, Q => gd (smallB k = true ∧ xs.length * k.toNat ≤ 16777216) (Q (.lst (List.replicate k.toNat xs).flatten))
  | .str x, .int k, Q => gd (smallB k = true ∧ x.length * k.toNat ≤ 16777216) (Q (.str (repS x k.toNat)))
  | _, _, _ => False
theorem oy_mulA : OpY X (binaryOp .Mult) oMulA := by
  refine ⟨_, op_mul.or (op_rep.or op_mul_str), fun F Hs σ H ε v w d1 d2 Q' Q R r1 r2 q k => ?_⟩
  unfold oMulA at q
  split at q
  · have q := gd_elim q
    refine .inl ⟨_, _, r1.int', r2.int', ?_, k _ H Hs _ (Evl.Ex.refl _) R (.int _) q.2⟩
    exact q.1
  · have q := gd_elim q
    obtain ⟨a, vs, e1, h1, p1⟩ := r1.lst' R.ex
    obtain ⟨s1, s2⟩ := small_of q.1.1
    refine .inr (.inl ⟨a, _, vs, e1, r2.int', h1, by omega, by omega, by rw [p1.len]; exact line_le q.1.2, fun p hp => ?_⟩)
    obtain ⟨R3, e3⟩ := R.new (o := .lst (List.replicate (Int.toNat _) vs).flatten) hp
    exact k (.ref p) _ _ _ e3 R3 (.lst upd_same ((p1.rep _).mono e3)) q.2
  · have q := gd_elim q
    obtain ⟨s1, s2⟩ := small_of q.1.1
    exact .inr (.inr ⟨_, _, r1.str', r2.int', by omega, by omega, line_le q.1.2, k _ H Hs _ (Evl.Ex.refl _) R (.str _) q.2⟩)
  · exact q.elim
/-! ### in a list, a tuple of flat items -/
def flatD : D → Bool
  | .non => true
  | .bl _ => true
  | .int _ => true
  | .str _ => true
  | _ => false
def eqF : D → D → Bool
  | .non, .non => true
  | .bl a, .bl b => a == b
  | .bl a, .int b => (if a then 1 else 0) == b
  | .int a, .bl b => a == (if b then 1 else 0)
  | .int a, .int b => a == b
  | .str a, .str b => a == b
  | _, _ => false
def inF (x : D) (ys : List D) : Bool := ys.any fun y => eqF y x
def flatAll : List D → Bool
  | [] => true
  | d :: ds => match flatD d with
    | true => flatAll ds
    | false => false
def oIn (neg : Bool) : OP2 := fun x y Q => match y with
  | .lst ys => gd (flatD x = true ∧ flatAll ys = true) (Q (.bl (match neg with | true => !inF x ys | false => inF x ys)))
  | .tup ys => gd (flatD x = true ∧ flatAll ys = true) (Q (.bl (match neg with | true => !inF x ys | false => inF x ys)))
  | _ => False
theorem flat_rep {K : PySem.W.Frag} {H : Hp} {v : V} {d : D} (r : Rep K H v d) (f : flatD d = true) : flatV v = true ∧ ∀ w e, Rep K H w e → flatD e = true → eqV v w = eqF d e := by
  cases r <;> first
    | (cases f; done)
    | (refine ⟨rfl, fun w e r2 f2 => ?_⟩
       cases r2 <;> first | (cases f2; done) | rfl)
theorem flat_all {K : PySem.W.Frag} {H : Hp} : ∀ {vs : List V} {ds : List D}, Reps K H vs ds → flatAll ds = true → vs.all flatV = true ∧ ∀ w e, Rep K H w e → flatD e = true → inV w vs = inF e ds
  | _, _, .nil, _ => ⟨rfl, fun _ _ _ _ => rfl⟩
  | _, _, .cons (d := d) (ds := ds) h t, f => by
    have f1 : flatD d = true ∧ flatAll ds = true := by
      unfold flatAll at f
      split at f
      · rename_i e
        exact ⟨e, f⟩
      · cases f
    obtain ⟨a1, a2⟩ := flat_rep h f1.1
    obtain ⟨b1, b2⟩ := flat_all t f1.2
    refine ⟨by rw [List.all_cons, a1, b1]; rfl, fun w e r2 f2 => ?_⟩
    show ((_ :: _ : List V).any _) = ((_ :: _ : List D).any _)
    rw [List.any_cons, List.any_cons, a2 w e r2 f2]
    have := b2 w e r2 f2
    unfold inV inF at this
    rw [this]
theorem oy_in_core {neg : Bool} {op : CmpOp} (h : OpR X (compareOp op) (rIn X.K neg)) : OpY X (compareOp op) (oIn neg) := by
  refine ⟨_, h, fun F Hs σ H ε v w d1 d2 Q' Q R r1 r2 q k => ?_⟩
  unfold oIn at q
  split at q
  · have q := gd_elim q
    obtain ⟨a, vs, e1, h1, p1⟩ := r2.lst' R.ex
    have r1' : Rep X.K Hs v d1 := by
      cases d1 <;> first | (cases q.1.1; done) | (first | (rw [r1.int']; exact .int _) | (rw [r1.str']; exact .str _) | (rw [r1.bl']; exact .bl _) | (rw [r1.non']; exact .non))
    obtain ⟨g1, g2⟩ := flat_all p1 q.1.2
    obtain ⟨g3, _⟩ := flat_rep r1' q.1.1
    refine ⟨a, vs, e1, .inl (SqL.of h1), g3, g1, ?_⟩
    rw [g2 v d1 r1' q.1.1]
    cases neg
    · exact k _ H Hs _ (Evl.Ex.refl _) R (.bl _) q.2
    · exact k _ H Hs _ (Evl.Ex.refl _) R (.bl _) q.2
  · have q := gd_elim q
    obtain ⟨a, vs, e1, h1, p1⟩ := r2.tup' R.ex
    have r1' : Rep X.K Hs v d1 := by
      cases d1 <;> first | (cases q.1.1; done) | (first | (rw [r1.int']; exact .int _) | (rw [r1.str']; exact .str _) | (rw [r1.bl']; exact .bl _) | (rw [r1.non']; exact .non))
    obtain ⟨g1, g2⟩ := flat_all p1 q.1.2
    obtain ⟨g3, _⟩ := flat_rep r1' q.1.1
    refine ⟨a, vs, e1, .inr h1, g3, g1, ?_⟩
    rw [g2 v d1 r1' q.1.1]
    cases neg
    · exact k _ H Hs _ (Evl.Ex.refl _) R (.bl _) q.2
    · exact k _ H Hs _ (Evl.Ex.refl _) R (.bl _) q.2
  · exact q.elim
theorem oy_in : OpY X (compareOp .In) (oIn false) := oy_in_core op_in_seq
theorem oy_notin : OpY X (compareOp .NotIn) (oIn true) := oy_in_core op_notIn_seq
/-! ### a, b, c = x, y, z: data -/
def ysPar3 (i j l : Nat) (rs : PTL) : PTS := fun Δ ε => rs ε fun ts ε1 => outs ε1 ts fun ds ε2 => match ds with
  | [d1, d2, d3] => Δ.nx (((ε2.set i (some (.v d1))).set j (some (.v d2))).set l (some (.v d3)))
  | _ => False
theorem ys_par3 (i j l : Nat) {x y z : Str} {a b c : Expr} {rs : PTL} {px py pz pt : Pos} {kt k2 : Nat} {pt2 : Pos} (hc : X.calm = true) (hN : X.N.Nodup) (hi : X.N[i]? = some x) (hj : X.N[j]? = some y) (hl : X.N[l]? = some z) (hij : i ≠ j) (hil : i ≠ l) (hjl : j ≠ l)
    (hx : X.env.scope.names.lookup x = some .local) (hy : X.env.scope.names.lookup y = some .local) (hz : X.env.scope.names.lookup z = some .local) (ha : YL X W Ξ [a, b, c] rs)
    (hw : swappedStores [.Tuple [.Name x px, .Name y py, .Name z pz] kt pt] (.Tuple [a, b, c] k2 pt2) X.env = pure (some [x, y, z]) := by rfl)
    (hs : swapsWithSole [.Tuple [.Name x px, .Name y py, .Name z pz] kt pt] (.Tuple [a, b, c] k2 pt2) pos.line X.env = pure false := by rfl) :
    YS X W Ξ (.Assign [.Tuple [.Name x px, .Name y py, .Name z pz] kt pt] (.Tuple [a, b, c] k2 pt2) pos) (ysPar3 i j l rs) := by
  obtain ⟨ta, pa, ka⟩ := ha.ex
  refine ⟨_, ps_par3 hc hN hi hj hl hij hil hjl hx hy hz pa hw hs, fun F Hs σ H ε Δ Dd R L q kk => ?_⟩
  refine ka F Hs σ H ε _ _ R L q fun vs H1 Hs1 ts ε1 e1 R1 p1 q1 => ?_
  obtain ⟨ds, ε2, Hs2, e2, R2, rv, q2⟩ := R1.outs p1 q1
  split at q2
  · cases rv with
    | cons r1 rv =>
      cases rv with
      | cons r2 rv =>
        cases rv with
        | cons r3 rv =>
          cases rv
          exact ⟨_, _, _, rfl, kk.nx _ H1 Hs2 _ (e1.trans e2) (((R2.store r1 i).store r2 j).store r3 l) q2⟩
  · exact q2.elim
end
end PL

set_option Elab.async false
set_option linter.all false
set_option autoImplicit false
set_option maxRecDepth 100000
set_option maxHeartbeats 1000000
/-! Texts as lists of signs; what two lists have alike; [f(x) for x in xs]. -/
namespace PL
open PySem PySem.Spec PyProof.Rows L2
/-- a text of signs -/
abbrev S0 (l : List Nat) : Str := ⟨⟨l⟩⟩
theorem str_eta (x : Str) : x = S0 x.cps.toList := rfl
theorem dec_sign {c d : Nat} : decide (S0 [c] = S0 [d]) = decide (c = d) := by
  by_cases h : c = d
  · subst h; rw [decide_eq_true rfl, decide_eq_true rfl]
  · rw [decide_eq_false h, decide_eq_false]
    intro z
    apply h
    have := congrArg (fun s : Str => s.cps.toList) z
    simpa using this
theorem lt_sign {c d : Nat} : ltS (S0 [c]) (S0 [d]) = decide (c < d) := by
  unfold ltS
  show decide ([c] < [d]) = decide (c < d)
  have e : [c] < [d] ↔ c < d := by
    rw [List.cons_lt_cons_iff]
    simp
  by_cases h : c < d
  · rw [decide_eq_true h, decide_eq_true (e.mpr h)]
  · rw [decide_eq_false h, decide_eq_false (fun z => h (e.mp z))]
theorem sIx_in {n d : Nat} {i : Int} (h0 : 0 ≤ i) (h1 : i ≤ n) : HT.sIx n d (some i) = i.toNat := by
  obtain ⟨j, rfl⟩ := Int.eq_ofNat_of_zero_le h0
  rw [HT.sIx_nat, Int.toNat_natCast]
  omega
theorem cut_from {l : List Nat} {i : Int} (h0 : 0 ≤ i) (h1 : i ≤ l.length) : cutS (S0 l) (some i) none = S0 (l.drop i.toNat) := by
  unfold cutS
  show (⟨((l.drop (HT.sIx l.length 0 (some i))).take (l.length - HT.sIx l.length 0 (some i))).toArray⟩ : Str) = _
  rw [sIx_in h0 h1, List.take_of_length_le (by rw [List.length_drop]; omega)]
theorem cut_to {l : List Nat} {i : Int} (h0 : 0 ≤ i) (h1 : i ≤ l.length) : cutS (S0 l) none (some i) = S0 (l.take i.toNat) := by
  unfold cutS
  show (⟨((l.drop 0).take (HT.sIx l.length l.length (some i) - 0)).toArray⟩ : Str) = _
  rw [sIx_in h0 h1]
  rfl
theorem cut_mid {l : List Nat} {i j : Int} (h0 : 0 ≤ i) (h1 : i ≤ j) (h2 : j ≤ l.length) : cutS (S0 l) (some i) (some j) = S0 ((l.drop i.toNat).take (j.toNat - i.toNat)) := by
  unfold cutS
  show (⟨((l.drop (HT.sIx l.length 0 (some i))).take (HT.sIx l.length l.length (some j) - HT.sIx l.length 0 (some i))).toArray⟩ : Str) = _
  rw [sIx_in h0 (by omega), sIx_in (by omega) h2]
/-- how far two lists are alike -/
def cpre : List Nat → List Nat → Nat
  | x :: xs, y :: ys => if x = y then cpre xs ys + 1 else 0
  | _, _ => 0
theorem cpre_le : ∀ xs ys : List Nat, cpre xs ys ≤ xs.length ∧ cpre xs ys ≤ ys.length
  | [], _ => ⟨Nat.zero_le _, Nat.zero_le _⟩
  | _ :: _, [] => ⟨Nat.zero_le _, Nat.zero_le _⟩
  | x :: xs, y :: ys => by
    unfold cpre
    split
    · obtain ⟨h1, h2⟩ := cpre_le xs ys
      exact ⟨Nat.succ_le_succ h1, Nat.succ_le_succ h2⟩
    · exact ⟨Nat.zero_le _, Nat.zero_le _⟩
/-- one more sign alike, or the end of it -/
theorem cpre_at : ∀ {xs ys : List Nat} {n : Nat} {a b : Nat}, n ≤ cpre xs ys → xs[n]? = some a → ys[n]? = some b → (a = b ∧ n + 1 ≤ cpre xs ys) ∨ (a ≠ b ∧ n = cpre xs ys)
  | [], _, n, a, b, _, h, _ => by simp at h
  | _ :: _, [], n, a, b, _, _, h => by simp at h
  | x :: xs, y :: ys, 0, a, b, hn, ha, hb => by
    obtain rfl : x = a := by simpa using ha
    obtain rfl : y = b := by simpa using hb
    unfold cpre
    split
    · rename_i e
      exact .inl ⟨e, by omega⟩
    · rename_i e
      exact .inr ⟨e, rfl⟩
  | x :: xs, y :: ys, n + 1, a, b, hn, ha, hb => by
    unfold cpre at hn ⊢
    split at hn
    · rename_i e
      rw [if_pos e]
      rcases cpre_at (xs := xs) (ys := ys) (n := n) (by omega) (by simpa using ha) (by simpa using hb) with ⟨h1, h2⟩ | ⟨h1, h2⟩
      · exact .inl ⟨h1, by omega⟩
      · exact .inr ⟨h1, by omega⟩
    · omega
theorem cpre_end {xs ys : List Nat} {n : Nat} (h : n ≤ cpre xs ys) (e : n = xs.length ∨ n = ys.length) : n = cpre xs ys := by
  have := cpre_le xs ys
  omega
/-- the sign at a place -/
theorem opt_sign {l : List Nat} {i : Int} {n : Nat} {c : Nat} {Q : Nat → Prop} (hi : i = (n : Int)) (h : l[n]? = some c) (k : Q c) : opt (atI l i) Q := by
  subst hi
  exact opt_of (atI_nat h) k
theorem get_of {l : List Nat} {n : Nat} (h : n < l.length) : ∃ c, l[n]? = some c := ⟨l[n], List.getElem?_eq_getElem h⟩
/-- [f(x) for x in xs] -/
theorem lc_map {g : PTG} {rt : PTT} {re : PTE} {vs : List Nat} {ε1 : PEnv} {Q : List D → PEnv → Prop} {ds : List D} (f : D → D)
    (st : ∀ (i : Nat) (d : D), ds[i]? = some d → ∀ (K : D → Prop) (N : Prop), K (f d) → g d (wipeE ε1 vs) fun ε2 => rt ε2 fun k ε3 => match k with
      | true => re ε3 fun t ε4 => out ε4 t fun y ε5 => wipeE ε5 vs = wipeE ε1 vs ∧ K y
      | false => wipeE ε3 vs = wipeE ε1 vs ∧ N) (fin : Q (ds.map f) ε1) : ∃ Wp : Nat → List D → Prop, Wp 0 [] ∧
  (∀ i d acc, i < ds.length → ds[i]? = some d → acc.length ≤ i → Wp i acc → g d (wipeE ε1 vs) fun ε2 => rt ε2 fun k ε3 => match k with
    | true => re ε3 fun t ε4 => out ε4 t fun y ε5 => wipeE ε5 vs = wipeE ε1 vs ∧ Wp (i + 1) (acc ++ [y])
    | false => wipeE ε3 vs = wipeE ε1 vs ∧ Wp (i + 1) acc) ∧ ∀ acc, acc.length ≤ ds.length → Wp ds.length acc → Q acc ε1 := by
  refine ⟨fun i acc => acc = (ds.take i).map f, rfl, fun i d acc hi hd hl w => ?_, fun acc hl w => ?_⟩
  · refine st i d hd (fun y => acc ++ [y] = (ds.take (i + 1)).map f) (acc = (ds.take (i + 1)).map f) ?_
    subst w
    have hd2 : ds[i] = d := by
      rw [List.getElem?_eq_getElem hi] at hd
      exact Option.some.inj hd
    rw [List.take_succ_eq_append_getElem hi, List.map_append, hd2]
    rfl
  · subst w
    rw [List.take_length]
    exact fin
theorem all_bls {xs : List Bool} {Q : D → Prop} (h : Q (.bl (xs.all id))) : oAll [.lst (xs.map D.bl)] Q := by
  show opt (toBls (xs.map D.bl)) _
  rw [toBls_map]
  exact h
end PL

set_option Elab.async false
set_option linter.all false
set_option autoImplicit false
set_option maxRecDepth 100000
set_option maxHeartbeats 1000000
/-! Small dicts of texts. -/
namespace PL
open PySem PySem.Spec PyProof.Rows L2
open Evl (Ex)
section
variable {X : Cx} {W : WX} {Ξ : Xi} {a b : Expr} {pos : Pos}
/-- {k1: v1, k2: v2}, of texts -/
def yDic2 (k1 v1 k2 v2 : Str) : PTE := fun ε Q => Q (.d (.dic [(.inr k1, .str v1), (.inr k2, .str v2)])) ε
theorem ye_dic2 {k1 v1 k2 v2 : Str} {j1 j2 j3 j4 : Nat} {p1 p2 p3 p4 : Pos} (hne : decide (k1 = k2) = false) : YE X W Ξ (.Dict [some (.Constant (.str k1) j1 p1), some (.Constant (.str k2) j2 p2)] [.Constant (.str v1) j3 p3, .Constant (.str v2) j4 p4] pos) (yDic2 k1 v1 k2 v2) := by
  have hk : k1 ≠ k2 := of_decide_eq_false hne
  refine ⟨_, pe_disp (pps_cons pe_str pe_str (pps_cons pe_str pe_str pps_nil)) rfl rfl (by simp) (by simp), fun F Hs σ H ε Q' Q R L q k => fun p hp => ?_⟩
  refine ⟨upd_same, [(.inr k1, .str v1), (.inr k2, .str v2)], rfl, by simp, ?_⟩
  have em : mergeK ([] : List (Key × V)) [(.inr k1, .str v1), (.inr k2, .str v2)] = [(.inr k1, .str v1), (.inr k2, .str v2)] := by
    show putK (putK ([] : List (Key × V)) (.inr k1) (.str v1)) (.inr k2) (.str v2) = _
    simp [putK, hk]
  rw [em, upd_upd]
  obtain ⟨R3, e3⟩ := R.new (o := .dK [(.inr k1, .str v1), (.inr k2, .str v2)]) hp
  exact k (.ref p) _ _ (.d (.dic [(.inr k1, .str v1), (.inr k2, .str v2)])) ε e3 R3 (show Rep X.K _ _ _ from .dic upd_same rfl (.cons (.str _) (.cons (.str _) .nil))) q
/-- d[x], x a text -/
def dGet : List (Key × D) → Str → Option D
  | [], _ => none
  | (.inr k, d) :: r, x => match decide (k = x) with
    | true => some d
    | false => dGet r x
  | (.inl _, _) :: r, x => dGet r x
theorem dGet_rep {K : PySem.W.Frag} {H : Hp} {x : Str} : ∀ {kvs : List (Key × V)} {ds : List (Key × D)} {d : D}, kvs.map (·.1) = ds.map (·.1) → Reps K H (kvs.map (·.2)) (ds.map (·.2)) → dGet ds x = some d → ∃ v, valV kvs (.inr x) = some v ∧ Rep K H v d
  | [], [], d, _, _, h => by cases h
  | [], _ :: _, _, e, _, _ => by cases e
  | _ :: _, [], _, e, _, _ => by cases e
  | (k, v) :: kvs, (k', d') :: ds, d, e, r, h => by
    rw [List.map_cons, List.map_cons, List.cons.injEq] at e
    obtain ⟨e1, e2⟩ := e
    replace e1 : k = k' := e1
    subst e1
    cases r with
    | cons r1 r2 =>
      cases k with
      | inl i =>
        obtain ⟨w, h1, h2⟩ := dGet_rep e2 r2 (show dGet ds x = some d from h)
        exact ⟨w, by rw [valV_neg (by simp)]; exact h1, h2⟩
      | inr k =>
        have h3 : (match decide (k = x) with | true => some d' | false => dGet ds x) = some d := h
        cases hd : decide (k = x) with
        | true =>
          rw [hd] at h3
          have hk := of_decide_eq_true hd
          subst hk
          cases h3
          exact ⟨v, valV_pos rfl, r1⟩
        | false =>
          rw [hd] at h3
          have hk := of_decide_eq_false hd
          obtain ⟨w, h1, h2⟩ := dGet_rep e2 r2 h3
          exact ⟨w, by rw [valV_neg (by simpa using hk)]; exact h1, h2⟩
def yIxD (ra rb : PTE) : PTE := fun ε Q => ra ε fun t1 ε1 => rb ε1 fun t2 ε2 => res ε2 t1 fun d1 => res ε2 t2 fun d2 => match d1, d2 with
  | .dic ds, .str x => opt (dGet ds x) fun d => Q (.d d) ε2
  | _, _ => False
theorem ye_ixD {ra rb : PTE} (hu : X.A.units + 64 < cLine) (ha : YE X W Ξ a ra) (hb : YE X W Ξ b rb) (hs : NoSl b := by intro _ _; rfl) : YE X W Ξ (.Subscript a b pos) (yIxD ra rb) := by
  obtain ⟨ta, pa, ka⟩ := ha.ex
  obtain ⟨tb, pb, kb⟩ := hb.ex
  refine ⟨_, pe_dget (by omega) pa pb hs, fun F Hs σ H ε Q' Q R L q k => ?_⟩
  refine ka F Hs σ H ε _ _ R L q fun v H1 Hs1 t1 ε1 e1 R1 p1 q1 => ?_
  refine kb F Hs1 σ H1 ε1 _ _ R1 (L.mono e1) q1 fun w H2 Hs2 t2 ε2 e2 R2 p2 q2 => ?_
  obtain ⟨d1, v1, q3⟩ := R2.res (p1.mono e2) q2
  obtain ⟨d2, v2, q4⟩ := R2.res p2 q3
  split at q4
  · obtain ⟨d, hd, q5⟩ := opt_elim q4
    obtain ⟨a, kvs, rfl, g1, g2, g3⟩ := v1.dic' R2.ex
    rw [v2.str']
    obtain ⟨v, h1, h2⟩ := dGet_rep g2 g3 hd
    refine ⟨a, v, rfl, ?_, k v H2 Hs2 (.d d) ε2 (e1.trans e2) R2 h2 q5⟩
    rw [← h1]
    exact DGet.k (k := .inr _) g1
  · exact q4.elim
/-- a, b, c = a new list, y, z -/
def ysPar3N (i j l : Nat) (rn : PTN) (rb rc : PTE) : PTS := fun Δ ε => rn ε fun ds ε1 => rb ε1 fun t2 ε2 => out ε2 t2 fun d2 ε3 => rc ε3 fun t3 ε4 => out ε4 t3 fun d3 ε5 =>
  Δ.nx (((ε5.set i (some (.o ds))).set j (some (.v d2))).set l (some (.v d3)))
theorem ys_par3N (i j l : Nat) {x y z : Str} {a b c : Expr} {rn : PTN} {rb rc : PTE} {px py pz pt : Pos} {kt k2 : Nat} {pt2 : Pos} (hc : X.calm = true) (hN : X.N.Nodup) (hi : X.N[i]? = some x) (hj : X.N[j]? = some y) (hl : X.N[l]? = some z) (hij : i ≠ j) (hil : i ≠ l) (hjl : j ≠ l)
    (hx : X.env.scope.names.lookup x = some .local) (hy : X.env.scope.names.lookup y = some .local) (hz : X.env.scope.names.lookup z = some .local) (ha : YN X W Ξ a rn) (hb : YE X W Ξ b rb) (hcc : YE X W Ξ c rc)
    (hst : starEach [a, b, c] X.env = (false, eval a X.env) :: starEach [b, c] X.env := by rfl) (hst2 : starEach [b, c] X.env = (false, eval b X.env) :: starEach [c] X.env := by rfl) (hst3 : starEach [c] X.env = (false, eval c X.env) :: starEach [] X.env := by rfl)
    (hw : swappedStores [.Tuple [.Name x px, .Name y py, .Name z pz] kt pt] (.Tuple [a, b, c] k2 pt2) X.env = pure (some [x, y, z]) := by rfl)
    (hs : swapsWithSole [.Tuple [.Name x px, .Name y py, .Name z pz] kt pt] (.Tuple [a, b, c] k2 pt2) pos.line X.env = pure false := by rfl) :
    YS X W Ξ (.Assign [.Tuple [.Name x px, .Name y py, .Name z pz] kt pt] (.Tuple [a, b, c] k2 pt2) pos) (ysPar3N i j l rn rb rc) := by
  obtain ⟨ta, pa, ka⟩ := ha.ex
  obtain ⟨tb, pb, kb⟩ := hb.ex
  obtain ⟨tc, pc, kc⟩ := hcc.ex
  refine ⟨_, ps_par3 hc hN hi hj hl hij hil hjl hx hy hz (pa_cons pa (pa_cons pb (pa_cons pc pa_nil hst3) hst2) hst) hw hs, fun F Hs σ H ε Δ Dd R L q kk => ?_⟩
  refine ka F Hs σ H ε _ _ R L q fun p H1 Hs1 vs ds ε1 e1 R1 g1 g2 g3 g4 rs q1 => ?_
  have R1' := R1.lend g1 g2 g4
  have L' : Lk X.K (upd F p (.lst vs)) Hs1 W Ξ := fun c σ' H' Hs' ε' xc e' R' => L c σ' H' Hs' ε' xc (e1.trans e') (R'.back g3).1
  refine kb _ Hs1 σ H1 ε1 _ _ R1' L' q1 fun w2 H2 Hs2 t2 ε2 e2 R2 p2 q2 => ?_
  obtain ⟨d2, ε3, Hs3, e3, R3, r3, q3⟩ := R2.out p2 q2
  refine kc _ Hs3 σ H2 ε3 _ _ R3 (L'.mono (e2.trans e3)) q3 fun w3 H4 Hs4 t3 ε4 e4 R4 p4 q4 => ?_
  obtain ⟨d3, ε5, Hs5, e5, R5, r5, q5⟩ := R4.out p4 q4
  refine ⟨.ref p, w2, w3, rfl, ?_⟩
  obtain ⟨R5', b1, b2, b3⟩ := R5.back g3
  have R6 := storeO_of R5' i b1 b2 g3 b3 (rs.mono (((e2.trans e3).trans e4).trans e5))
  exact kk.nx _ H4 Hs5 _ ((((e1.trans e2).trans e3).trans e4).trans e5) ((R6.store (r3.mono (e4.trans e5)) j).store r5 l) q5
/-- x[a:b], x a tuple -/
def asTp (Q : List D → Prop) : D → Prop
  | .tup xs => Q xs
  | _ => False
theorem asTp_elim {d : D} {Q : List D → Prop} (h : asTp Q d) : ∃ i, d = .tup i ∧ Q i := by
  cases d with
  | tup i => exact ⟨i, rfl, h⟩
  | _ => exact h.elim
def ySlT (ra : PTE) (rl rh : PTO) : PTE := fun ε Q => ra ε fun t ε1 => rl ε1 fun lo ε2 => rh ε2 fun hi ε3 => res ε3 t (asTp fun xs => gd (¬ (HT.sIx xs.length 0 lo = 0 ∧ HT.sIx xs.length xs.length hi = xs.length)) (Q (.d (.tup (cutD xs lo hi))) ε3))
theorem ye_slT {lo hi : Option Expr} {p2 : Pos} {ra : PTE} {rl rh : PTO} (ha : YE X W Ξ a ra) (hl : YO X W Ξ lo rl) (hh : YO X W Ξ hi rh) : YE X W Ξ (.Subscript a (.Slice lo hi none p2) pos) (ySlT ra rl rh) := by
  obtain ⟨ta, pa, ka⟩ := ha.ex
  obtain ⟨tl, pl, kl⟩ := hl.ex
  obtain ⟨th, ph, kh⟩ := hh.ex
  refine ⟨_, pe_slice sl_tup pa pl ph, fun F Hs σ H ε Q' Q R L q k => ?_⟩
  refine ka F Hs σ H ε _ _ R L q fun v H1 Hs1 t1 ε1 e1 R1 p1 q1 => ?_
  refine kl F Hs1 σ H1 ε1 _ _ R1 (L.mono e1) q1 fun l H2 Hs2 ε2 e2 R2 q2 => ?_
  refine kh F Hs2 σ H2 ε2 _ _ R2 (L.mono (e1.trans e2)) q2 fun h H3 Hs3 ε3 e3 R3 q3 => ?_
  obtain ⟨d, v1, q4⟩ := R3.res (p1.mono (e2.trans e3)) q3
  obtain ⟨xs, rfl, q4⟩ := asTp_elim q4
  obtain ⟨a, vs, g1, h1, p1⟩ := v1.tup' R3.ex
  obtain ⟨hn, q5⟩ := gd_elim q4
  refine ⟨a, vs, g1, h1, by rw [p1.len]; exact hn, fun p hp => ?_⟩
  obtain ⟨R4, e4⟩ := R3.new (o := .tup (cutV vs l h)) hp
  exact k (.ref p) _ _ (.d (.tup (cutD _ l h))) ε3 (((e1.trans e2).trans e3).trans e4) R4 (show Rep X.K _ _ (.tup _) from .tup (SqT.of upd_same) ((p1.cut l h).mono e4)) q5
end
/-- [f(x) for x in xs if p(x)] -/
theorem lc_filter {g : PTG} {rt : PTT} {re : PTE} {vs : List Nat} {ε1 : PEnv} {Q : List D → PEnv → Prop} {ds : List D} (f : D → D) (p : D → Bool)
    (st : ∀ (i : Nat) (d : D), ds[i]? = some d → ∀ (K : D → Prop) (N : Prop), (p d = true → K (f d)) → (p d = false → N) → g d (wipeE ε1 vs) fun ε2 => rt ε2 fun k ε3 => match k with
      | true => re ε3 fun t ε4 => out ε4 t fun y ε5 => wipeE ε5 vs = wipeE ε1 vs ∧ K y
      | false => wipeE ε3 vs = wipeE ε1 vs ∧ N) (fin : Q ((ds.filter p).map f) ε1) : ∃ Wp : Nat → List D → Prop, Wp 0 [] ∧
  (∀ i d acc, i < ds.length → ds[i]? = some d → acc.length ≤ i → Wp i acc → g d (wipeE ε1 vs) fun ε2 => rt ε2 fun k ε3 => match k with
    | true => re ε3 fun t ε4 => out ε4 t fun y ε5 => wipeE ε5 vs = wipeE ε1 vs ∧ Wp (i + 1) (acc ++ [y])
    | false => wipeE ε3 vs = wipeE ε1 vs ∧ Wp (i + 1) acc) ∧ ∀ acc, acc.length ≤ ds.length → Wp ds.length acc → Q acc ε1 := by
  refine ⟨fun i acc => acc = ((ds.take i).filter p).map f, rfl, fun i d acc hi hd hl w => ?_, fun acc hl w => ?_⟩
  · have hd2 : ds[i] = d := by
      rw [List.getElem?_eq_getElem hi] at hd
      exact Option.some.inj hd
    have ht : ds.take (i + 1) = ds.take i ++ [d] := by rw [List.take_succ_eq_append_getElem hi, hd2]
    refine st i d hd (fun y => acc ++ [y] = ((ds.take (i + 1)).filter p).map f) (acc = ((ds.take (i + 1)).filter p).map f) (fun h => ?_) fun h => ?_
    · subst w
      rw [ht, List.filter_append, List.map_append]
      simp [h]
    · subst w
      rw [ht, List.filter_append, List.map_append]
      simp [h]
  · subst w
    rw [List.take_length]
    exact fin
theorem gtup5 {i j k l m : Nat} {d1 d2 d3 d4 d5 : D} {ε : PEnv} {Q : PEnv → Prop} (h : Q (((((ε.set i (some (.v d1))).set j (some (.v d2))).set k (some (.v d3))).set l (some (.v d4))).set m (some (.v d5)))) : gTupY 5 [gN i, gN j, gN k, gN l, gN m] (.tup [d1, d2, d3, d4, d5]) ε Q := h
theorem eqv_pair {a b c d : Int} : PyData.eqv (D.py (.tup [.int a, .int b])) (D.py (.tup [.int c, .int d])) = (decide (a = c) && decide (b = d)) := by
  show ((a == c) && ((b == d) && true)) = _
  rw [Bool.and_true]
  rfl
end PL

set_option Elab.async false
set_option linter.all false
set_option autoImplicit false
set_option maxRecDepth 100000
set_option maxHeartbeats 1000000
/-! A list that a name owns is lent to a def. -/
namespace PL
open PySem PySem.Spec PyProof.Rows L2
open Evl (Ex)
mutual
/-- no list in it -/
def noLst : D → Bool
  | .non => true
  | .bl _ => true
  | .int _ => true
  | .str _ => true
  | .tup ds => noLsts ds
  | _ => false
def noLsts : List D → Bool
  | [] => true
  | d :: ds => noLst d && noLsts ds
end
/-- a heap without the object at p -/
def less (H : Hp) (p : Addr) : Hp := fun b => if b = p then none else H b
theorem less_same {H : Hp} {p : Addr} : less H p p = none := if_pos rfl
theorem less_ne {H : Hp} {p b : Addr} (h : b ≠ p) : less H p b = H b := if_neg h
theorem sqt_less {K : PySem.W.Frag} {H : Hp} {p a : Addr} {xs ys : List V} (hp : H p = some (.lst xs)) (s : SqT K H a ys) : SqT K (less H p) a ys := by
  rcases s with s | s
  · have ne : a ≠ p := by
      intro z
      subst z
      rcases s with s | ⟨o, s⟩ <;> (rw [hp] at s; cases s)
    left
    rcases s with s | ⟨o, s⟩
    · exact .inl (by rw [less_ne ne]; exact s)
    · exact .inr ⟨o, by rw [less_ne ne]; exact s⟩
  · exact .inr s
mutual
theorem rep_less {K : PySem.W.Frag} {H : Hp} {p : Addr} {xs : List V} (hp : H p = some (.lst xs)) : ∀ {v : V} {d : D}, Rep K H v d → noLst d = true → Rep K (less H p) v d
  | _, _, .non, _ => .non
  | _, _, .bl b, _ => .bl b
  | _, _, .int i, _ => .int i
  | _, _, .str x, _ => .str x
  | _, _, .lst _ _, h => by unfold noLst at h; cases h
  | _, _, .frl _ _, h => by unfold noLst at h; cases h
  | _, _, .tup (a := a) s r, h => by
    unfold noLst at h
    exact .tup (sqt_less hp s) (reps_less hp r h)
  | _, _, .dic _ _ _, h => by unfold noLst at h; cases h
  | _, _, .vl _, h => by unfold noLst at h; cases h
  | _, _, .pool _, h => by unfold noLst at h; cases h
  | _, _, .err _, h => by unfold noLst at h; cases h
theorem reps_less {K : PySem.W.Frag} {H : Hp} {p : Addr} {xs : List V} (hp : H p = some (.lst xs)) : ∀ {vs : List V} {ds : List D}, Reps K H vs ds → noLsts ds = true → Reps K (less H p) vs ds
  | _, _, .nil, _ => .nil
  | _, _, .cons h t, q => by
    unfold noLsts at q
    obtain ⟨q1, q2⟩ := Bool.and_eq_true_iff.mp q
    exact .cons (rep_less hp h q1) (reps_less hp t q2)
end
section
variable {K : PySem.W.Frag} {F Hs H Hs' H' : Hp} {σ : St} {ε : PEnv} {p : Addr} {vs : List V}
/-- what the callee sees of the caller's state: p stands still for the call -/
theorem lend_ex (R : RelS K F Hs σ H ε) (hH : H p = some (.lst vs)) (hp : Hs p = none) : Ex (upd Hs p (.lst vs)) H := fun b o e => by
  by_cases hb : b = p
  · subst hb
    rw [upd_same] at e
    cases e
    exact hH
  · rw [upd_ne hb] at e
    exact R.ex b o e
/-- behind the call: p is the name's own again -/
theorem lend_back (R : RelS K F Hs σ H ε) (hH : H p = some (.lst vs)) (hp : Hs p = none) (kp : Keeps (upd Hs p (.lst vs)) H Hs' H') : Keeps Hs H (less Hs' p) H' ∧ Hs' p = some (.lst vs) := by
  obtain ⟨k1, k2, k3⟩ := kp
  have hp' : Hs' p = some (.lst vs) := k1 p _ upd_same
  refine ⟨⟨fun b o e => ?_, fun b o e => ?_, fun b o e1 e2 => ?_⟩, hp'⟩
  · have ne : b ≠ p := fun z => by
      subst z
      rw [hp] at e
      cases e
    rw [less_ne ne]
    exact k1 b o (by rw [upd_ne ne]; exact e)
  · by_cases hb : b = p
    · subst hb
      rw [less_same] at e
      cases e
    · rw [less_ne hb] at e
      exact k2 b o e
  · by_cases hb : b = p
    · subst hb
      rw [hH] at e1
      cases e1
      exact ⟨k2 _ _ hp', less_same⟩
    · rw [less_ne hb]
      exact k3 b o e1 (by rw [upd_ne hb]; exact e2)
end
section
variable {X : Cx} {W : WX} {Ξ : Xi} {a : Expr} {es : List Expr} {pos : Pos}
/-- f(x, ..): x's own list is lent; what comes back holds no list -/
def yLend (φ : Spec) (Ξ : Xi) (i : Nat) (rs : PTL) : PTE := fun ε Q => match ε[i]? with
  | some (some (.o _)) => rs ε fun ts ε1 => outs ε1 ts fun ds ε2 => match ε2[i]? with
    | some (some (.o xs)) => φ (.lst xs :: ds) (fun d => noLst d = true ∧ Q (.d d) ε2) fun c => Ξ c ε2
    | _ => False
  | _ => False
theorem ye_lend {φ : Spec} {rs : PTL} {k i : Nat} {f : Addr} {fd : FuncData} {ps : List Str} {x y : Str} {p py : Pos} (Fn : FnOk X.prog X.w X.K X.mg X.base (L2.CX X.prog X.w) k f fd ps (pSp X.K φ)) (tk : Takes X W) (hr : Room k X.A) (hg : Gl X x)
    (hm : X.mg x = some (.ref f)) (hk : PySem.W.keepIn X.K (.ref f) = true) (hb : Binds X.K fd ps []) (h : YL X W Ξ es rs)
    (hN : X.N[i]? = some y) (hv : Vis X.env.scope y) (hd : (y == ("__debug__" : Str)) = false) (hcd : (y == ("__classdict__" : Str)) = false)
    (hdb : (x == ("__debug__" : Str)) = false := by decide)
    (he : starEach (.Name y py :: es) X.env = (false, eval (.Name y py) X.env) :: starEach es X.env := by rfl) (hpl : (backTo pos (starEach es X.env)).any (·.1) = false := by rfl) :
    YE X W Ξ (.Call (.Name x p) (.Name y py :: es) [] pos) (yLend φ Ξ i rs) := by
  obtain ⟨ts, pas, ks⟩ := h.ex
  refine ⟨_, pe_callS Fn hr hg hm hk hb (fun σ => passAt tk σ) (pa_cons (pe_var hN hv hd hcd) pas he) hdb he hpl, fun F Hs σ H ε Q' Q R L q k => ?_⟩
  unfold yLend at q
  split at q
  · rename_i e0
    obtain ⟨p0, vs0, s0, _⟩ := R.sl i _ e0
    refine ⟨_, s0, ks F Hs σ H ε _ _ R L q fun vs H1 Hs1 t1 ε1 e1 R1 p1 q1 => ?_⟩
    obtain ⟨ds, ε2, Hs2, e2, R2, rs, q2⟩ := R1.outs p1 q1
    split at q2
    · rename_i xs e3
      obtain ⟨p, ws, s1, g1, g2, g3, g4⟩ := R2.sl i _ e3
      have ep : p0 = p := by
        rw [s0] at s1
        exact V.ref.inj (Option.some.inj (Option.some.inj s1))
      subst ep
      have eu : Ex Hs2 (upd Hs2 p0 (.lst ws)) := ex_upd g1
      refine ⟨upd Hs2 p0 (.lst ws), .lst xs :: ds, _, _, lend_ex R2 g3 g1, .cons (.lst upd_same (g4.mono eu)) (rs.mono eu), q2, fun d qd v H' Hs' kp rv => ?_, fun c ec H' Hs' kp => ?_⟩
      · obtain ⟨kp2, hp'⟩ := lend_back R2 g3 g1 kp
        exact k v H' (less Hs' p0) (.d d) ε2 ((e1.trans e2).trans kp2.1) (R2.called kp2) (rep_less hp' rv qd.1) qd.2
      · obtain ⟨kp2, hp'⟩ := lend_back R2 g3 g1 kp
        exact L c σ H' (less Hs' p0) ε2 ec ((e1.trans e2).trans kp2.1) (R2.called kp2)
    · exact q2.elim
  · exact q.elim
theorem yeLend {φ : Spec} {rs : PTL} {k : Nat} {ps : List Str} {x y : Str} {p py : Pos} (i : Nat) (C : CallOk X.prog X.w X.K X.mg X.base k x ps φ) (tk : Takes X W) (hr : Room k X.A) (h : YL X W Ξ es rs) (hg : Gl X x := by rfl) (hN : X.N[i]? = some y := by rfl)
    (hv : Vis X.env.scope y := by first | exact Or.inl rfl | exact Or.inr (Or.inl rfl) | exact Or.inr (Or.inr rfl)) (hd : (y == ("__debug__" : Str)) = false := by decide) (hcd : (y == ("__classdict__" : Str)) = false := by decide) (hdb : (x == ("__debug__" : Str)) = false := by decide)
    (he : starEach (.Name y py :: es) X.env = (false, eval (.Name y py) X.env) :: starEach es X.env := by rfl) (hpl : (backTo pos (starEach es X.env)).any (·.1) = false := by rfl) :
    YE X W Ξ (.Call (.Name x p) (.Name y py :: es) [] pos) (yLend φ Ξ i rs) := by
  obtain ⟨⟨fd, F, _, b⟩, kp, gl⟩ := C
  exact ye_lend F tk hr hg gl kp (fun s us _ hl => by rw [List.append_nil] at hl ⊢; exact b s us hl) h hN hv hd hcd hdb he hpl
end
end PL

set_option Elab.async false
set_option linter.all false
set_option autoImplicit false
set_option maxRecDepth 100000
set_option maxHeartbeats 2000000
/-! Dicts that a name owns: looked into, changed. -/
namespace PL
open PySem PySem.Spec PyProof.Rows L2
open Evl (Ex)
/-- a datum that may be a key -/
def keyD (d : D) (Q : Key → Prop) : Prop := match d with
  | .int i => Q (.inl i)
  | .str x => Q (.inr x)
  | _ => False
theorem keyD_elim {d : D} {Q : Key → Prop} (h : keyD d Q) : ∃ k, Q k ∧ ∀ {K : PySem.W.Frag} {Hs H : Hp} {v : V}, RepV K Hs H v d → v = kV k := by
  cases d with
  | int i => exact ⟨.inl i, h, fun r => r.int'⟩
  | str x => exact ⟨.inr x, h, fun r => r.str'⟩
  | _ => exact h.elim
/-- what the table holds at k -/
def dVal : List (Key × D) → Key → Option D
  | [], _ => none
  | (k, d) :: r, j => match decide (k = j) with
    | true => some d
    | false => dVal r j
def dHas : List (Key × D) → Key → Bool
  | [], _ => false
  | (k, d) :: r, j => match decide (k = j) with
    | true => true
    | false => dHas r j
theorem dHas_val (j : Key) : ∀ ds : List (Key × D), dHas ds j = (dVal ds j).isSome
  | [] => rfl
  | (k, d) :: r => by
    unfold dHas dVal
    cases decide (k = j) with
    | true => rfl
    | false => exact dHas_val j r
def dMap : List (Key × D) → Key → D → List (Key × D)
  | [], _, _ => []
  | (k, d) :: r, j, y => (k, match decide (k = j) with
    | true => y
    | false => d) :: dMap r j y
/-- k : d, in its place or at the end -/
def dPut (ds : List (Key × D)) (k : Key) (d : D) : List (Key × D) := match dHas ds k with
  | true => dMap ds k d
  | false => ds ++ [(k, d)]
theorem dMap_val (j i : Key) (y : D) : ∀ ds : List (Key × D), dVal (dMap ds j y) i = if i = j then (match dVal ds i with
    | some _ => some y
    | none => none) else dVal ds i
  | [] => by show none = _; split <;> rfl
  | (k, d) :: r => by
    unfold dMap dVal
    by_cases h : k = i
    · rw [decide_eq_true h]
      subst h
      by_cases h2 : k = j
      · rw [decide_eq_true h2, if_pos h2]
      · rw [decide_eq_false h2, if_neg h2]
    · rw [decide_eq_false h]
      exact dMap_val j i y r
theorem dVal_snoc (j i : Key) (y : D) : ∀ ds : List (Key × D), dVal ds j = none → dVal (ds ++ [(j, y)]) i = if i = j then some y else dVal ds i
  | [], _ => by
    show (match decide (j = i) with | true => some y | false => none) = _
    by_cases h : i = j
    · rw [decide_eq_true h.symm, if_pos h]
    · rw [decide_eq_false (fun z => h z.symm), if_neg h]
      rfl
  | (k, d) :: r, hn => by
    rw [List.cons_append]
    unfold dVal at hn ⊢
    by_cases h2 : k = j
    · rw [decide_eq_true h2] at hn
      cases hn
    · rw [decide_eq_false h2] at hn
      by_cases h : k = i
      · rw [decide_eq_true h]
        subst h
        rw [if_neg h2]
      · rw [decide_eq_false h]
        exact dVal_snoc j i y r hn
theorem dVal_put (ds : List (Key × D)) (j i : Key) (y : D) : dVal (dPut ds j y) i = if i = j then some y else dVal ds i := by
  unfold dPut
  have hv := dHas_val j ds
  cases h : dHas ds j with
  | true =>
    rw [h] at hv
    show dVal (dMap ds j y) i = _
    rw [dMap_val]
    by_cases hi : i = j
    · rw [if_pos hi, if_pos hi, hi]
      cases e : dVal ds j with
      | none => rw [e] at hv; cases hv
      | some _ => rfl
    · rw [if_neg hi, if_neg hi]
  | false =>
    rw [h] at hv
    show dVal (ds ++ [(j, y)]) i = _
    exact dVal_snoc j i y ds (by cases e : dVal ds j with
      | none => rfl
      | some _ => rw [e] at hv; cases hv)
theorem dMap_len (j : Key) (y : D) : ∀ ds : List (Key × D), (dMap ds j y).length = ds.length
  | [] => rfl
  | _ :: r => by unfold dMap; rw [List.length_cons, List.length_cons, dMap_len j y r]
theorem dPut_len (ds : List (Key × D)) (j : Key) (y : D) : (dPut ds j y).length ≤ ds.length + 1 := by
  unfold dPut
  cases dHas ds j with
  | true => show (dMap ds j y).length ≤ _; rw [dMap_len]; omega
  | false => show (ds ++ [(j, y)]).length ≤ _; rw [List.length_append]; exact Nat.le_refl _
section
variable {K : PySem.W.Frag} {H : Hp}
theorem dVal_rep {k : Key} : ∀ {kvs : List (Key × V)} {ds : List (Key × D)}, kvs.map (·.1) = ds.map (·.1) → Reps K H (kvs.map (·.2)) (ds.map (·.2)) →
    (dVal ds k = none ∧ valV kvs k = none) ∨ ∃ d v, dVal ds k = some d ∧ valV kvs k = some v ∧ Rep K H v d
  | [], [], _, _ => .inl ⟨rfl, rfl⟩
  | [], _ :: _, e, _ => by cases e
  | _ :: _, [], e, _ => by cases e
  | (k', v) :: kvs, (k2, d) :: ds, e, r => by
    rw [List.map_cons, List.map_cons, List.cons.injEq] at e
    obtain ⟨e1, e2⟩ := e
    replace e1 : k' = k2 := e1
    subst e1
    cases r with
    | cons r1 r2 =>
      unfold dVal
      by_cases h : k' = k
      · rw [decide_eq_true h, valV_pos h]
        exact .inr ⟨d, v, rfl, rfl, r1⟩
      · rw [decide_eq_false h, valV_neg h]
        exact dVal_rep e2 r2
theorem dMap_rep {k : Key} {y : V} {yd : D} (ry : Rep K H y yd) : ∀ {kvs : List (Key × V)} {ds : List (Key × D)}, kvs.map (·.1) = ds.map (·.1) → Reps K H (kvs.map (·.2)) (ds.map (·.2)) →
    (kvs.map fun kv => if kv.1 = k then (kv.1, y) else kv).map (·.1) = (dMap ds k yd).map (·.1) ∧ Reps K H ((kvs.map fun kv => if kv.1 = k then (kv.1, y) else kv).map (·.2)) ((dMap ds k yd).map (·.2))
  | [], [], _, _ => ⟨rfl, .nil⟩
  | [], _ :: _, e, _ => by cases e
  | _ :: _, [], e, _ => by cases e
  | (k', v) :: kvs, (k2, d) :: ds, e, r => by
    rw [List.map_cons, List.map_cons, List.cons.injEq] at e
    obtain ⟨e1, e2⟩ := e
    replace e1 : k' = k2 := e1
    subst e1
    cases r with
    | cons r1 r2 =>
      obtain ⟨h1, h2⟩ := dMap_rep (k := k) ry e2 r2
      unfold dMap
      by_cases h : k' = k
      · rw [decide_eq_true h]
        simp only [List.map_cons, if_pos h]
        exact ⟨by rw [h1], .cons ry h2⟩
      · rw [decide_eq_false h]
        simp only [List.map_cons, if_neg h]
        exact ⟨by rw [h1], .cons r1 h2⟩
theorem dPut_rep {k : Key} {y : V} {yd : D} (ry : Rep K H y yd) {kvs : List (Key × V)} {ds : List (Key × D)} (e : kvs.map (·.1) = ds.map (·.1)) (r : Reps K H (kvs.map (·.2)) (ds.map (·.2))) :
    (putK kvs k y).map (·.1) = (dPut ds k yd).map (·.1) ∧ Reps K H ((putK kvs k y).map (·.2)) ((dPut ds k yd).map (·.2)) := by
  unfold putK dPut
  rw [valV_any, dHas_val]
  rcases dVal_rep (k := k) e r with ⟨h1, h2⟩ | ⟨d, v, h1, h2, _⟩
  · rw [h1, h2]
    show (kvs ++ [(k, y)]).map (·.1) = (ds ++ [(k, yd)]).map (·.1) ∧ Reps K H ((kvs ++ [(k, y)]).map (·.2)) ((ds ++ [(k, yd)]).map (·.2))
    rw [List.map_append, List.map_append, List.map_append, List.map_append, e]
    exact ⟨rfl, r.append (.cons ry .nil)⟩
  · rw [h1, h2]
    exact dMap_rep ry e r
end
section
variable {X : Cx} {W : WX} {Ξ : Xi} {a b c : Expr} {pos : Pos}
def asDic (d : D) (Q : List (Key × D) → Prop) : Prop := match d with
  | .dic ds => Q ds
  | _ => False
theorem asDic_elim {d : D} {Q : List (Key × D) → Prop} (h : asDic d Q) : ∃ ds, d = .dic ds ∧ Q ds := by
  cases d with
  | dic ds => exact ⟨ds, rfl, h⟩
  | _ => exact h.elim
/-- d[x] -/
def yGetD (ra rb : PTE) : PTE := fun ε Q => ra ε fun t1 ε1 => rb ε1 fun t2 ε2 => res ε2 t1 fun d1 => res ε2 t2 fun d2 => asDic d1 fun ds => keyD d2 fun k => opt (dVal ds k) fun d => Q (.d d) ε2
theorem ye_getD {ra rb : PTE} (hu : X.A.units + 64 < cLine) (ha : YE X W Ξ a ra) (hb : YE X W Ξ b rb) (hs : NoSl b := by intro _ _; rfl) : YE X W Ξ (.Subscript a b pos) (yGetD ra rb) := by
  obtain ⟨ta, pa, ka⟩ := ha.ex
  obtain ⟨tb, pb, kb⟩ := hb.ex
  refine ⟨_, pe_dget (by omega) pa pb hs, fun F Hs σ H ε Q' Q R L q k => ?_⟩
  refine ka F Hs σ H ε _ _ R L q fun v H1 Hs1 t1 ε1 e1 R1 p1 q1 => ?_
  refine kb F Hs1 σ H1 ε1 _ _ R1 (L.mono e1) q1 fun w H2 Hs2 t2 ε2 e2 R2 p2 q2 => ?_
  obtain ⟨d1, v1, q3⟩ := R2.res (p1.mono e2) q2
  obtain ⟨d2, v2, q4⟩ := R2.res p2 q3
  obtain ⟨ds, rfl, q5⟩ := asDic_elim q4
  obtain ⟨j, q6, hj⟩ := keyD_elim q5
  obtain ⟨d, hd, q7⟩ := opt_elim q6
  obtain ⟨a, kvs, rfl, g1, g2, g3⟩ := v1.dic' R2.ex
  rw [hj v2]
  rcases dVal_rep (k := j) g2 g3 with ⟨h1, _⟩ | ⟨d', v, h1, h2, h3⟩
  · rw [h1] at hd
    cases hd
  · rw [h1] at hd
    cases hd
    refine ⟨a, v, rfl, ?_, k v H2 Hs2 (.d d) ε2 (e1.trans e2) R2 h3 q7⟩
    rw [← h2]
    exact DGet.k g1
/-- x in d -/
def oInD (neg : Bool) : OP2 := fun d1 d2 Q => asDic d2 fun ds => keyD d1 fun k => Q (.bl (match neg with
  | true => !(dHas ds k)
  | false => dHas ds k))
theorem oy_inD (hu : X.A.units + 64 < cLine) : OpY X (compareOp .In) (oInD false) := by
  refine ⟨fun x y H Q => ∃ a o, y = .ref a ∧ DGet H a x o ∧ Q (.bl o.isSome) H, fun pins s σ H x y v u Q I rx ry h => ?_, fun F Hs σ H ε v w d1 d2 Q' Q R r1 r2 q k => ?_⟩
  · obtain ⟨a, o, rfl, g, q⟩ := h
    obtain rfl : u = Value.ref a := ry
    exact d_in (by omega) I g rx fun s' I' => ⟨.bl o.isSome, H, I', rfl, q⟩
  · obtain ⟨ds, rfl, q2⟩ := asDic_elim q
    obtain ⟨j, q3, hj⟩ := keyD_elim q2
    obtain ⟨a, kvs, rfl, g1, g2, g3⟩ := r2.dic' R.ex
    rw [hj r1]
    refine ⟨a, _, rfl, DGet.k g1, ?_⟩
    have e : (valV kvs j).isSome = dHas ds j := by
      rw [dHas_val]
      rcases dVal_rep (k := j) g2 g3 with ⟨h1, h2⟩ | ⟨d', v', h1, h2, h3⟩
      · rw [h1, h2] <;> rfl
      · rw [h1, h2] <;> rfl
    rw [e]
    exact k (.bl _) H Hs (.bl _) (Evl.Ex.refl _) R (.bl _) q3
theorem oy_notInD (hu : X.A.units + 64 < cLine) : OpY X (compareOp .NotIn) (oInD true) := by
  refine ⟨fun x y H Q => ∃ a o, y = .ref a ∧ DGet H a x o ∧ Q (.bl (!o.isSome)) H, fun pins s σ H x y v u Q I rx ry h => ?_, fun F Hs σ H ε v w d1 d2 Q' Q R r1 r2 q k => ?_⟩
  · obtain ⟨a, o, rfl, g, q⟩ := h
    obtain rfl : u = Value.ref a := ry
    exact d_notIn (by omega) I g rx fun s' I' => ⟨.bl (!o.isSome), H, I', rfl, q⟩
  · obtain ⟨ds, rfl, q2⟩ := asDic_elim q
    obtain ⟨j, q3, hj⟩ := keyD_elim q2
    obtain ⟨a, kvs, rfl, g1, g2, g3⟩ := r2.dic' R.ex
    rw [hj r1]
    refine ⟨a, _, rfl, DGet.k g1, ?_⟩
    have e : (valV kvs j).isSome = dHas ds j := by
      rw [dHas_val]
      rcases dVal_rep (k := j) g2 g3 with ⟨h1, h2⟩ | ⟨d', v', h1, h2, h3⟩
      · rw [h1, h2] <;> rfl
      · rw [h1, h2] <;> rfl
    rw [e]
    exact k (.bl _) H Hs (.bl _) (Evl.Ex.refl _) R (.bl _) q3
/-- d.get(x, z) -/
def yGet2 (ra rb rc : PTE) : PTE := fun ε Q => ra ε fun t1 ε1 => res ε1 t1 fun d0 => asDic d0 fun _ => rb ε1 fun t2 ε2 => rc ε2 fun t3 ε3 => PL.out ε3 t3 fun z ε4 => res ε4 t1 fun d1 => res ε4 t2 fun d2 => asDic d1 fun ds => keyD d2 fun k => Q (.d (match dVal ds k with
  | some d => d
  | none => z)) ε4
theorem ye_get2 {apos : Pos} {ra rb rc : PTE} (hu : X.A.units + 64 < cLine) (ha : YE X W Ξ a ra) (hb : YE X W Ξ b rb) (hc : YE X W Ξ c rc) (m : M2 X a "get" apos b c pos := by exact ⟨rfl, rfl, rfl, rfl⟩) : YE X W Ξ (.Call (.Attribute a "get" apos) [b, c] [] pos) (yGet2 ra rb rc) := by
  obtain ⟨ta, pa, ka⟩ := ha.ex
  obtain ⟨tb, pb, kb⟩ := hb.ex
  obtain ⟨tc, pc, kc⟩ := hc.ex
  refine ⟨_, pe_dget2 (by omega) pa pb pc m, fun F Hs σ H ε Q' Q R L q k => ?_⟩
  refine ka F Hs σ H ε _ _ R L q fun v H1 Hs1 t1 ε1 e1 R1 p1 q1 => ?_
  obtain ⟨d0, v0, q2⟩ := R1.res p1 q1
  obtain ⟨ds0, rfl, q2⟩ := asDic_elim q2
  obtain ⟨a0, kvs0, rfl, g0, _, _⟩ := v0.dic' R1.ex
  refine ⟨a0, rfl, .inl ⟨kvs0, .inl g0⟩, ?_⟩
  refine kb F Hs1 σ H1 ε1 _ _ R1 (L.mono e1) q2 fun w H2 Hs2 t2 ε2 e2 R2 p2 q3 => ?_
  refine kc F Hs2 σ H2 ε2 _ _ R2 (L.mono (e1.trans e2)) q3 fun x H3 Hs3 t3 ε3 e3 R3 p3 q4 => ?_
  obtain ⟨z, ε4, Hs4, e4, R4, rz, q5⟩ := R3.out p3 q4
  obtain ⟨d1, v1, q6⟩ := R4.res (p1.mono ((e2.trans e3).trans e4)) q5
  obtain ⟨d2, v2, q7⟩ := R4.res (p2.mono (e3.trans e4)) q6
  obtain ⟨ds, rfl, q8⟩ := asDic_elim q7
  obtain ⟨j, q9, hj⟩ := keyD_elim q8
  obtain ⟨a1, kvs, ea, g1, g2, g3⟩ := v1.dic' R4.ex
  cases ea
  rw [hj v2]
  refine ⟨_, DGet.k g1, ?_⟩
  have ee := ((e1.trans e2).trans e3).trans e4
  rcases dVal_rep (k := j) g2 g3 with ⟨h1, h2⟩ | ⟨d', v', h1, h2, h3⟩
  · rw [h1] at q9
    rw [h2]
    exact k x H3 Hs4 (.d z) ε4 ee R4 rz q9
  · rw [h1] at q9
    rw [h2]
    exact k v' H3 Hs4 (.d d') ε4 ee R4 h3 q9
/-- d[x] = v, d a name's own dict -/
def ysPutD (i : Nat) (rj re : PTE) : PTS := fun Δ ε => re ε fun t ε1 => PL.out ε1 t fun d ε2 => (match ε2[i]? with
  | some (some (.od _)) => rj ε2 fun t2 ε3 => res ε3 t2 fun dj => keyD dj fun k => (match ε3[i]? with
    | some (some (.od ds)) => gd (ds.length < 16777216) (Δ.nx (ε3.set i (some (.od (dPut ds k d)))))
    | _ => False)
  | _ => False)
theorem ys_putD (i : Nat) {x : Str} {px ps : Pos} {e j : Expr} {rj re : PTE} (hu : X.A.units + 64 < cLine) (hj : YE X W Ξ j rj) (he : YE X W Ξ e re) (hN : X.N[i]? = some x := by rfl) (hv : Vis X.env.scope x := by first | exact Or.inl rfl | exact Or.inr (Or.inl rfl) | exact Or.inr (Or.inr rfl)) (hd : (x == ("__debug__" : Str)) = false := by decide) (hcd : (x == ("__classdict__" : Str)) = false := by decide)
    (hs : swapsWith e (some (.Subscript (.Name x px) j ps)) pos.line X.env = pure false := by rfl) : YS X W Ξ (.Assign [.Subscript (.Name x px) j ps] e pos) (ysPutD i rj re) := by
  obtain ⟨t, p, k⟩ := he.ex
  obtain ⟨t2, p2, k2⟩ := hj.ex
  refine ⟨_, ps_dput (by omega) (pe_var hN hv hd hcd) p2 p hs, fun F Hs σ H ε Δ Dd R L q kk => ?_⟩
  refine k F Hs σ H ε _ _ R L q fun v H1 Hs1 t1 ε1 e1 R1 p1 q1 => ?_
  obtain ⟨d, ε2, Hs2, e2, R2, rv, q2⟩ := R1.out p1 q1
  split at q2
  · rename_i ds0 e0
    obtain ⟨p0, kvs0, g1, _⟩ := R2.sl i _ e0
    refine ⟨_, g1, ?_⟩
    refine k2 F Hs2 σ H1 ε2 _ _ R2 (L.mono (e1.trans e2)) q2 fun w H3 Hs3 t3 ε3 e3 R3 p3 q3 => ?_
    obtain ⟨dj, rj, q4⟩ := R3.res p3 q3
    obtain ⟨ky, q5, hk⟩ := keyD_elim q4
    split at q5
    · rename_i ds ei
      obtain ⟨hl, q6⟩ := gd_elim q5
      obtain ⟨p3, kvs, f1, f2, f3, f4, f5, f6⟩ := R3.sl i _ ei
      rw [g1] at f1
      cases f1
      rw [hk rj]
      have hl2 : kvs.length < sizeLine := by
        have z := congrArg List.length f5
        rw [List.length_map, List.length_map] at z
        rw [z, sizeLine_eq]
        exact hl
      refine ⟨p0, _, rfl, DPut.k f4 hl2, ?_⟩
      obtain ⟨u1, u2⟩ := dPut_rep (k := ky) (rv.mono e3) f5 f6
      exact kk.nx _ _ Hs3 _ ((e1.trans e2).trans e3) (R3.change (s' := .od (dPut ds ky d)) ei rfl rfl g1 f2 f3 ⟨_, _, g1, f2, f3, upd_same, u1, u2⟩) q6
    · exact q5.elim
  · exact q2.elim
end
end PL

set_option Elab.async false
set_option linter.all false
set_option autoImplicit false
set_option maxRecDepth 100000
set_option maxHeartbeats 2000000
/-! a, b, c, d = w, x, y, z; enumerate; a dict of the module. -/
namespace PL
open PySem PySem.Spec PyProof.Rows L2
open Evl (Ex)
/-- what a name is to hold, on the way -/
def Pd (K : PySem.W.Frag) (F Hs : Hp) (σ : St) (H : Hp) (ε : PEnv) (v : V) : S → Prop
  | .v d => Rep K Hs v d
  | .o ds => ∃ p vs, v = .ref p ∧ H p = some (.lst vs) ∧ Hs p = none ∧ F p = none ∧ Nobody σ ε p ∧ Reps K Hs vs ds
  | .od ds => ∃ p kvs, v = .ref p ∧ H p = some (.dK kvs) ∧ Hs p = none ∧ F p = none ∧ Nobody σ ε p ∧ kvs.map (·.1) = ds.map (·.1) ∧ Reps K Hs (kvs.map (·.2)) (ds.map (·.2))
def Pds (K : PySem.W.Frag) (F Hs : Hp) (σ : St) (H : Hp) (ε : PEnv) : List V → List S → Prop
  | [], [] => True
  | v :: vs, s :: ss => Pd K F Hs σ H ε v s ∧ Pds K F Hs σ H ε vs ss ∧ (s.own = true → ∀ (j : Nat) (t : S), ss[j]? = some t → t.own = true → vs[j]? ≠ some v)
  | _, _ => False
def setAll {α : Type} (σ : List (Option α)) : List Nat → List α → List (Option α)
  | j :: js, v :: vs => setAll (σ.set j (some v)) js vs
  | _, _ => σ
theorem pd_store {K : PySem.W.Frag} {F Hs H : Hp} {σ : St} {ε : PEnv} {v : V} {s : S} (R : RelS K F Hs σ H ε) (h : Pd K F Hs σ H ε v s) (i : Nat) : RelS K F Hs (σ.set i (some v)) H (ε.set i (some s)) := by
  cases s with
  | v d => exact R.store h i
  | o ds =>
    obtain ⟨p, vs, rfl, g1, g2, g3, g4, rs⟩ := h
    exact storeO_of R i g1 g2 g3 g4 rs
  | od ds =>
    obtain ⟨p, kvs, rfl, g1, g2, g3, g4, ks, rs⟩ := h
    refine R.storeO rfl i g4 fun hi => ?_
    exact ⟨p, kvs, by rw [List.getElem?_set_self (by rw [R.len]; exact hi)], g2, g3, g1, ks, rs⟩
/-- a pending value stays so when another one is stored -/
theorem pd_other {K : PySem.W.Frag} {F Hs H : Hp} {σ : St} {ε : PEnv} {v w : V} {s t : S} {i : Nat} (hs : Pd K F Hs σ H ε v s) (ht : Pd K F Hs σ H ε w t) (ne : s.own = true → t.own = true → w ≠ v) : Pd K F Hs (σ.set i (some v)) H (ε.set i (some s)) w t := by
  have nb : ∀ p, w = .ref p → t.own = true → Nobody σ ε p → Nobody (σ.set i (some v)) (ε.set i (some s)) p := fun p e to nb => by
    cases s with
    | v d => exact nobody_setV nb
    | o ds =>
      obtain ⟨q, _, rfl, _⟩ := hs
      exact nobody_set nb (fun z => ne rfl to (by rw [e, z]))
    | od ds =>
      obtain ⟨q, _, rfl, _⟩ := hs
      exact nobody_set nb (fun z => ne rfl to (by rw [e, z]))
  cases t with
  | v d => exact ht
  | o ds =>
    obtain ⟨p, vs, e, g1, g2, g3, g4, rs⟩ := ht
    exact ⟨p, vs, e, g1, g2, g3, nb p e rfl g4, rs⟩
  | od ds =>
    obtain ⟨p, vs, e, g1, g2, g3, g4, rs⟩ := ht
    exact ⟨p, vs, e, g1, g2, g3, nb p e rfl g4, rs⟩
theorem pds_other {K : PySem.W.Frag} {F Hs H : Hp} {σ : St} {ε : PEnv} {v : V} {s : S} {i : Nat} (hs : Pd K F Hs σ H ε v s) : ∀ {vs : List V} {ss : List S}, Pds K F Hs σ H ε vs ss → (s.own = true → ∀ (j : Nat) (t : S), ss[j]? = some t → t.own = true → vs[j]? ≠ some v) → Pds K F Hs (σ.set i (some v)) H (ε.set i (some s)) vs ss
  | [], [], _, _ => trivial
  | [], _ :: _, h, _ => h.elim
  | _ :: _, [], h, _ => h.elim
  | w :: ws, t :: ts, ⟨h1, h2, h3⟩, hn => ⟨pd_other hs h1 (fun so to e => hn so 0 t rfl to (by rw [e] <;> rfl)), pds_other hs h2 (fun so j u e uo z => hn so (j + 1) u e uo z), h3⟩
theorem pds_store {K : PySem.W.Frag} {F Hs H : Hp} : ∀ {js : List Nat} {vs : List V} {ss : List S} {σ : St} {ε : PEnv}, RelS K F Hs σ H ε → Pds K F Hs σ H ε vs ss → RelS K F Hs (setAll σ js vs) H (setAll ε js ss)
  | [], _, _, _, _, R, _ => by
    cases ‹List V› <;> cases ‹List S› <;> exact R
  | j :: js, [], [], _, _, R, _ => R
  | j :: js, [], _ :: _, _, _, _, h => h.elim
  | j :: js, _ :: _, [], _, _, _, h => h.elim
  | j :: js, v :: vs, s :: ss, σ, ε, R, ⟨h1, h2, h3⟩ => pds_store (σ := σ.set j (some v)) (ε := ε.set j (some s)) (pd_store R h1 j) (pds_other h1 h2 h3)
theorem Pd.lay {K : PySem.W.Frag} {F Hs H : Hp} {σ : St} {ε : PEnv} {v : V} {s : S} {q : Addr} {o : HO} (hq : H q = none) (h : Pd K F Hs σ H ε v s) : Pd K F Hs σ (upd H q o) ε v s := by
  have up : ∀ {p : Addr} {u : HO}, H p = some u → upd H q o p = some u := fun {p u} e => by rw [upd_ne (ne_of_none e hq)]; exact e
  cases s with
  | v d => exact h
  | o ds =>
    obtain ⟨p, vs, e, g1, g⟩ := h
    exact ⟨p, vs, e, up g1, g⟩
  | od ds =>
    obtain ⟨p, vs, e, g1, g⟩ := h
    exact ⟨p, vs, e, up g1, g⟩
theorem Pds.lay {K : PySem.W.Frag} {F Hs H : Hp} {σ : St} {ε : PEnv} {q : Addr} {o : HO} (hq : H q = none) : ∀ {vs : List V} {ss : List S}, Pds K F Hs σ H ε vs ss → Pds K F Hs σ (upd H q o) ε vs ss
  | [], [], _ => trivial
  | [], _ :: _, h => h.elim
  | _ :: _, [], h => h.elim
  | _ :: _, _ :: _, ⟨h1, h2, h3⟩ => ⟨h1.lay hq, h2.lay hq, h3⟩
theorem Pds.len {K : PySem.W.Frag} {F Hs H : Hp} {σ : St} {ε : PEnv} : ∀ {vs : List V} {ss : List S}, Pds K F Hs σ H ε vs ss → vs.length = ss.length
  | [], [], _ => rfl
  | [], _ :: _, h => h.elim
  | _ :: _, [], h => h.elim
  | _ :: _, _ :: _, ⟨_, h2, _⟩ => by rw [List.length_cons, List.length_cons, h2.len]
/-- what pends while p is lent, pends behind it -/
theorem Pds.back {K : PySem.W.Frag} {F Hs H : Hp} {σ : St} {ε : PEnv} {p : Addr} {o : HO} (hF : F p = none) : ∀ {vs : List V} {ss : List S}, Pds K (upd F p o) Hs σ H ε vs ss → Pds K F Hs σ H ε vs ss ∧ ∀ (j : Nat) (t : S), ss[j]? = some t → t.own = true → vs[j]? ≠ some (.ref p)
  | [], [], _ => ⟨trivial, fun j t e => by simp at e⟩
  | [], _ :: _, h => h.elim
  | _ :: _, [], h => h.elim
  | v :: vs, s :: ss, ⟨h1, h2, h3⟩ => by
    obtain ⟨k1, k2⟩ := h2.back hF
    have z : Pd K F Hs σ H ε v s ∧ (s.own = true → v ≠ .ref p) := by
      have fb : ∀ q, upd F p o q = none → F q = none ∧ q ≠ p := fun q e => by
        by_cases hq : q = p
        · subst hq
          rw [upd_same] at e
          cases e
        · rw [upd_ne hq] at e
          exact ⟨e, hq⟩
      cases s with
      | v d => exact ⟨h1, fun z => by cases z⟩
      | o ds =>
        obtain ⟨q, ws, rfl, g1, g2, g3, g⟩ := h1
        exact ⟨⟨q, ws, rfl, g1, g2, (fb q g3).1, g⟩, fun _ e => (fb q g3).2 (V.ref.inj e)⟩
      | od ds =>
        obtain ⟨q, ws, rfl, g1, g2, g3, g⟩ := h1
        exact ⟨⟨q, ws, rfl, g1, g2, (fb q g3).1, g⟩, fun _ e => (fb q g3).2 (V.ref.inj e)⟩
    refine ⟨⟨z.1, k1, h3⟩, fun j t e to q => ?_⟩
    cases j with
    | zero =>
      cases e
      exact z.2 to (Option.some.inj q)
    | succ j => exact k2 j t e to q
abbrev PTP := PEnv → (List S → PEnv → Prop) → Prop
structure YP (X : Cx) (W : WX) (Ξ : Xi) (es : List Expr) (r : PTP) : Prop where
  ex : ∃ t, PA X es t ∧ ∀ (F Hs : Hp) (σ : St) (H : Hp) (ε : PEnv) (Q' : List S → PEnv → Prop) (Q : List V → Hp → Prop), RelS X.K F Hs σ H ε → Lk X.K F Hs W Ξ → r ε Q' →
    (∀ (vs : List V) (H' Hs' : Hp) (ss : List S) (ε' : PEnv), Ex Hs Hs' → RelS X.K F Hs' σ H' ε' → Pds X.K F Hs' σ H' ε' vs ss → Q' ss ε' → Q vs H') → t σ H Q
section
variable {X : Cx} {W : WX} {Ξ : Xi} {a b c : Expr} {es : List Expr} {pos : Pos}
def ypNil : PTP := fun ε Q => Q [] ε
theorem yp_nil : YP X W Ξ [] ypNil := ⟨_, pa_nil, fun F Hs σ H ε Q' Q R L q k => k [] H Hs [] ε (Evl.Ex.refl _) R trivial q⟩
/-- a value first: it is rested, the others come -/
def ypE (r : PTE) (rs : PTP) : PTP := fun ε Q => r ε fun t ε1 => PL.out ε1 t fun d ε2 => rs ε2 fun ss ε3 => Q (.v d :: ss) ε3
theorem yp_e {r : PTE} {rs : PTP} (h : YE X W Ξ a r) (hs : YP X W Ξ es rs) (hst : starEach (a :: es) X.env = (false, eval a X.env) :: starEach es X.env := by rfl) : YP X W Ξ (a :: es) (ypE r rs) := by
  obtain ⟨t, p, k⟩ := h.ex
  obtain ⟨ts, ps, ks⟩ := hs.ex
  refine ⟨_, pa_cons p ps hst, fun F Hs σ H ε Q' Q R L q kk => k F Hs σ H ε _ _ R L q fun v H1 Hs1 t1 ε1 e1 R1 p1 q1 => ?_⟩
  obtain ⟨d, ε2, Hs2, e2, R2, rv, q2⟩ := R1.out p1 q1
  refine ks F Hs2 σ H1 ε2 _ _ R2 (L.mono (e1.trans e2)) q2 fun vs H3 Hs3 ss ε3 e3 R3 p3 q3 => ?_
  exact kk (v :: vs) H3 Hs3 (.v d :: ss) ε3 ((e1.trans e2).trans e3) R3 ⟨Rep.mono e3 rv, p3, fun z => by cases z⟩ q3
/-- a new list -/
def ypN (r : PTN) (rs : PTP) : PTP := fun ε Q => r ε fun ds ε1 => rs ε1 fun ss ε2 => Q (.o ds :: ss) ε2
theorem yp_n {r : PTN} {rs : PTP} (h : YN X W Ξ a r) (hs : YP X W Ξ es rs) (hst : starEach (a :: es) X.env = (false, eval a X.env) :: starEach es X.env := by rfl) : YP X W Ξ (a :: es) (ypN r rs) := by
  obtain ⟨t, p, k⟩ := h.ex
  obtain ⟨ts, ps, ks⟩ := hs.ex
  refine ⟨_, pa_cons p ps hst, fun F Hs σ H ε Q' Q R L q kk => k F Hs σ H ε _ _ R L q fun p H1 Hs1 vs ds ε1 e1 R1 g1 g2 g3 g4 rs q1 => ?_⟩
  have R1' := R1.lend g1 g2 g4
  have L' : Lk X.K (upd F p (.lst vs)) Hs1 W Ξ := fun c σ' H' Hs' ε' xc e' R' => L c σ' H' Hs' ε' xc (e1.trans e') (R'.back g3).1
  refine ks _ Hs1 σ H1 ε1 _ _ R1' L' q1 fun ws H3 Hs3 ss ε3 e3 R3 p3 q3 => ?_
  obtain ⟨R3', b1, b2, b3⟩ := R3.back g3
  obtain ⟨k1, k2⟩ := p3.back g3
  exact kk (.ref p :: ws) H3 Hs3 (.o ds :: ss) ε3 (e1.trans e3) R3' ⟨⟨p, vs, rfl, b1, b2, g3, b3, rs.mono e3⟩, k1, fun _ => k2⟩ q3
/-- {} -/
def ypD (rs : PTP) : PTP := fun ε Q => rs ε fun ss ε2 => Q (.od [] :: ss) ε2
theorem yp_d {rs : PTP} {pd : Pos} (hs : YP X W Ξ es rs) (hst : starEach (.Dict [] [] pd :: es) X.env = (false, eval (.Dict [] [] pd) X.env) :: starEach es X.env := by rfl) : YP X W Ξ (.Dict [] [] pd :: es) (ypD rs) := by
  obtain ⟨ts, ps, ks⟩ := hs.ex
  refine ⟨_, pa_cons pe_dnewK ps hst, fun F Hs σ H ε Q' Q R L q kk => fun p hp => ?_⟩
  obtain ⟨n1, n2, n3⟩ := R.nobody hp
  have R1 : RelS X.K F Hs σ (upd H p (.dK [])) ε := R.lay hp
  have R1' := R1.lend (upd_same (o := HO.dK [])) n1 n3
  have L' : Lk X.K (upd F p (.dK [])) Hs W Ξ := fun c σ' H' Hs' ε' xc e' R' => L c σ' H' Hs' ε' xc e' (R'.back n2).1
  refine ks _ Hs σ _ ε _ _ R1' L' q fun ws H3 Hs3 ss ε3 e3 R3 p3 q3 => ?_
  obtain ⟨R3', b1, b2, b3⟩ := R3.back n2
  obtain ⟨k1, k2⟩ := p3.back n2
  exact kk (.ref p :: ws) H3 Hs3 (.od [] :: ss) ε3 e3 R3' ⟨⟨p, [], rfl, b1, b2, n2, b3, rfl, .nil⟩, k1, fun _ => k2⟩ q3
/-- x, y, z = .. -/
def ysParP (js : List Nat) (r : PTP) : PTS := fun Δ ε => r ε fun ss ε1 => ss.length = js.length ∧ Δ.nx (setAll ε1 js ss)
theorem ys_parP3 (i j l : Nat) {x y z : Str} {r : PTP} {px py pz pt : Pos} {kt k2 : Nat} {pt2 : Pos} (hc : X.calm = true) (hN : X.N.Nodup) (hi : X.N[i]? = some x) (hj : X.N[j]? = some y) (hl : X.N[l]? = some z) (hij : i ≠ j) (hil : i ≠ l) (hjl : j ≠ l)
    (hx : X.env.scope.names.lookup x = some .local) (hy : X.env.scope.names.lookup y = some .local) (hz : X.env.scope.names.lookup z = some .local) (h : YP X W Ξ [a, b, c] r)
    (hw : swappedStores [.Tuple [.Name x px, .Name y py, .Name z pz] kt pt] (.Tuple [a, b, c] k2 pt2) X.env = pure (some [x, y, z]) := by rfl)
    (hs : swapsWithSole [.Tuple [.Name x px, .Name y py, .Name z pz] kt pt] (.Tuple [a, b, c] k2 pt2) pos.line X.env = pure false := by rfl) :
    YS X W Ξ (.Assign [.Tuple [.Name x px, .Name y py, .Name z pz] kt pt] (.Tuple [a, b, c] k2 pt2) pos) (ysParP [i, j, l] r) := by
  obtain ⟨t, p, k⟩ := h.ex
  refine ⟨_, ps_par3 hc hN hi hj hl hij hil hjl hx hy hz p hw hs, fun F Hs σ H ε Δ Dd R L q kk => k F Hs σ H ε _ _ R L q fun vs H1 Hs1 ss ε1 e1 R1 p1 q1 => ?_⟩
  obtain ⟨hl, q2⟩ := q1
  have R2 := pds_store (js := [i, j, l]) R1 p1
  rw [← p1.len] at hl
  match vs, hl, R2 with
  | [v1, v2, v3], _, R2 => exact ⟨v1, v2, v3, rfl, kk.nx _ H1 Hs1 _ e1 R2 q2⟩
theorem ys_parP4 (i j l m : Nat) {x y z u : Str} {d : Expr} {r : PTP} {px py pz pu pt : Pos} {kt k2 : Nat} {pt2 : Pos} (hc : X.calm = true) (hN : X.N.Nodup) (h : YP X W Ξ [a, b, c, d] r) (hi : X.N[i]? = some x := by rfl) (hj : X.N[j]? = some y := by rfl) (hl : X.N[l]? = some z := by rfl) (hm : X.N[m]? = some u := by rfl)
    (hx : Loc X.env.scope x := by first | exact Or.inl rfl | exact Or.inr rfl) (hy : Loc X.env.scope y := by first | exact Or.inl rfl | exact Or.inr rfl) (hz : Loc X.env.scope z := by first | exact Or.inl rfl | exact Or.inr rfl) (hu : Loc X.env.scope u := by first | exact Or.inl rfl | exact Or.inr rfl)
    (fx : X.fn x = true ∨ X.env.scope.names.lookup x = some .local := by first | exact .inl rfl | exact .inr rfl) (fy : X.fn y = true ∨ X.env.scope.names.lookup y = some .local := by first | exact .inl rfl | exact .inr rfl) (fz : X.fn z = true ∨ X.env.scope.names.lookup z = some .local := by first | exact .inl rfl | exact .inr rfl) (fu : X.fn u = true ∨ X.env.scope.names.lookup u = some .local := by first | exact .inl rfl | exact .inr rfl)
    (hs : swapsWithSole [.Tuple [.Name x px, .Name y py, .Name z pz, .Name u pu] kt pt] (.Tuple [a, b, c, d] k2 pt2) pos.line X.env = pure false := by rfl) (hw : swappedStores [.Tuple [.Name x px, .Name y py, .Name z pz, .Name u pu] kt pt] (.Tuple [a, b, c, d] k2 pt2) X.env = pure none := by rfl)
    (h1 : (assignEach [.Tuple [.Name x px, .Name y py, .Name z pz, .Name u pu] kt pt] X.env).map (·.2) = [assign (.Tuple [.Name x px, .Name y py, .Name z pz, .Name u pu] kt pt) X.env] := by rfl)
    (s1 : (assignEach [.Name x px, .Name y py, .Name z pz, .Name u pu] X.env).map (·.2) = assign (.Name x px) X.env :: (assignEach [.Name y py, .Name z pz, .Name u pu] X.env).map (·.2) := by rfl)
    (s2 : (assignEach [.Name y py, .Name z pz, .Name u pu] X.env).map (·.2) = assign (.Name y py) X.env :: (assignEach [.Name z pz, .Name u pu] X.env).map (·.2) := by rfl)
    (s3 : (assignEach [.Name z pz, .Name u pu] X.env).map (·.2) = assign (.Name z pz) X.env :: (assignEach [.Name u pu] X.env).map (·.2) := by rfl)
    (s4 : (assignEach [.Name u pu] X.env).map (·.2) = assign (.Name u pu) X.env :: (assignEach [] X.env).map (·.2) := by rfl)
    (n4 : (assignEach [.Name x px, .Name y py, .Name z pz, .Name u pu] X.env).length = 4 := by rfl) (f4 : (assignEach [.Name x px, .Name y py, .Name z pz, .Name u pu] X.env).findIdx? (·.1) = none := by rfl) :
    YS X W Ξ (.Assign [.Tuple [.Name x px, .Name y py, .Name z pz, .Name u pu] kt pt] (.Tuple [a, b, c, d] k2 pt2) pos) (ysParP [i, j, l, m] r) := by
  obtain ⟨t, p, k⟩ := h.ex
  refine ⟨_, ps_asg (pe_tup p) (pg_tup hc (pgs_cons (pg_name hN hi hx fx) (pgs_cons (pg_name hN hj hy fy) (pgs_cons (pg_name hN hl hz fz) (pgs_cons (pg_name hN hm hu fu) pgs_nil s4) s3) s2) s1) n4 f4) hs hw h1, fun F Hs σ H ε Δ Dd R L q kk => k F Hs σ H ε _ _ R L q fun vs H1 Hs1 ss ε1 e1 R1 p1 q1 => ?_⟩
  obtain ⟨hl, q2⟩ := q1
  have hv : vs.length = 4 := p1.len.trans hl
  refine ⟨by rw [hv, sizeLine_eq]; decide, fun q hq => ?_⟩
  have R2 := pds_store (js := [i, j, l, m]) (R1.lay (o := .tup vs) hq) (p1.lay hq)
  match vs, hv, R2 with
  | [v1, v2, v3, v4], _, R2 => exact ⟨q, _, rfl, SqT.of upd_same, rfl, v1, _, rfl, v2, _, rfl, v3, _, rfl, v4, _, rfl, rfl, kk.nx _ _ Hs1 _ e1 R2 q2⟩
/-- for k, x in enumerate(xs) -/
def enumD : List D → Nat → List D
  | [], _ => []
  | d :: r, i => .tup [.int (i : Int), d] :: enumD r (i + 1)
theorem enumD_len : ∀ (ds : List D) (i : Nat), (enumD ds i).length = ds.length
  | [], _ => rfl
  | _ :: r, i => by unfold enumD; rw [List.length_cons, List.length_cons, enumD_len r]
theorem enumD_get : ∀ (ds : List D) (i j : Nat), (enumD ds i)[j]? = (ds[j]?).map fun d => .tup [.int ((i + j : Nat) : Int), d]
  | [], _, _ => by simp [enumD]
  | d :: r, i, 0 => rfl
  | d :: r, i, j + 1 => by
    show (enumD r (i + 1))[j]? = _
    rw [enumD_get r (i + 1) j, show i + 1 + j = i + (j + 1) by omega] <;> rfl
theorem seqs_enum {K : PySem.W.Frag} {Hs : Hp} {a : Addr} {vs : List V} {ds : List D} (h : SqL K Hs a vs) (r : Reps K Hs vs ds) : Seqs K Hs (Ite K a) (enumD ds 0) where
  go := fun i H e hi => by
    rw [enumD_len, ← r.len] at hi
    exact ⟨vs, vs[i], Evl.ex_l e h, by simp [hi]⟩
  stop := fun i H e hi => by
    rw [enumD_len] at hi
    exact ⟨vs, Evl.ex_l e h, by rw [r.len]; exact hi⟩
  yld := fun i F Hc σ H ε x H' e R hi y => by
    obtain ⟨T, v, rfl, hT, rfl, y⟩ := y
    have e2 := y vs (Evl.ex_l (e.trans R.ex) h)
    obtain ⟨d, h1, h2⟩ := r.getV e2
    obtain ⟨R2, e3⟩ := R.new (o := .tup [.int (i : Nat), v]) hT
    refine ⟨_, .tup [.int (i : Int), d], e3, R2, by rw [enumD_get, h1, Nat.zero_add] <;> rfl, .tup (SqT.of upd_same) (.cons (.int _) (.cons (h2.mono (e.trans e3)) .nil))⟩
def yiEnum (r : PTE) : PTN := fun ε Q => r ε fun t ε' => PL.out ε' t fun d ε2 => match d with
  | .lst ds => Q (enumD ds 0) ε2
  | .frl ds => Q (enumD ds 0) ε2
  | _ => False
theorem yi_enum {r : PTE} {elts : List Expr} {kk : Nat} {tpos p : Pos} (h : YE X W Ξ a r) (hg : Gl X "enumerate") (hm : X.mg "enumerate" = none) (hs : starEach [a] X.env = [(false, eval a X.env)] := by rfl) : YI X W Ξ (.Tuple elts kk tpos) (.Call (.Name "enumerate" p) [a] [] pos) (yiEnum r) := by
  obtain ⟨t, p, k⟩ := h.ex
  refine ⟨_, pi_enum hg hm (pa_cons p pa_nil hs) hs, fun F Hs σ H ε Q' R' R L q kk => k F Hs σ H ε _ _ R L q fun v H1 Hs1 t1 ε1 e1 R1 p1 q1 => ?_⟩
  obtain ⟨d, ε2, Hs2, e2, R2, rv, q2⟩ := R1.out p1 q1
  split at q2
  · obtain ⟨a, vs, rfl, g1, rs⟩ := (RepV.sc rv).lst' (Evl.Ex.refl Hs2)
    exact ⟨a, vs, rfl, SqL.of (R2.ex _ _ g1), kk _ H1 Hs2 _ ε2 (e1.trans e2) R2 (seqs_enum (SqL.of g1) rs) q2⟩
  · obtain ⟨a, vs, rfl, g1, rs⟩ := (RepV.sc rv).frl' (Evl.Ex.refl Hs2)
    exact ⟨a, vs, rfl, Evl.ex_l R2.ex g1, kk _ H1 Hs2 _ ε2 (e1.trans e2) R2 (seqs_enum g1 rs) q2⟩
  · exact q2.elim
end
end PL
namespace PL
open PySem PySem.Spec PyProof.Rows L2
section
variable {X : Cx} {W : WX} {Ξ : Xi} {pos : Pos}
/-- x = {}, a dict of the name's own -/
def ysAsgD (i : Nat) : PTS := fun Δ ε => Δ.nx (ε.set i (some (.od [])))
theorem ysSetD (i : Nat) {x : Str} {pos' pd : Pos} (hN : X.N.Nodup) (hi : X.N[i]? = some x := by rfl) (hx : Loc X.env.scope x := by first | exact Or.inl rfl | exact Or.inr rfl) (hs : swapsWith (.Dict [] [] pd) (some (.Name x pos')) pos.line X.env = pure false := by rfl)
    (hf : X.fn x = true ∨ X.env.scope.names.lookup x = some .local := by first | exact .inl rfl | exact .inr rfl) : YS X W Ξ (.Assign [.Name x pos'] (.Dict [] [] pd) pos) (ysAsgD i) := by
  refine ⟨_, ps_set hN hi hx pe_dnewK hs hf, fun F Hs σ H ε Δ Dd R L q kk => fun p hp => ?_⟩
  obtain ⟨n1, n2, n3⟩ := R.nobody hp
  refine kk.nx _ _ Hs _ (Evl.Ex.refl _) (pd_store (R.lay (o := .dK []) hp) (s := .od []) ⟨p, [], rfl, upd_same, n1, n2, n3, rfl, .nil⟩ i) q
end
end PL

set_option Elab.async false
set_option linter.all false
set_option autoImplicit false
set_option maxRecDepth 100000
set_option maxHeartbeats 2000000
/-! A table of the module: texts to numbers. -/
namespace PL
open PySem PySem.Spec PyProof.Rows L2
open Evl (Ex)
/-- what the written part says of the table at d -/
def TabOk (K : PySem.W.Frag) (w : World) (d : Addr) (tab : List (Str × Int)) : Prop := ∃ es n, KDict K w d es n ∧ ∀ z : Str, ∃ r, PySem.W.nsIn K d z = some r ∧ RelO ((tab.lookup z).map V.int) r
def entB (e : DictEntry) (p : Str × Int) : Bool := match e.key, e.val with
  | .str x _, .int i _ => decide (x = p.1) && decide (i = p.2)
  | _, _ => false
def entsB : List DictEntry → List (Str × Int) → Bool
  | [], [] => true
  | e :: r, p :: q => entB e p && entsB r q
  | _, _ => false
def tabB (K : PySem.W.Frag) (d : Addr) (tab : List (Str × Int)) : Bool := match K.lookup d with
  | some ⟨_, _, .dict es _, _⟩ => entsB es.toList tab
  | _ => false
theorem entB_ok {e : DictEntry} {p : Str × Int} (h : entB e p = true) : ∃ t u, e.key = .str p.1 t ∧ e.val = .int p.2 u := by
  unfold entB at h
  split at h
  · rename_i x t i u e1 e2
    obtain ⟨h1, h2⟩ := He.ba h
    rw [e1, e2, of_decide_eq_true h1, of_decide_eq_true h2]
    exact ⟨t, u, rfl, rfl⟩
  · cases h
theorem ents_find (z : Str) : ∀ {l : List DictEntry} {tab : List (Str × Int)}, entsB l tab = true → RelO ((tab.lookup z).map V.int) ((l.find? (·.key.isStr z)).map (·.val)) ∧ l.any (·.refKey) = false
  | [], [], _ => ⟨True.intro, rfl⟩
  | [], _ :: _, h => by cases h
  | _ :: _, [], h => by cases h
  | e :: r, (x, i) :: q, h => by
    obtain ⟨h1, h2⟩ := He.ba (show (entB e (x, i) && entsB r q) = true from h)
    obtain ⟨t, u, e1, e2⟩ := entB_ok h1
    obtain ⟨k1, k2⟩ := ents_find z h2
    have hi : e.key.isStr z = decide (x = z) := by
      rw [e1]
      show (x == z) = _
      by_cases hz : x = z
      · rw [decide_eq_true hz, hz]; exact beq_self_eq_true z
      · rw [decide_eq_false hz]; exact beq_eq_false_iff_ne.mpr hz
    have hr : e.refKey = false := by
      unfold DictEntry.refKey
      rw [e1] <;> rfl
    refine ⟨?_, by rw [List.any_cons, hr, k2] <;> rfl⟩
    rw [List.find?_cons, hi]
    by_cases hz : x = z
    · rw [decide_eq_true hz]
      subst hz
      rw [List.lookup_cons, beq_self_eq_true]
      show RelO (some (V.int i)) (some e.val)
      rw [e2]
      exact ⟨u, rfl⟩
    · rw [decide_eq_false hz, List.lookup_cons, show (z == x) = false from beq_eq_false_iff_ne.mpr fun y => hz y.symm]
      exact k1
theorem tabB_ok {K : PySem.W.Frag} {w : World} {d : Addr} {tab : List (Str × Int)} (h : tabB K d tab = true) (D : ∃ es n, KDict K w d es n) : TabOk K w d tab := by
  obtain ⟨es, n, D⟩ := D
  refine ⟨es, n, D, fun z => ?_⟩
  unfold tabB at h
  rw [D.at_] at h
  obtain ⟨h1, h2⟩ := ents_find z (show entsB es.toList tab = true from h)
  unfold PySem.W.nsIn
  rw [D.at_]
  dsimp only
  cases hf : es.toList.find? (·.key.isStr z) with
  | none =>
    rw [hf] at h1
    rw [h2]
    exact ⟨none, rfl, h1⟩
  | some e =>
    rw [hf] at h1
    exact ⟨some e.val, rfl, h1⟩
section
variable {X : Cx} {W : WX} {Ξ : Xi} {a : Expr} {pos : Pos}
/-- T.get(x), T a table of the module -/
def yGetK (tab : List (Str × Int)) (r : PTE) : PTE := fun ε Q => r ε fun t ε1 => res ε1 t fun d => match d with
  | .str z => Q (.d (match tab.lookup z with
    | some i => .int i
    | none => .non)) ε1
  | _ => False
theorem ye_getK {tab : List (Str × Int)} {x : Str} {d : Addr} {p apos : Pos} {r : PTE} (T : TabOk X.K X.w d tab) (hm : X.mg x = some (.ref d)) (h : YE X W Ξ a r) (hg : Gl X x := by rfl) (hdb : (x == ("__debug__" : Str)) = false := by decide) (m : M1 X (.Name x p) "get" apos a pos := by exact ⟨rfl, rfl, rfl, rfl⟩) :
    YE X W Ξ (.Call (.Attribute (.Name x p) "get" apos) [a] [] pos) (yGetK tab r) := by
  obtain ⟨ta, pa, ka⟩ := h.ex
  obtain ⟨es, n, D, T⟩ := T
  have pe : PE X (.Call (.Attribute (.Name x p) "get" apos) [a] [] pos) (fun σ H Q => ta σ H fun y H1 => ∃ z, y = .str z ∧ Q (match tab.lookup z with
    | some i => .int i
    | none => .non) H1) := by
    refine ⟨fun pins s σ H Q I h => ?_⟩
    refine PySem.wpAny_Call_method m.base m.few m.line PySem.F.plainAttrs_dict PySem.F.slot_dict_get PySem.F.type_dict_get (ld_glob I hg hm ?_ hdb)
    refine ⟨kd_type D I, fun b q => ?_, ?_⟩
    · cases q
      exact ⟨_, I.kIn _ _ D.at_, rfl⟩
    rw [m.trees]
    refine Calls.callWith_builtin rfl (Calls.evalArgs_plain (Calls.spliced_cons (thn (pa.run pins s σ H _ I h) fun iv s2 ⟨y, H2, I2, ry, z, ey, q2⟩ => Calls.spliced_nil ?_)))
    subst ey
    obtain ⟨t, rfl⟩ := ry
    obtain ⟨ro, e1, e2⟩ := T z
    refine PySem.call_meetsIn PySem.F.slot_dict_get (kd_type D I2) PySem.F.entry_dict_get (PySem.F.args_dict_get_2 _ _) (meets_dict_get (strKind X.prog X.w) d (PySem.strKind_is X.prog X.w z t) D.low) ⟨_, PySem.W.mapOf_K (prog := X.prog) I2.kIn D.at_ D.lit, ?_⟩
    rw [PySem.W.find_K D.at_ e1]
    refine ⟨_, H2, I2.tok _, ?_, q2⟩
    cases hl : tab.lookup z with
    | none =>
      rw [hl] at e2
      cases ro with
      | none => rfl
      | some u => exact e2.elim
    | some i =>
      rw [hl] at e2
      cases ro with
      | none => exact e2.elim
      | some u => exact e2
  refine ⟨_, pe, fun F Hs σ H ε Q' Q R L q k => ka F Hs σ H ε _ _ R L q fun v H1 Hs1 t1 ε1 e1 R1 p1 q1 => ?_⟩
  obtain ⟨d, v1, q2⟩ := R1.res p1 q1
  cases d with
  | str z =>
    refine ⟨z, v1.str', ?_⟩
    cases hl : tab.lookup z with
    | none =>
      dsimp only at q2
      rw [hl] at q2
      exact k .non H1 Hs1 (.d .non) ε1 e1 R1 .non q2
    | some i =>
      dsimp only at q2
      rw [hl] at q2
      exact k (.int i) H1 Hs1 (.d (.int i)) ε1 e1 R1 (.int i) q2
  | _ => exact q2.elim
end
end PL

set_option Elab.async false
set_option linter.all false
set_option autoImplicit false
set_option maxRecDepth 100000
set_option maxHeartbeats 2000000
/-! A list is locked for a call: what comes back is new. -/
namespace PL
open PySem PySem.Spec PyProof.Rows L2
open Evl (Ex)
/-- a call that sees the list at a locked, and no other list: what it gives back shares no list with anybody -/
def spLock (K : PySem.W.Frag) (φ : Spec) : Sp := fun vs H Q E => ∃ (Hc : Hp) (a : Addr) (xs : List V) (ds : List D) (Q' : D → Prop), Ex Hc H ∧ Hc a = none ∧ H a = some (.lst xs) ∧
  (∀ o, Reps K (upd Hc a (.frz o (.lst xs))) vs ds) ∧ φ ds Q' (fun _ => False) ∧
  ∀ (d : D) (v : V) (H' Hs : Hp) (o : Obj), Q' d → (∀ p u, H p = some u → H' p = some u) → Ex Hc Hs → Hs a = some (.frz o (.lst xs)) → (∀ p u, p ≠ a → Hs p = some u → Hc p = some u ∨ (H p = none ∧ H' p = some u)) → Rep K Hs v d → Q v H'
section
variable {P : Program} {w : World} {K : PySem.W.Frag} {mg : Str → Option Value} {base : Heap} {k : Nat} {f : Addr} {fd : FuncData} {ps : List Str} {φ : Spec}
theorem lock_fn (F : FnOk P w K mg base (L2.CX P w) k f fd ps (pSp K φ)) : FnOk P w K mg base (L2.CX P w) k f fd ps (spLock K φ) := by
  have lockEx : ∀ {Hc H : Hp} {a : Addr} {u : HO}, Ex Hc H → Hc a = none → Ex (upd Hc a u) (upd H a u) := fun {Hc H a u} e n b o q => by
    by_cases hb : b = a
    · subst hb
      rw [upd_same] at q ⊢
      exact q
    · rw [upd_ne hb] at q ⊢
      exact e b o q
  refine ⟨fun vs H Q E h => ?_, fun A outer s H args us vs Q E hr e0 hb hv h => ?_⟩
  · obtain ⟨Hc, a, xs, ds, Q', ex, hn, hH, rs, h, _⟩ := h
    exact F.len vs (upd H a (.frz default (.lst xs))) (fun _ _ => True) (fun _ _ _ => True) ⟨upd Hc a (.frz default (.lst xs)), ds, Q', fun _ => False, lockEx ex hn, rs default, h, fun _ _ _ _ _ _ _ => trivial, fun _ z => z.elim⟩
  · obtain ⟨Hc, a, xs, ds, Q', ex, hn, hH, rs, h, hq⟩ := h
    have obj := e0.hok a _ hH
    obtain ⟨z, its, n, r, eo⟩ := obj
    let o : Obj := { cls := .type "list", data := .seq its.toArray n }
    have e1 := env0_retell (o' := .frz o (.lst xs)) e0 hH (fun a z => by cases z) (fun a z => by cases z) ⟨eo, z, its, n, r, eo⟩
    have ex1 : Ex (upd Hc a (.frz o (.lst xs))) (upd H a (.frz o (.lst xs))) := lockEx ex hn
    refine codeAny_mono (F.run A outer s (upd H a (.frz o (.lst xs))) args us vs (fun v H2 => ∃ d Hs, Q' d ∧ Keeps (upd Hc a (.frz o (.lst xs))) (upd H a (.frz o (.lst xs))) Hs H2 ∧ Rep K Hs v d) (fun _ _ _ => False) hr e1 hb hv
      ⟨upd Hc a (.frz o (.lst xs)), ds, Q', fun _ => False, ex1, rs o, h, fun d qd v H' Hs kp rv => ⟨d, Hs, qd, kp, rv⟩, fun _ z => z.elim⟩) fun rr s' hrr => ?_
    cases rr with
    | error e => exact (cx_never hrr).elim
    | ok fl =>
      cases fl with
      | ret u =>
        obtain ⟨v, H2, os, bare, un, hok, rv, d, Hs, qd, ⟨k1, k2, k3⟩, rp⟩ := hrr
        have ha2 : H2 a = some (.frz o (.lst xs)) := un.frzs a _ _ upd_same
        have hs2 : Hs a = some (.frz o (.lst xs)) := k1 a _ upd_same
        have hok2 : HOk P w (upd H2 a (.lst xs)) s'.heap := retell_ok hok ha2 (fun a z => by cases z) (fun a z => by cases z) (hok a _ ha2).2
        have keep : ∀ p u, H p = some u → upd H2 a (.lst xs) p = some u := fun p u e => by
          by_cases hp : p = a
          · subst hp
            rw [upd_same]
            rw [hH] at e
            exact e
          · rw [upd_ne hp]
            have e2 : upd H a (.frz o (.lst xs)) p = some u := by rw [upd_ne hp]; exact e
            cases hc : Hc p with
            | none => exact (k3 p u e2 (by rw [upd_ne hp]; exact hc)).1
            | some u' =>
              have := k2 p u' (k1 p u' (by rw [upd_ne hp]; exact hc))
              rw [ex p u' hc] at e
              cases e
              exact this
        have none1 : ∀ b, H b = none → upd H a (.frz o (.lst xs)) b = none := fun b e => by
          rw [upd_ne (fun z => by rw [z, hH] at e; cases e)]
          exact e
        refine ⟨v, upd H2 a (.lst xs), os, bare, ⟨fun b ob q n hf hx => un.keep b ob q (none1 b n) hf hx, fun b ob q n hf hx => un.slot b ob q (none1 b n) hf hx, fun b ob q n hx => ?_, un.there, fun b ys q => keep b _ q, fun b ob u q => keep b _ q, fun b ps q => ⟨#[], by rw [keep b _ q]; simp⟩⟩, hok2, rv, ?_⟩
        · rw [upd_ne (fun z => by rw [z, hH] at n; cases n)]
          exact un.free b ob q (none1 b n) hx
        · refine hq d v _ Hs o qd keep (fun p u e => k1 p u (by rw [upd_ne (fun z => by rw [z, hn] at e; cases e)]; exact e)) hs2 (fun p u hp e => ?_) rp
          cases hc : Hc p with
          | some u' =>
            have := k1 p u' (by rw [upd_ne hp]; exact hc)
            rw [e] at this
            cases this
            exact .inl rfl
          | none =>
            refine .inr ?_
            cases hh : H p with
            | none => exact ⟨rfl, by rw [upd_ne hp]; exact k2 p u e⟩
            | some u' =>
              have := (k3 p u' (by rw [upd_ne hp]; exact hh) (by rw [upd_ne hp]; exact hc)).2
              rw [e] at this
              cases this
      | next => exact False.elim hrr
      | brk => exact False.elim hrr
      | cont => exact False.elim hrr
end
/-- what of a heap is no list -/
def noL (H : Hp) : Hp := fun b => match H b with
  | some (.tup xs) => some (.tup xs)
  | some (.frz o (.tup xs)) => some (.frz o (.tup xs))
  | _ => none
theorem noL_ex {H : Hp} : Ex (noL H) H := fun b o e => by
  unfold noL at e
  split at e
  · rename_i xs q; cases e; exact q
  · rename_i ob xs q; cases e; exact q
  · cases e
theorem noL_tup {K : PySem.W.Frag} {H : Hp} {a : Addr} {xs : List V} (h : SqT K H a xs) : SqT K (noL H) a xs := by
  rcases h with (h | ⟨o, h⟩) | h
  · refine .inl (.inl ?_)
    unfold noL
    rw [h]
  · refine .inl (.inr ⟨o, ?_⟩)
    unfold noL
    rw [h]
  · exact .inr h
mutual
theorem rep_noL {K : PySem.W.Frag} {H : Hp} : ∀ {v : V} {d : D}, Rep K H v d → noLst d = true → Rep K (noL H) v d
  | _, _, .non, _ => .non
  | _, _, .bl b, _ => .bl b
  | _, _, .int i, _ => .int i
  | _, _, .str x, _ => .str x
  | _, _, .lst _ _, h => by unfold noLst at h; cases h
  | _, _, .frl _ _, h => by unfold noLst at h; cases h
  | _, _, .tup s r, h => by
    unfold noLst at h
    exact .tup (noL_tup s) (reps_noL r h)
  | _, _, .dic _ _ _, h => by unfold noLst at h; cases h
  | _, _, .vl _, h => by unfold noLst at h; cases h
  | _, _, .pool _, h => by unfold noLst at h; cases h
  | _, _, .err _, h => by unfold noLst at h; cases h
theorem reps_noL {K : PySem.W.Frag} {H : Hp} : ∀ {vs : List V} {ds : List D}, Reps K H vs ds → noLsts ds = true → Reps K (noL H) vs ds
  | _, _, .nil, _ => .nil
  | _, _, .cons h t, q => by
    unfold noLsts at q
    obtain ⟨q1, q2⟩ := Bool.and_eq_true_iff.mp q
    exact .cons (rep_noL h q1) (reps_noL t q2)
end
end PL

set_option Elab.async false
set_option linter.all false
set_option autoImplicit false
set_option maxRecDepth 100000
set_option maxHeartbeats 1000000
namespace PL.K48
open PySem PySem.Spec PyProof.Rows L2
local macro_rules | `(tactic| walk_at "y") => `(tactic| conv => whnf)
/-! ### plain marks -/
inductive Mk where
  | op (n v : Int) | cl (n v : Int) | br (r : Int) | mv (r : Int)
def Mk.d : Mk → D
  | .op n v => .tup [.str "open", .int n, .int v]
  | .cl n v => .tup [.str "close", .int n, .int v]
  | .br r => .tup [.str "break", .int r]
  | .mv r => .tup [.str "move", .int r]
def isBr : Mk → Bool
  | .br _ => true
  | _ => false
def isMv : Mk → Bool
  | .mv _ => true
  | _ => false
def isOp : Mk → Bool
  | .op _ _ => true
  | _ => false
def isCl : Mk → Bool
  | .cl _ _ => true
  | _ => false
theorem w_open_open : decide (("open" : Str) = "open") = true := by decide +kernel
theorem w_open_close : decide (("open" : Str) = "close") = false := by decide +kernel
theorem w_open_break : decide (("open" : Str) = "break") = false := by decide +kernel
theorem w_open_move : decide (("open" : Str) = "move") = false := by decide +kernel
theorem w_close_open : decide (("close" : Str) = "open") = false := by decide +kernel
theorem w_close_close : decide (("close" : Str) = "close") = true := by decide +kernel
theorem w_close_break : decide (("close" : Str) = "break") = false := by decide +kernel
theorem w_close_move : decide (("close" : Str) = "move") = false := by decide +kernel
theorem w_break_open : decide (("break" : Str) = "open") = false := by decide +kernel
theorem w_break_close : decide (("break" : Str) = "close") = false := by decide +kernel
theorem w_break_break : decide (("break" : Str) = "break") = true := by decide +kernel
theorem w_break_move : decide (("break" : Str) = "move") = false := by decide +kernel
theorem w_move_open : decide (("move" : Str) = "open") = false := by decide +kernel
theorem w_move_close : decide (("move" : Str) = "close") = false := by decide +kernel
theorem w_move_break : decide (("move" : Str) = "break") = false := by decide +kernel
theorem w_move_move : decide (("move" : Str) = "move") = true := by decide +kernel
/-- a list, new or one that is only read -/
def isL (d : D) (xs : List D) : Prop := d = .lst xs ∨ d = .frl xs
/-- numbers, the runs closed, the run that is open -/
abbrev RS : Type := List Int × List (List Int) × List Int
def rsStep (s : RS) (m : Mk) : RS := (s.1 ++ [(s.2.1.length : Int)], match m with
  | .br _ => (s.2.1 ++ [s.2.2], [])
  | .mv _ => (s.2.1, s.2.2)
  | .op _ v => (s.2.1, s.2.2 ++ [v])
  | .cl _ v => (s.2.1, s.2.2 ++ [v]))
def rsOf (ms : List Mk) : RS := ms.foldl rsStep ([], [], [])
def maxL : Int → List Int → Int
  | m, [] => m
  | m, x :: r => maxL (if m < x then x else m) r
def minL : Int → List Int → Int
  | m, [] => m
  | m, x :: r => minL (if x < m then x else m) r
def gapI (xs : List Int) : Int := maxL 0 xs + minL 0 xs
def φ_gap : Spec
  | [.lst ds], Q, _ => ∃ xs : List Int, ds = xs.map D.int ∧ xs.length ≤ 1000000 ∧ Q (.int (gapI xs))
  | _, _, _ => False
def φ_runs_of : Spec
  | [d], Q, _ => ∃ ms : List Mk, isL d (ms.map Mk.d) ∧ ms.length ≤ 1000000 ∧ Q (.tup [.lst ((rsOf ms).1.map D.int), .lst (((rsOf ms).2.1 ++ [(rsOf ms).2.2]).map fun r => .int (gapI r))])
  | _, _, _ => False

end PL.K48

set_option Elab.async false
set_option linter.all false
set_option autoImplicit false
set_option maxRecDepth 100000
set_option maxHeartbeats 1000000
namespace PL.K48
open PySem PySem.Spec PyProof.Rows L2
local macro_rules | `(tactic| walk_at "y") => `(tactic| conv => whnf)
/-! ### data -/
def regB : D → Bool
  | .vl _ => false
  | .pool => false
  | .err _ _ => false
  | _ => true
def isWholeB : D → Bool
  | .int _ => true
  | _ => false
def φ_is_whole : Spec
  | [d], Q, _ => regB d = true ∧ Q (.bl (isWholeB d))
  | _, _, _ => False
abbrev N_is_whole : List Str := ["value"]
def r_is_whole (Ξ : Xi) : PTS :=
  (ysRet (yAndV (yIs .int (yVar 0)) (yNotB (yIs .bool (yVar 0)))))
theorem vc_is_whole (ds : List D) (Q' : D → Prop) (E' : Nat → Prop) (h : φ_is_whole ds Q' E') : r_is_whole (fun c _ => E' c) { nx := fun _ => Q' .non, rt := fun d _ => Q' d } (startE N_is_whole ds) := by
  unfold φ_is_whole at h
  split at h
  · rename_i d
    obtain ⟨h1, h2⟩ := h
    cases d <;> first | (cases h1; done) | exact h2
  · exact h.elim
def boolD (f : D → Bool) (d : D) : D := .bl (f d)
theorem map_bool {ds : List D} {f : D → Bool} : ds.map (boolD f) = (ds.map f).map D.bl := by rw [List.map_map]; rfl
theorem whole_of {d : D} (h : isWholeB d = true) : ∃ i, d = .int i := by
  cases d with
  | int i => exact ⟨i, rfl⟩
  | _ => cases h
theorem small_any {j : Int} (h0 : -4611686018427387904 ≤ j) (h1 : j < 4611686018427387904) : smallB j = true := by
  cases j with
  | ofNat n =>
    replace h1 : ((n : Nat) : Int) < _ := h1
    exact Nat.ble_eq_true_of_le (by omega)
  | negSucc n =>
    rw [Int.negSucc_eq] at h0
    exact Nat.ble_eq_true_of_le (by omega)
theorem z_add {i : Nat} : (0 : Int) + (i : Int) = ((i : Nat) : Int) := by omega
/-! ### draws -/
def φ_law_pick : Spec := φPick
def φ_law_stream : Spec := φStream
theorem int_of {xs : List Int} {i : Nat} {d : D} (h : (xs.map D.int)[i]? = some d) : ∃ x, d = .int x := by
  rw [List.getElem?_map] at h
  cases e : xs[i]? with
  | none => rw [e] at h; cases h
  | some x => rw [e] at h; exact ⟨x, (Option.some.inj h).symm⟩
theorem map_snoc {ns : List Int} {x : Int} : ns.map D.int ++ [D.int x] = (ns ++ [x]).map D.int := by simp
abbrev N_law_stream : List Str := ["script", "pool", "mixed", "cell", "rest", "k"]
def r_law_stream (Ξ : Xi) : PTS :=
  (ysSeq (ysPar 1 2 (yxN (ynLst (ylCons (yC (.int 1)) ylNil))) (yxE (yC (.int 17))))
  (ysSeq (ysFor (yiFrl (yVar 0)) (gN 3)
  (ysSeq (ysAsg (yBin oMod (yCB oInt (ylCons (yVar 3) ylNil)) (yBin oPow (yC (.int 60)) (yC (.int 60)))) 4)
  (ysSeq (ysAsg (yBin oMod (yCB oInt (ylCons (yBin oAdd (yBin oMulA (yVar 2) (yC (.int 31))) (yCB oInt (ylCons (yVar 4) ylNil))) ylNil)) (yC (.int 2147483647))) 2)
  (ysFor (yiRg1 (ylCons (yIx (yNew (ynLst (ylCons (yC (.int 2)) (ylCons (yC (.int 60)) ylNil)))) (yCB oInt (ylCons (yBin oGe (yCB oInt (ylCons (yVar 3) ylNil)) (yBin oPow (yC (.int 10)) (yC (.int 18)))) ylNil))) ylNil)) (gN 5)
  (ysSeq (ysApp 1 (yBin oMod (yCB oInt (ylCons (yVar 4) ylNil)) (yC (.int 60))))
  (ysSeq (ysAsg (yCB oInt (ylCons (yBin oFdiv (yVar 4) (yC (.int 60))) ylNil)) 4)
  (ysIf (yBinT (oEq false) (yVar 4) (yC (.int 0)))
  ysBrk
  ysNext)))))))
  (ysSeq (ysFor (yiRg1 (ylCons (yC (.int 900)) ylNil)) (gN 5)
  (ysSeq (ysAsg (yBin oMod (yCB oInt (ylCons (yBin oAdd (yBin oMulA (yVar 2) (yC (.int 48271))) (yC (.int 11))) ylNil)) (yC (.int 2147483647))) 2)
  (ysApp 1 (yBin oMod (yCB oInt (ylCons (yBin oFdiv (yVar 2) (yC (.int 97))) ylNil)) (yC (.int 60))))))
  (ysRet (yVar 1)))))
theorem vc_law_stream (ds : List D) (Q' : D → Prop) (E' : Nat → Prop) (h : φList ds Q' E') : r_law_stream (fun c _ => E' c) { nx := fun _ => Q' .non, rt := fun d _ => Q' d } (startE N_law_stream ds) := by
  unfold φList at h
  split at h
  · obtain ⟨xs, rfl, hx, h⟩ := h
    let e (ns : List Int) (mi c r k : Option S) : PEnv := [some (.v (.frl (xs.map D.int))), some (.o (((1 : Int) :: ns).map D.int)), mi, c, r, k]
    let I (i : Int) : Option S := some (.v (.int i))
    refine seq_step (e [] (I 17) none none none) (fun K k => k) ?_
    refine seq_post (fun ε => ∃ ns mi c r k, ns.length ≤ 60 * 63 ∧ ε = e ns (I mi) c r k) (fun K kk => ⟨fun i ε => ∃ ns mi c r k, ns.length ≤ 60 * i ∧ ε = e ns (I mi) c r k, ⟨[], 17, none, none, none, Nat.zero_le _, rfl⟩, fun i d ε hi hd w => ?_, fun ε ⟨ns, mi, c, r, k, hl, q⟩ => kk ε ⟨ns, mi, c, r, k, by rw [List.length_map] at hl; omega, q⟩⟩) fun ε w => ?_
    · obtain ⟨x, rfl⟩ := int_of hd
      obtain ⟨ns, mi, c, r, k, hl, rfl⟩ := w
      rw [List.length_map] at hi
      refine seq_step (e ns (I mi) (I x) (I (x % 60 ^ 60)) k) (fun K k => k) ?_
      refine seq_post (fun ε => ∃ mi, ε = e ns (I mi) (I x) (I (x % 60 ^ 60)) k) (fun K kk => gd_of (.inr ⟨by decide, by decide⟩) (kk _ ⟨_, rfl⟩)) ?_
      rintro _ ⟨mi, rfl⟩
      obtain ⟨m, hm, em⟩ : ∃ m : Nat, m ≤ 60 ∧ atI [D.int 2, D.int 60] (if decide ((10 : Int) ^ Int.toNat 18 ≤ x) = true then 1 else 0) = some (.int (m : Int)) := by
        cases decide ((10 : Int) ^ Int.toNat 18 ≤ x)
        · exact ⟨2, by decide, rfl⟩
        · exact ⟨60, by decide, rfl⟩
      refine opt_of em ?_
      refine gd_of (small_by (by omega) (by omega)) ?_
      refine ⟨fun j ε => ∃ ns r k, ns.length ≤ 60 * i + j ∧ ε = e ns (I mi) (I x) (I r) k, ⟨ns, _, k, hl, rfl⟩, fun j d ε hj hd w => ?_, fun ε w => ?_⟩
      · have hdd := rangeD_get hd
        rw [hdd.2]
        obtain ⟨ns, r, k, hl, rfl⟩ := w
        have hj : j < m := by have := hdd.1; rw [Int.toNat_natCast] at this; exact this
        refine gd_of (show (((1 : Int) :: ns).map D.int).length < 16777216 by rw [List.length_map, List.length_cons]; omega) ?_
        rw [map_snoc]
        walk_at "y"
        split
        · exact ⟨ns ++ [r % 60], _, _, _, _, by rw [List.length_append]; show ns.length + 1 ≤ 60 * (i + 1); omega, rfl⟩
        · exact ⟨ns ++ [r % 60], _, _, by rw [List.length_append]; show ns.length + 1 ≤ 60 * i + (j + 1); omega, rfl⟩
      · obtain ⟨ns, r, k, hl, rfl⟩ := w
        rw [rangeD_len, Int.toNat_natCast] at hl
        exact ⟨ns, _, _, _, _, by show ns.length ≤ 60 * (i + 1); omega, rfl⟩
    · obtain ⟨ns, mi, c, r, k, hl, rfl⟩ := w
      refine ⟨fun j ε => ∃ ns' mi k, ns'.length = ns.length + j ∧ ε = e ns' (I mi) c r k, ⟨ns, mi, k, rfl, rfl⟩, fun j d ε hj hd w => ?_, fun ε w => ?_⟩
      · have hdd := rangeD_get hd
        rw [hdd.2]
        obtain ⟨ns', mi, k, hl', rfl⟩ := w
        have hj : j < 900 := hdd.1
        refine gd_of (.inr ⟨by decide, by decide⟩) ?_
        refine gd_of (show (((1 : Int) :: ns').map D.int).length < 16777216 by rw [List.length_map, List.length_cons]; omega) ?_
        rw [map_snoc]
        exact ⟨ns' ++ [(mi * 48271 + 11) % 2147483647 / 97 % 60], _, _, by rw [List.length_append, hl']; rfl, rfl⟩
      · obtain ⟨ns', mi, k, hl', rfl⟩ := w
        rw [rangeD_len] at hl'
        replace hl' : ns'.length = ns.length + 900 := hl'
        refine h (1 :: ns') ⟨?_, ?_, 1, rfl, by decide, ?_⟩
        · show 2 ≤ ns'.length + 1; omega
        · show ns'.length + 1 ≤ _; omega
        · show (1 : Int) < ((ns'.length + 1 : Nat) : Int); omega
  · exact h.elim
def φ_law_index : Spec
  | [.pool, .int n], Q, _ => gd (0 < n) (∀ r : Int, 0 ≤ r → r < n → Q (.int r))
  | _, _, _ => False
abbrev N_law_index : List Str := ["pool", "many", "high"]
def r_law_index (Ξ : Xi) : PTS :=
  (ysSeq (ysAsg (yCall φ_law_pick Ξ (ylCons (yVar 0) (ylCons (yC (.int 60)) ylNil))) 2)
  (ysRet (yBin oMod (yCB oInt (ylCons (yBin oAdd (yBin oMulA (yVar 2) (yC (.int 60))) (yCall φ_law_pick Ξ (ylCons (yVar 0) (ylCons (yC (.int 60)) ylNil)))) ylNil)) (yVar 1))))
theorem vc_law_index (ds : List D) (Q' : D → Prop) (E' : Nat → Prop) (h : φ_law_index ds Q' E') : r_law_index (fun c _ => E' c) { nx := fun _ => Q' .non, rt := fun d _ => Q' d } (startE N_law_index ds) := by
  unfold φ_law_index at h
  split at h
  · rename_i n
    obtain ⟨hn, h2⟩ := gd_elim h
    intro k k0 k1
    refine gd_of (.inr ⟨by decide, by decide⟩) ?_
    intro r a0 a1
    refine gd_of hn ?_
    exact h2 _ (Int.emod_nonneg _ (by omega)) (Int.emod_lt_of_pos _ hn)
  · exact h.elim

def sAt : Str := S0 [97, 116]
def sRm : Str := S0 [114, 111, 111, 109]
theorem s_at : ("at" : Str) = sAt := by kernel_rfl
theorem s_room : ("room" : Str) = sRm := by kernel_rfl
def refD : D := .tup [.str ("refused" : Str), .bl true, .bl false]
def saidD (p : D) : D := .tup [.str ("told" : Str), p]
abbrev exCs : List Nat := [0, 10, 11]
/-! ### the same -/
mutual
/-- plain to this depth -/
def plainD : Nat → D → Bool
  | 0, _ => false
  | _ + 1, .non => true
  | _ + 1, .bl _ => true
  | _ + 1, .int _ => true
  | _ + 1, .str _ => true
  | n + 1, .tup ds => decide (ds.length ≤ 1100) && plainDs n ds
  | n + 1, .lst ds => decide (ds.length ≤ 1100) && plainDs n ds
  | _ + 1, _ => false
def plainDs : Nat → List D → Bool
  | _, [] => true
  | n, d :: ds => plainD n d && plainDs n ds
end
mutual
/-- isinstance tells all of it, to this depth -/
def anyD : Nat → D → Bool
  | 0, _ => true
  | _ + 1, .vl _ => false
  | _ + 1, .pool => false
  | _ + 1, .err _ _ => false
  | _ + 1, .frl _ => false
  | n + 1, .tup ds => decide (ds.length ≤ 1100) && anyDs n ds
  | n + 1, .lst ds => decide (ds.length ≤ 1100) && anyDs n ds
  | _ + 1, _ => true
def anyDs : Nat → List D → Bool
  | _, [] => true
  | n, d :: ds => anyD n d && anyDs n ds
end
mutual
def sameB : Nat → D → D → Bool
  | 0, _, _ => false
  | _ + 1, one, .non => isNon one
  | _ + 1, .bl a, .bl b => decide (a = b)
  | _ + 1, .int a, .int b => decide (a = b)
  | _ + 1, .str a, .str b => decide (a = b)
  | n + 1, .tup ds, .tup es => sameBs n ds es
  | n + 1, .lst ds, .lst es => sameBs n ds es
  | _ + 1, _, _ => false
def sameBs : Nat → List D → List D → Bool
  | _, [], [] => true
  | n, d :: ds, e :: es => sameB n d e && sameBs n ds es
  | _, _, _ => false
end
theorem plain_at : ∀ {n : Nat} {ds : List D} {i : Nat} {d : D}, plainDs n ds = true → ds[i]? = some d → plainD n d = true
  | n, [], i, d, _, h => by simp at h
  | n, x :: xs, 0, d, hp, h => by
    obtain rfl : x = d := by simpa using h
    unfold plainDs at hp
    exact (Bool.and_eq_true_iff.mp hp).1
  | n, x :: xs, i + 1, d, hp, h => by
    unfold plainDs at hp
    exact plain_at (Bool.and_eq_true_iff.mp hp).2 (by simpa using h)
theorem any_at : ∀ {n : Nat} {ds : List D} {i : Nat} {d : D}, anyDs n ds = true → ds[i]? = some d → anyD n d = true
  | n, [], i, d, _, h => by simp at h
  | n, x :: xs, 0, d, hp, h => by
    obtain rfl : x = d := by simpa using h
    unfold anyDs at hp
    exact (Bool.and_eq_true_iff.mp hp).1
  | n, x :: xs, i + 1, d, hp, h => by
    unfold anyDs at hp
    exact any_at (Bool.and_eq_true_iff.mp hp).2 (by simpa using h)
theorem same_len : ∀ {n : Nat} {ds es : List D}, ds.length ≠ es.length → sameBs n ds es = false
  | n, [], [], h => absurd rfl h
  | n, [], _ :: _, _ => by unfold sameBs; rfl
  | n, _ :: _, [], _ => by unfold sameBs; rfl
  | n, d :: ds, e :: es, h => by
    unfold sameBs
    rw [same_len (fun z => h (by rw [List.length_cons, List.length_cons, z])), Bool.and_false]
def pairB (n : Nat) (ds es : List D) (i : Nat) : Bool := match ds[i]?, es[i]? with
  | some d, some e => sameB n d e
  | _, _ => false
theorem same_all : ∀ {n : Nat} {ds es : List D}, ds.length = es.length → sameBs n ds es = (List.range es.length).all (pairB n ds es)
  | n, [], [], _ => by unfold sameBs; rfl
  | n, [], _ :: _, h => by cases h
  | n, _ :: _, [], h => by cases h
  | n, d :: ds, e :: es, h => by
    unfold sameBs
    rw [same_all (Nat.succ.inj h), List.length_cons, List.range_succ_eq_map, List.all_cons, List.all_map]
    rfl
def pD (n : Nat) (ds es : List D) : D → D
  | .int i => .bl (pairB n ds es i.toNat)
  | _ => .non
theorem pD_map {m n : Nat} {ds es : List D} : (rangeD 0 m).map (pD n ds es) = ((List.range m).map (pairB n ds es)).map D.bl := by
  unfold rangeD
  rw [List.map_map, List.map_map]
  apply List.map_congr_left
  intro i _
  show D.bl (pairB n ds es (0 + (i : Int)).toNat) = D.bl (pairB n ds es i)
  rw [show (0 + (i : Int)).toNat = i by omega]
def sameN (n : Nat) : Spec := fun ds Q _ => ∃ one due, ds = [one, due] ∧ anyD n one = true ∧ plainD n due = true ∧ Q (.bl (sameB n one due))
theorem any_reg {n : Nat} {d : D} (h : anyD (n + 1) d = true) : regB d = true := by
  cases d <;> first | rfl | exact h
theorem vc_seq {n : Nat} {ds es : List D} {Q' : D → Prop} {ψ : Spec} {Ξ : Xi} {one due : D} (ho : one = .tup ds ∨ one = .lst ds) (hd : due = .tup es ∨ due = .lst es) (hψ : ψ = sameN n)
    (a1 : anyDs n ds = true) (a2 : plainDs n es = true) (hl : es.length ≤ 1100) (he : ds.length = es.length) (h : Q' (.bl (sameBs n ds es))) :
    (ysRet (yCB oAll (ylCons (yNew (ynLc (yiRg1 (ylCons (yCB oLen (ylCons (yVar 1) ylNil)) ylNil)) (gN 2) yYes (yCall ψ Ξ0 (ylCons (yIx (yVar 0) (yVar 2)) (ylCons (yIx (yVar 1) (yVar 2)) ylNil))) [2])) ylNil))) { nx := fun _ => Q' .non, rt := fun d _ => Q' d } [some (.v one), some (.v due), none, none] := by
  subst hψ
  have fin : ∀ m, m = es.length → oAll [.lst ((rangeD 0 m).map (pD n ds es))] Q' := fun m hm => by
    subst hm
    rw [pD_map]
    refine all_bls ?_
    rw [List.all_map]
    rw [same_all he] at h
    exact h
  have step : ∀ (i : Nat), i < es.length → ∀ K : D → Prop, K (.bl (pairB n ds es i)) → ∃ d e, ds[i]? = some d ∧ es[i]? = some e ∧ anyD n d = true ∧ plainD n e = true ∧ K (.bl (sameB n d e)) := fun i hi K hk => by
    have g1 : ds[i]? = some ds[i] := List.getElem?_eq_getElem (by omega)
    have g2 : es[i]? = some es[i] := List.getElem?_eq_getElem hi
    refine ⟨_, _, g1, g2, any_at a1 g1, plain_at a2 g2, ?_⟩
    unfold pairB at hk
    rw [g1, g2] at hk
    exact hk
  rcases ho with rfl | rfl <;> rcases hd with rfl | rfl <;>
  · refine gd_of (small_any (by omega) (by omega)) ?_
    refine ⟨⟨trivial, trivial⟩, by rw [rangeD_len]; omega, lc_map (pD n ds es) (fun i d hd K N hk => ?_) (fin _ (Int.toNat_natCast _))⟩
    obtain ⟨hi, rfl⟩ := rangeD_get hd
    replace hi : i < es.length := by rw [Int.toNat_natCast] at hi; exact hi
    rw [z_add] at hk ⊢
    obtain ⟨d, e, g1, g2, x1, x2, x3⟩ := step i hi K hk
    refine opt_of (atI_nat g1) ?_
    refine opt_of (atI_nat g2) ?_
    exact ⟨d, e, rfl, x1, x2, rfl, x3⟩
abbrev N_law_same : List Str := ["one", "due", "k", "key"]
def r_law_same (ψ : Spec) (Ξ : Xi) : PTS :=
  (ysSeq (ysIf (yBinT (oIsN false) (yVar 1) (yC .non))
  (ysRet (yBin (oIsN false) (yVar 0) (yC .non)))
  ysNext)
  (ysSeq (ysIf (yTru (yIs .bool (yVar 1)))
  (ysRet (yAndV (yIs .bool (yVar 0)) (yBin (oEq false) (yVar 0) (yVar 1))))
  ysNext)
  (ysSeq (ysIf (yTru (yIs .int (yVar 1)))
  (ysRet (yAndV (yIs .int (yVar 0)) (yAndV (yNotB (yIs .bool (yVar 0))) (yBin (oEq false) (yVar 0) (yVar 1)))))
  ysNext)
  (ysSeq (ysIf (yTru (yIs .str (yVar 1)))
  (ysRet (yAndV (yIs .str (yVar 0)) (yBin (oEq false) (yVar 0) (yVar 1))))
  ysNext)
  (ysSeq (ysIf (yTru (yIs .dict (yVar 1)))
  (ysSeq (ysIf (yOr (yNot (yTru (yIs .dict (yVar 0)))) (yBinT (oEq true) (yCB oLen (ylCons (yVar 0) ylNil)) (yCB oLen (ylCons (yVar 1) ylNil))))
  (ysRet (yC (.bl false)))
  ysNext)
  (ysRet (yCB oAll (ylCons (yNew (ynLc (yiSeq (yVar 1)) (gN 3) yYes (yAndV (yBin (oIn false) (yVar 3) (yVar 0)) (yCall ψ Ξ0 (ylCons (yIx (yVar 0) (yVar 3)) (ylCons (yIx (yVar 1) (yVar 3)) ylNil)))) [3])) ylNil))))
  ysNext)
  (ysSeq (ysIf (yOr (yBinT (oEq true) (yIs .list (yVar 0)) (yIs .list (yVar 1))) (yOr (yNot (yTru (yIs2 .list .tuple (yVar 0)))) (yBinT (oEq true) (yCB oLen (ylCons (yVar 0) ylNil)) (yCB oLen (ylCons (yVar 1) ylNil)))))
  (ysRet (yC (.bl false)))
  ysNext)
  (ysRet (yCB oAll (ylCons (yNew (ynLc (yiRg1 (ylCons (yCB oLen (ylCons (yVar 1) ylNil)) ylNil)) (gN 2) yYes (yCall ψ Ξ0 (ylCons (yIx (yVar 0) (yVar 2)) (ylCons (yIx (yVar 1) (yVar 2)) ylNil))) [2])) ylNil)))))))))
theorem vc_law_same {n : Nat} (ds : List D) (Q' : D → Prop) (E' : Nat → Prop) (h : (sameN (n + 1)) ds Q' E') : r_law_same (sameN n) (fun c _ => E' c) { nx := fun _ => Q' .non, rt := fun d _ => Q' d } (startE N_law_same ds) := by
  obtain ⟨one, due, rfl, ha, hp, h⟩ := h
  have two : ∀ (ds es : List D), anyDs n ds = true → plainDs n es = true → es.length ≤ 1100 → Q' (.bl (sameBs n ds es)) → (one = .tup ds ∧ due = .tup es ∨ one = .lst ds ∧ due = .lst es) → r_law_same (sameN n) (fun c x => E' c) { nx := fun x => Q' D.non, rt := fun d x => Q' d } (startE N_law_same [one, due]) := by
    intro ds es a1 a2 hl hq ho
    rcases ho with ⟨rfl, rfl⟩ | ⟨rfl, rfl⟩ <;>
    · walk_at "y"
      show (match !decide (((ds.length : Nat) : Int) = ((es.length : Nat) : Int)) with
        | true => _
        | false => _)
      cases he : decide (((ds.length : Nat) : Int) = ((es.length : Nat) : Int)) with
      | false =>
        have he := of_decide_eq_false he
        rw [same_len (fun z => he (by rw [z]))] at hq
        exact hq
      | true =>
        have he := of_decide_eq_true he
        first
          | exact vc_seq (Ξ := fun _ _ => False) (.inl rfl) (.inl rfl) rfl a1 a2 hl (by omega) hq
          | exact vc_seq (Ξ := fun _ _ => False) (.inr rfl) (.inr rfl) rfl a1 a2 hl (by omega) hq
  cases due with
  | non => cases one <;> first | (cases ha; done) | (unfold sameB at h; exact h)
  | bl b => cases one <;> first | (cases ha; done) | (unfold sameB at h; exact h)
  | int b => cases one <;> first | (cases ha; done) | (unfold sameB at h; exact h)
  | str b => cases one <;> first | (cases ha; done) | (unfold sameB at h; exact h)
  | tup es =>
    cases one with
    | tup ds =>
      unfold sameB at h
      unfold anyD at ha
      unfold plainD at hp
      obtain ⟨hl, hp⟩ := Bool.and_eq_true_iff.mp hp
      obtain ⟨_, ha⟩ := Bool.and_eq_true_iff.mp ha
      exact two ds es ha hp (of_decide_eq_true hl) h (.inl ⟨rfl, rfl⟩)
    | vl _ => cases ha
    | pool => cases ha
    | frl _ => cases ha
    | err _ _ => cases ha
    | _ => unfold sameB at h; exact h
  | lst es =>
    cases one with
    | lst ds =>
      unfold sameB at h
      unfold anyD at ha
      unfold plainD at hp
      obtain ⟨hl, hp⟩ := Bool.and_eq_true_iff.mp hp
      obtain ⟨_, ha⟩ := Bool.and_eq_true_iff.mp ha
      exact two ds es ha hp (of_decide_eq_true hl) h (.inr ⟨rfl, rfl⟩)
    | vl _ => cases ha
    | pool => cases ha
    | frl _ => cases ha
    | err _ _ => cases ha
    | _ => unfold sameB at h; exact h
  | _ => unfold plainD at hp; cases hp
theorem zero_law_same (ds : List D) (Q : D → Prop) (E : Nat → Prop) (h : sameN 0 ds Q E) : False := by
  obtain ⟨one, due, rfl, _, hp, _⟩ := h
  unfold plainD at hp
  cases hp
theorem len_same (n : Nat) (ds : List D) (Q : D → Prop) (E : Nat → Prop) (h : sameN n ds Q E) : ds.length = 2 := by
  obtain ⟨one, due, rfl, _⟩ := h
  rfl

end PL.K48

set_option Elab.async false
set_option linter.all false
set_option autoImplicit false
set_option maxRecDepth 100000
set_option maxHeartbeats 1000000
namespace PL.K48
open PySem PySem.Spec PyProof.Rows L2
local macro_rules | `(tactic| walk_at "y") => `(tactic| conv => whnf)
/-! ### gaps -/
theorem maxL_spec : ∀ (xs : List Int) (a : Int), (maxL a xs = a ∨ maxL a xs ∈ xs) ∧ a ≤ maxL a xs ∧ ∀ y ∈ xs, y ≤ maxL a xs
  | [], a => ⟨.inl rfl, Int.le_refl _, fun _ h => by cases h⟩
  | x :: r, a => by
    obtain ⟨h1, h2, h3⟩ := maxL_spec r (if a < x then x else a)
    unfold maxL
    by_cases h : a < x
    · rw [if_pos h] at h1 h2 h3 ⊢
      exact ⟨.inr (h1.elim (fun e => by rw [e]; exact List.mem_cons_self) (List.mem_cons_of_mem _)), by omega, fun y hy => (List.mem_cons.mp hy).elim (fun e => by rw [e]; exact h2) (h3 y)⟩
    · rw [if_neg h] at h1 h2 h3 ⊢
      exact ⟨h1.elim .inl (fun e => .inr (List.mem_cons_of_mem _ e)), h2, fun y hy => (List.mem_cons.mp hy).elim (fun e => by rw [e]; omega) (h3 y)⟩
theorem minL_spec : ∀ (xs : List Int) (a : Int), (minL a xs = a ∨ minL a xs ∈ xs) ∧ minL a xs ≤ a ∧ ∀ y ∈ xs, minL a xs ≤ y
  | [], a => ⟨.inl rfl, Int.le_refl _, fun _ h => by cases h⟩
  | x :: r, a => by
    obtain ⟨h1, h2, h3⟩ := minL_spec r (if x < a then x else a)
    unfold minL
    by_cases h : x < a
    · rw [if_pos h] at h1 h2 h3 ⊢
      exact ⟨.inr (h1.elim (fun e => by rw [e]; exact List.mem_cons_self) (List.mem_cons_of_mem _)), by omega, fun y hy => (List.mem_cons.mp hy).elim (fun e => by rw [e]; exact h2) (h3 y)⟩
    · rw [if_neg h] at h1 h2 h3 ⊢
      exact ⟨h1.elim .inl (fun e => .inr (List.mem_cons_of_mem _ e)), h2, fun y hy => (List.mem_cons.mp hy).elim (fun e => by rw [e]; omega) (h3 y)⟩
theorem maxL_is {xs : List Int} {m : Int} (h1 : m ∈ (0 : Int) :: xs) (h2 : ∀ y ∈ (0 : Int) :: xs, y ≤ m) : m = maxL 0 xs := by
  obtain ⟨k1, k2, k3⟩ := maxL_spec xs 0
  have a : maxL 0 xs ≤ m := h2 _ (k1.elim (fun e => by rw [e]; exact List.mem_cons_self) (List.mem_cons_of_mem _))
  have b : m ≤ maxL 0 xs := (List.mem_cons.mp h1).elim (fun e => by rw [e]; exact k2) (k3 m)
  omega
theorem minL_is {xs : List Int} {m : Int} (h1 : m ∈ (0 : Int) :: xs) (h2 : ∀ y ∈ (0 : Int) :: xs, m ≤ y) : m = minL 0 xs := by
  obtain ⟨k1, k2, k3⟩ := minL_spec xs 0
  have a : m ≤ minL 0 xs := h2 _ (k1.elim (fun e => by rw [e]; exact List.mem_cons_self) (List.mem_cons_of_mem _))
  have b : minL 0 xs ≤ m := (List.mem_cons.mp h1).elim (fun e => by rw [e]; exact k2) (k3 m)
  omega
theorem gap_max {xs : List Int} {m : Int} (h1 : m ∈ (0 : Int) :: xs) (h2 : ∀ y ∈ (0 : Int) :: xs, y ≤ m) {n : Int} (h3 : n ∈ (0 : Int) :: xs) (h4 : ∀ y ∈ (0 : Int) :: xs, n ≤ y) : m + n = gapI xs := by
  rw [maxL_is h1 h2, minL_is h3 h4]
  rfl
abbrev N_gap : List Str := ["margins"]
def r_gap (Ξ : Xi) : PTS :=
  (ysRet (yBin oAdd (yCB oMaxL (ylCons (yBin oAdd (yNew (ynLst (ylCons (yC (.int 0)) ylNil))) (yVar 0)) ylNil)) (yCB oMinL (ylCons (yBin oAdd (yNew (ynLst (ylCons (yC (.int 0)) ylNil))) (yVar 0)) ylNil))))
theorem vc_gap (ds : List D) (Q' : D → Prop) (E' : Nat → Prop) (h : φ_gap ds Q' E') : r_gap (fun c _ => E' c) { nx := fun _ => Q' .non, rt := fun d _ => Q' d } (startE N_gap ds) := by
  unfold φ_gap at h
  split at h
  · obtain ⟨xs, rfl, hl, h⟩ := h
    have hg : ([D.int 0] : List D).length + (xs.map D.int).length ≤ 16777216 := by rw [List.length_map, List.length_singleton]; omega
    refine gd_of hg ?_
    refine opt_of (toInts_map (0 :: xs)) ⟨Nat.succ_pos _, fun m h1 h2 => ?_⟩
    refine gd_of hg ?_
    refine opt_of (toInts_map (0 :: xs)) ⟨Nat.succ_pos _, fun n h3 h4 => ?_⟩
    rw [← gap_max h1 h2 h3 h4] at h
    exact h
  · exact h.elim
def φ_law_gap : Spec := φ_gap
abbrev N_law_gap : List Str := ["margins"]
def r_law_gap (Ξ : Xi) : PTS :=
  (ysRet (yBin oAdd (yCB oMaxL (ylCons (yBin oAdd (yNew (ynLst (ylCons (yC (.int 0)) ylNil))) (yVar 0)) ylNil)) (yCB oMinL (ylCons (yBin oAdd (yNew (ynLst (ylCons (yC (.int 0)) ylNil))) (yVar 0)) ylNil))))
theorem vc_law_gap (ds : List D) (Q' : D → Prop) (E' : Nat → Prop) (h : φ_gap ds Q' E') : r_law_gap (fun c _ => E' c) { nx := fun _ => Q' .non, rt := fun d _ => Q' d } (startE N_law_gap ds) := by
  unfold φ_gap at h
  split at h
  · obtain ⟨xs, rfl, hl, h⟩ := h
    have hg : ([D.int 0] : List D).length + (xs.map D.int).length ≤ 16777216 := by rw [List.length_map, List.length_singleton]; omega
    refine gd_of hg ?_
    refine opt_of (toInts_map (0 :: xs)) ⟨Nat.succ_pos _, fun m h1 h2 => ?_⟩
    refine gd_of hg ?_
    refine opt_of (toInts_map (0 :: xs)) ⟨Nat.succ_pos _, fun n h3 h4 => ?_⟩
    rw [← gap_max h1 h2 h3 h4] at h
    exact h
  · exact h.elim
theorem allWhole_ints (xs : List Int) : (xs.map D.int).all isWholeB = true := by
  rw [List.all_map, List.all_eq_true]
  intro _ _
  rfl
theorem whole_all : ∀ {ds : List D}, ds.all isWholeB = true → ∃ xs : List Int, ds = xs.map D.int
  | [], _ => ⟨[], rfl⟩
  | d :: ds, h => by
    obtain ⟨h1, h2⟩ := Bool.and_eq_true_iff.mp h
    obtain ⟨xs, rfl⟩ := whole_all h2
    obtain ⟨i, rfl⟩ := whole_of h1
    exact ⟨i :: xs, rfl⟩
/-- what gap_of refuses -/
def badGap : D → Bool
  | .lst ds => decide (ds.length ≤ 1000000) && (ds.all regB && !ds.all isWholeB)
  | .frl _ => false
  | d => regB d
def φ_gap_of : Spec
  | [d], Q, E => (badGap d = true ∧ E 10) ∨ ∃ xs : List Int, d = .lst (xs.map D.int) ∧ xs.length ≤ 1000000 ∧ Q (.int (gapI xs))
  | _, _, _ => False
abbrev N_gap_of : List Str := ["margins", "margin"]
def r_gap_of (Ξ : Xi) : PTS :=
  (ysSeq (ysIf (yOr (yNot (yTru (yIs .list (yVar 0)))) (yNot (yTru (yCB oAll (ylCons (yNew (ynLc (yiSeq (yVar 0)) (gN 1) yYes (yCall φ_is_whole Ξ0 (ylCons (yVar 1) ylNil)) [1])) ylNil)))))
  (ysRaise 10 Ξ)
  ysNext)
  (ysRet (yCall φ_gap Ξ (ylCons (yVar 0) ylNil))))
theorem vc_gap_of (ds : List D) (Q' : D → Prop) (E' : Nat → Prop) (h : φ_gap_of ds Q' E') : r_gap_of (fun c _ => E' c) { nx := fun _ => Q' .non, rt := fun d _ => Q' d } (startE N_gap_of ds) := by
  unfold φ_gap_of at h
  split at h
  · have key : ∀ (ds : List D), ds.all regB = true → ds.length ≤ 1000000 → (match !ds.all isWholeB with
        | true => E' 10
        | false => φ_gap [.lst ds] Q' E') → r_gap_of (fun c _ => E' c) { nx := fun _ => Q' .non, rt := fun d _ => Q' d } (startE N_gap_of [.lst ds]) := by
      intro ds hr hl h
      refine ⟨⟨trivial, trivial⟩, by omega, lc_map (boolD isWholeB) (fun i d hd K N hk => ?_) ?_⟩
      · exact ⟨List.all_eq_true.mp hr _ (List.mem_of_getElem? hd), rfl, hk⟩
      · rw [map_bool]
        refine opt_of (toBls_map _) ?_
        rw [List.all_map]
        walk_at "y"
        replace h : (match !ds.all (id ∘ isWholeB) with
          | true => E' 10
          | false => φ_gap [.lst ds] Q' E') := h
        revert h
        generalize ds.all (id ∘ isWholeB) = b
        intro h
        cases b
        · exact h
        · exact h
    rename_i d
    rcases h with ⟨h1, h2⟩ | ⟨xs, rfl, hl, h⟩
    · cases d with
      | lst ds =>
        obtain ⟨h3, h4⟩ := Bool.and_eq_true_iff.mp h1
        obtain ⟨h4, h5⟩ := Bool.and_eq_true_iff.mp h4
        refine key ds h4 (of_decide_eq_true h3) ?_
        rw [h5]
        exact h2
      | vl _ => cases h1
      | pool => cases h1
      | err _ _ => cases h1
      | frl _ => cases h1
      | _ => exact h2
    · refine key _ (List.all_eq_true.mpr fun d hd => ?_) (by rw [List.length_map]; exact hl) ?_
      · obtain ⟨i, _, rfl⟩ := List.mem_map.mp hd
        rfl
      · rw [allWhole_ints]
        exact ⟨xs, rfl, hl, h⟩
  · exact h.elim

end PL.K48

set_option Elab.async false
set_option linter.all false
set_option autoImplicit false
set_option maxRecDepth 100000
set_option maxHeartbeats 1000000
namespace PL.K48
open PySem PySem.Spec PyProof.Rows L2
local macro_rules | `(tactic| walk_at "y") => `(tactic| conv => whnf)
/-! ### nested marks -/
def nRun : List Int → List Int → List Mk → Option (List Int × List Int)
  | w, met, [] => some (w, met)
  | w, met, .op n _ :: ms => if n ∈ met then none else nRun (n :: w) (n :: met) ms
  | [], _, .cl _ _ :: _ => none
  | x :: w, met, .cl n _ :: ms => if x = n then nRun w met ms else none
  | w, met, .br _ :: ms => nRun w met ms
  | w, met, .mv _ :: ms => nRun w met ms
def nestE : Option (List Int × List Int) → Bool
  | some ([], _) => true
  | _ => false
def nestB (ms : List Mk) : Bool := nestE (nRun [] [] ms)
theorem nRun_app : ∀ {a b : List Mk} {w met : List Int}, nRun w met (a ++ b) = (nRun w met a).bind fun p => nRun p.1 p.2 b
  | [], b, w, met => rfl
  | .op n v :: a, b, w, met => by
    show (if n ∈ met then none else nRun (n :: w) (n :: met) (a ++ b)) = ((if n ∈ met then none else nRun (n :: w) (n :: met) a) : Option _).bind _
    split
    · rfl
    · exact nRun_app
  | .cl n v :: a, b, [], met => rfl
  | .cl n v :: a, b, x :: w, met => by
    show (if x = n then nRun w met (a ++ b) else none) = ((if x = n then nRun w met a else none) : Option _).bind _
    split
    · exact nRun_app
    · rfl
  | .br r :: a, b, w, met => nRun_app (a := a)
  | .mv r :: a, b, w, met => nRun_app (a := a)
/-- a run that ends well: from a stack of names that were met -/
def Good (w met : List Int) (ms : List Mk) : Prop := nestE (nRun w met ms) = true ∧ (∀ x ∈ w, x ∈ met) ∧ w.Nodup
theorem good_of {ms : List Mk} (h : nestB ms = true) : Good [] [] ms := ⟨h, fun _ h => (by cases h), List.nodup_nil⟩
theorem Good.op {w met : List Int} {n v : Int} {ms : List Mk} (h : Good w met (.op n v :: ms)) : n ∉ met ∧ Good (n :: w) (n :: met) ms := by
  obtain ⟨h1, h2, h3⟩ := h
  replace h1 : nestE (if n ∈ met then none else nRun (n :: w) (n :: met) ms) = true := h1
  by_cases e : n ∈ met
  · rw [if_pos e] at h1
    cases h1
  · rw [if_neg e] at h1
    exact ⟨e, h1, fun x hx => (List.mem_cons.mp hx).elim (fun z => z ▸ List.mem_cons_self) (fun z => List.mem_cons_of_mem _ (h2 x z)), List.nodup_cons.mpr ⟨fun z => e (h2 _ z), h3⟩⟩
theorem Good.cl {w met : List Int} {n v : Int} {ms : List Mk} (h : Good w met (.cl n v :: ms)) : ∃ w', w = n :: w' ∧ n ∉ w' ∧ Good w' met ms := by
  obtain ⟨h1, h2, h3⟩ := h
  cases w with
  | nil => cases h1
  | cons x w =>
    replace h1 : nestE (if x = n then nRun w met ms else none) = true := h1
    by_cases e : x = n
    · rw [if_pos e] at h1
      subst e
      exact ⟨w, rfl, (List.nodup_cons.mp h3).1, h1, fun y hy => h2 y (List.mem_cons_of_mem _ hy), (List.nodup_cons.mp h3).2⟩
    · rw [if_neg e] at h1
      cases h1
theorem Good.br {w met : List Int} {r : Int} {ms : List Mk} (h : Good w met (.br r :: ms)) : Good w met ms := ⟨h.1, h.2⟩
theorem Good.mv {w met : List Int} {r : Int} {ms : List Mk} (h : Good w met (.mv r :: ms)) : Good w met ms := ⟨h.1, h.2⟩
/-- no name is opened again -/
theorem no_op : ∀ {ms : List Mk} {w met : List Int} {n v : Int} {j : Nat}, Good w met ms → n ∈ met → ms[j]? ≠ some (.op n v)
  | [], _, _, _, _, j, _, _ => fun h => by simp at h
  | m :: ms, w, met, n, v, j, g, hn => fun h => by
    cases j with
    | zero =>
      obtain rfl : m = .op n v := by simpa using h
      exact (Good.op g).1 hn
    | succ j =>
      have h : ms[j]? = some (.op n v) := by simpa using h
      cases m with
      | op x u => exact no_op (Good.op g).2 (List.mem_cons_of_mem _ hn) h
      | cl x u =>
        obtain ⟨w', _, _, g⟩ := Good.cl g
        exact no_op g hn h
      | br r => exact no_op (Good.br g) hn h
      | mv r => exact no_op (Good.mv g) hn h
/-- what is not open is not closed -/
theorem no_cl : ∀ {ms : List Mk} {w met : List Int} {n v : Int} {j : Nat}, Good w met ms → n ∈ met → n ∉ w → ms[j]? ≠ some (.cl n v)
  | [], _, _, _, _, j, _, _, _ => fun h => by simp at h
  | m :: ms, w, met, n, v, j, g, hn, hw => fun h => by
    cases j with
    | zero =>
      obtain rfl : m = .cl n v := by simpa using h
      obtain ⟨w', rfl, _⟩ := Good.cl g
      exact hw List.mem_cons_self
    | succ j =>
      have h : ms[j]? = some (.cl n v) := by simpa using h
      cases m with
      | op x u =>
        obtain ⟨e, g⟩ := Good.op g
        exact no_cl g (List.mem_cons_of_mem _ hn) (fun z => (List.mem_cons.mp z).elim (fun z => e (z ▸ hn)) hw) h
      | cl x u =>
        obtain ⟨w', rfl, _, g⟩ := Good.cl g
        exact no_cl g hn (fun z => hw (List.mem_cons_of_mem _ z)) h
      | br r => exact no_cl (Good.br g) hn hw h
      | mv r => exact no_cl (Good.mv g) hn hw h
/-- behind an opening -/
theorem at_op : ∀ {ms : List Mk} {w met : List Int} {n v : Int} {i : Nat}, Good w met ms → ms[i]? = some (.op n v) → ∃ w' met', n ∉ met' ∧ (∀ x ∈ w', x ∈ met') ∧ Good (n :: w') (n :: met') (ms.drop (i + 1))
  | [], _, _, _, _, i, _, h => by simp at h
  | m :: ms, w, met, n, v, i, g, h => by
    cases i with
    | zero =>
      obtain rfl : m = .op n v := by simpa using h
      exact ⟨w, met, (Good.op g).1, g.2.1, (Good.op g).2⟩
    | succ i =>
      have h : ms[i]? = some (.op n v) := by simpa using h
      cases m with
      | op x u => exact at_op (ms := ms) (i := i) (Good.op g).2 h
      | cl x u =>
        obtain ⟨w', _, _, g⟩ := Good.cl g
        exact at_op (ms := ms) (i := i) g h
      | br r => exact at_op (ms := ms) (i := i) (Good.br g) h
      | mv r => exact at_op (ms := ms) (i := i) (Good.mv g) h
/-- behind a closing -/
theorem at_cl : ∀ {ms : List Mk} {w met : List Int} {n v : Int} {i : Nat}, Good w met ms → ms[i]? = some (.cl n v) → ∃ w' met', n ∈ met' ∧ n ∉ w' ∧ Good w' met' (ms.drop (i + 1))
  | [], _, _, _, _, i, _, h => by simp at h
  | m :: ms, w, met, n, v, i, g, h => by
    cases i with
    | zero =>
      obtain rfl : m = .cl n v := by simpa using h
      obtain ⟨w', rfl, e, g'⟩ := Good.cl g
      exact ⟨w', met, g.2.1 _ List.mem_cons_self, e, g'⟩
    | succ i =>
      have h : ms[i]? = some (.cl n v) := by simpa using h
      cases m with
      | op x u => exact at_cl (ms := ms) (i := i) (Good.op g).2 h
      | cl x u =>
        obtain ⟨w', _, _, g⟩ := Good.cl g
        exact at_cl (ms := ms) (i := i) g h
      | br r => exact at_cl (ms := ms) (i := i) (Good.br g) h
      | mv r => exact at_cl (ms := ms) (i := i) (Good.mv g) h
/-- what is closed was opened -/
theorem cl_op : ∀ {ms : List Mk} {w met : List Int} {n v : Int} {j : Nat}, Good w met ms → ms[j]? = some (.cl n v) → n ∈ w ∨ ∃ i u, i < j ∧ ms[i]? = some (.op n u)
  | [], _, _, _, _, j, _, h => by simp at h
  | m :: ms, w, met, n, v, j, g, h => by
    cases j with
    | zero =>
      obtain rfl : m = .cl n v := by simpa using h
      obtain ⟨w', rfl, _⟩ := Good.cl g
      exact .inl List.mem_cons_self
    | succ j =>
      have h : ms[j]? = some (.cl n v) := by simpa using h
      have up : (∃ i u, i < j ∧ ms[i]? = some (.op n u)) → ∃ i u, i < j + 1 ∧ (m :: ms)[i]? = some (.op n u) := fun ⟨i, u, hi, e⟩ => ⟨i + 1, u, by omega, by simpa using e⟩
      cases m with
      | op x u =>
        rcases cl_op (Good.op g).2 h with z | z
        · rcases List.mem_cons.mp z with rfl | z
          · exact .inr ⟨0, u, by omega, rfl⟩
          · exact .inl z
        · exact .inr (up z)
      | cl x u =>
        obtain ⟨w', rfl, _, g⟩ := Good.cl g
        exact (cl_op g h).imp (List.mem_cons_of_mem _) up
      | br r => exact (cl_op (Good.br g) h).imp id up
      | mv r => exact (cl_op (Good.mv g) h).imp id up
/-- what is open is closed -/
theorem op_cl : ∀ {ms : List Mk} {w met : List Int} {n : Int}, Good w met ms → n ∈ w → ∃ (j : Nat) (v : Int), ms[j]? = some (Mk.cl n v)
  | [], w, _, _, g, h => by
    obtain ⟨g, _⟩ := g
    cases w with
    | nil => cases h
    | cons x w => cases g
  | m :: ms, w, met, n, g, h => by
    have up : (∃ (j : Nat) (v : Int), ms[j]? = some (Mk.cl n v)) → ∃ (j : Nat) (v : Int), (m :: ms)[j]? = some (Mk.cl n v) := fun ⟨j, v, e⟩ => ⟨j + 1, v, by simpa using e⟩
    cases m with
    | op x u => exact up (op_cl (Good.op g).2 (List.mem_cons_of_mem _ h))
    | cl x u =>
      obtain ⟨w', rfl, _, g⟩ := Good.cl g
      rcases List.mem_cons.mp h with rfl | h
      · exact ⟨0, u, rfl⟩
      · exact up (op_cl g h)
    | br r => exact up (op_cl (Good.br g) h)
    | mv r => exact up (op_cl (Good.mv g) h)
/-- within an opening and its end, what is closed was opened there -/
theorem inner : ∀ {ms : List Mk} {S w met : List Int} {n m v u : Int} {j j' : Nat}, Good (S ++ n :: w) met ms → ms[j]? = some (.cl n v) → ms[j']? = some (.cl m u) → j' < j → m ∈ S ∨ ∃ i t, i < j' ∧ ms[i]? = some (.op m t)
  | [], _, _, _, _, _, _, _, j, _, _, h, _, _ => by simp at h
  | x :: ms, S, w, met, n, m, v, u, j, j', g, h, h', hj => by
    obtain ⟨j, rfl⟩ : ∃ k, j = k + 1 := ⟨j - 1, by omega⟩
    have h : ms[j]? = some (.cl n v) := by simpa using h
    have up : ∀ {k}, (∃ i t, i < k ∧ ms[i]? = some (.op m t)) → ∃ i t, i < k + 1 ∧ (x :: ms)[i]? = some (.op m t) := fun ⟨i, u, hi, e⟩ => ⟨i + 1, u, by omega, by simpa using e⟩
    cases j' with
    | zero =>
      obtain rfl : x = .cl m u := by simpa using h'
      obtain ⟨w', e, _, g'⟩ := Good.cl g
      cases S with
      | nil =>
        obtain ⟨rfl, rfl⟩ : n = m ∧ w = w' := by simpa using e
        exact (no_cl g' (g.2.1 _ List.mem_cons_self) (List.nodup_cons.mp g.2.2).1 h).elim
      | cons s S =>
        obtain ⟨rfl, _⟩ : s = m ∧ S ++ n :: w = w' := by simpa using e
        exact .inl List.mem_cons_self
    | succ j' =>
      have h' : ms[j']? = some (.cl m u) := by simpa using h'
      cases x with
      | op y t =>
        obtain ⟨_, g⟩ := Good.op g
        rcases inner (S := y :: S) g h h' (by omega) with z | z
        · rcases List.mem_cons.mp z with rfl | z
          · exact .inr ⟨0, t, by omega, rfl⟩
          · exact .inl z
        · exact .inr (up z)
      | cl y t =>
        obtain ⟨w', e, hw, g'⟩ := Good.cl g
        cases S with
        | nil =>
          obtain ⟨rfl, rfl⟩ : n = y ∧ w = w' := by simpa using e
          exact (no_cl g' (g.2.1 _ List.mem_cons_self) hw h).elim
        | cons s S =>
          obtain ⟨rfl, rfl⟩ : s = y ∧ S ++ n :: w = w' := by simpa using e
          exact (inner g' h h' (by omega)).imp (List.mem_cons_of_mem _) up
      | br r => exact (inner (Good.br g) h h' (by omega)).imp id up
      | mv r => exact (inner (Good.mv g) h h' (by omega)).imp id up
theorem get_drop {ms : List Mk} {i j : Nat} {m : Mk} (h : ms[j]? = some m) (hi : i < j) : (ms.drop (i + 1))[j - (i + 1)]? = some m := by
  rw [List.getElem?_drop, show i + 1 + (j - (i + 1)) = j by omega]
  exact h
/-- one opening of each name -/
theorem N1 {ms : List Mk} (h : nestB ms = true) {i j : Nat} {n u v : Int} (hi : ms[i]? = some (.op n u)) (hj : ms[j]? = some (.op n v)) : i = j := by
  have no : ∀ {i j : Nat} {u v : Int}, ms[i]? = some (.op n u) → ms[j]? = some (.op n v) → ¬ i < j := fun hi hj lt => by
    obtain ⟨w, met, _, _, g⟩ := at_op (good_of h) hi
    exact no_op g List.mem_cons_self (get_drop hj lt)
  have a := no hi hj
  have b := no hj hi
  omega
theorem N2 {ms : List Mk} (h : nestB ms = true) {j : Nat} {n v : Int} (hj : ms[j]? = some (.cl n v)) : ∃ i u, i < j ∧ ms[i]? = some (.op n u) := (cl_op (good_of h) hj).elim (fun z => by cases z) id
theorem N3 {ms : List Mk} (h : nestB ms = true) {i j j' : Nat} {n m u v t : Int} (hi : ms[i]? = some (.op n u)) (hj : ms[j]? = some (.cl n v)) (hj' : ms[j']? = some (.cl m t)) (h1 : i < j') (h2 : j' < j) : ∃ i' s, i < i' ∧ i' < j' ∧ ms[i']? = some (.op m s) := by
  obtain ⟨w, met, _, _, g⟩ := at_op (good_of h) hi
  rcases inner (S := []) g (get_drop hj (by omega)) (get_drop hj' h1) (by omega) with z | ⟨i', s, lt, e⟩
  · cases z
  · rw [List.getElem?_drop] at e
    exact ⟨i + 1 + i', s, by omega, by omega, e⟩
theorem N4 {ms : List Mk} (h : nestB ms = true) {i : Nat} {n u : Int} (hi : ms[i]? = some (.op n u)) : ∃ j v, i < j ∧ ms[j]? = some (.cl n v) := by
  obtain ⟨w, met, _, _, g⟩ := at_op (good_of h) hi
  obtain ⟨j, v, e⟩ := op_cl g List.mem_cons_self
  rw [List.getElem?_drop] at e
  exact ⟨i + 1 + j, v, by omega, e⟩
theorem N5 {ms : List Mk} (h : nestB ms = true) {i j : Nat} {n u v : Int} (hi : ms[i]? = some (.cl n u)) (hj : ms[j]? = some (.cl n v)) : i = j := by
  have no : ∀ {i j : Nat} {u v : Int}, ms[i]? = some (.cl n u) → ms[j]? = some (.cl n v) → ¬ i < j := fun hi hj lt => by
    obtain ⟨w, met, a, b, g⟩ := at_cl (good_of h) hi
    exact no_cl g a b (get_drop hj lt)
  have a := no hi hj
  have b := no hj hi
  omega

end PL.K48

set_option Elab.async false
set_option linter.all false
set_option autoImplicit false
set_option maxRecDepth 100000
set_option maxHeartbeats 1000000
namespace PL.K48
open PySem PySem.Spec PyProof.Rows L2
local macro_rules | `(tactic| walk_at "y") => `(tactic| conv => whnf)
/-! ### runs, plain -/
def runN (ms : List Mk) (k : Nat) : Nat := (ms.take k).countP isBr
theorem runN_zero (ms : List Mk) : runN ms 0 = 0 := rfl
theorem runN_succ {ms : List Mk} {k : Nat} {m : Mk} (h : ms[k]? = some m) : runN ms (k + 1) = runN ms k + if isBr m then 1 else 0 := by
  unfold runN
  rw [List.take_add_one, h, List.countP_append]
  cases hm : isBr m <;> simp [hm]
theorem runN_mono (ms : List Mk) {i j : Nat} (h : i ≤ j) : runN ms i ≤ runN ms j := by
  unfold runN
  have e : ms.take i = (ms.take j).take i := by rw [List.take_take, Nat.min_eq_left h]
  rw [e]
  exact (List.take_sublist _ _).countP_le
theorem runN_le (ms : List Mk) (k : Nat) : runN ms k ≤ ms.length := by
  unfold runN
  have a := List.countP_le_length (p := isBr) (l := ms.take k)
  have b := List.length_take_le k ms
  have c : (ms.take k).length ≤ ms.length := by rw [List.length_take]; omega
  omega
/-- no break from here to there -/
theorem runN_same {ms : List Mk} {f : Nat} : ∀ {d : Nat}, (∀ i m, f ≤ i → i < f + d → ms[i]? = some m → isBr m = false) → f + d ≤ ms.length → runN ms (f + d) = runN ms f
  | 0, _, _ => rfl
  | d + 1, h, hl => by
    have hg : ms[f + d]? = some ms[f + d] := List.getElem?_eq_getElem (by omega)
    rw [show f + (d + 1) = f + d + 1 by omega, runN_succ hg, h _ _ (by omega) (by omega) hg, runN_same (fun i m a b => h i m a (by omega)) (by omega)]
    rfl
theorem runN_lt {ms : List Mk} {i b j : Nat} {m : Mk} (h : ms[b]? = some m) (hb : isBr m = true) (h1 : i ≤ b) (h2 : b < j) : runN ms i < runN ms j := by
  have a := runN_mono ms h1
  have c := runN_mono ms (show b + 1 ≤ j from h2)
  rw [runN_succ h, hb] at c
  simp only [if_true] at c
  omega
theorem rs_pre : ∀ (ms : List Mk) (s : RS), ∃ x y, (ms.foldl rsStep s).1 = s.1 ++ x ∧ (ms.foldl rsStep s).2.1 = s.2.1 ++ y
  | [], s => ⟨[], [], by simp, by simp⟩
  | m :: ms, s => by
    obtain ⟨x, y, h1, h2⟩ := rs_pre ms (rsStep s m)
    have hs : ∃ z, (rsStep s m).2.1 = s.2.1 ++ z := by
      cases m with
      | br r => exact ⟨[s.2.2], rfl⟩
      | _ => exact ⟨[], by simp [rsStep]⟩
    obtain ⟨z, hz⟩ := hs
    refine ⟨[(s.2.1.length : Int)] ++ x, z ++ y, ?_, ?_⟩
    · show (ms.foldl rsStep (rsStep s m)).1 = _
      rw [h1]
      show (s.1 ++ [(s.2.1.length : Int)]) ++ x = _
      rw [List.append_assoc]
    · show (ms.foldl rsStep (rsStep s m)).2.1 = _
      rw [h2, hz, List.append_assoc]
theorem rs_cnt : ∀ (ms : List Mk) (s : RS), (ms.foldl rsStep s).2.1.length = s.2.1.length + ms.countP isBr ∧ (ms.foldl rsStep s).1.length = s.1.length + ms.length
  | [], s => ⟨rfl, rfl⟩
  | m :: ms, s => by
    obtain ⟨h1, h2⟩ := rs_cnt ms (rsStep s m)
    rw [List.foldl_cons, h1, h2, List.countP_cons, List.length_cons]
    constructor
    · cases m with
      | br r => show (s.2.1 ++ [s.2.2]).length + _ = _; rw [List.length_append]; simp [isBr]; omega
      | _ => simp [rsStep, isBr]
    · show (s.1 ++ [(s.2.1.length : Int)]).length + _ = _
      rw [List.length_append]; simp; omega
def vsOf (ms : List Mk) : List Int := ms.filterMap fun m => match m with
  | .op _ v => some v
  | .cl _ v => some v
  | _ => none
theorem rs_seg : ∀ (S : List Mk) (s : RS), (∀ m ∈ S, isBr m = false) → (S.foldl rsStep s).2 = (s.2.1, s.2.2 ++ vsOf S)
  | [], s, _ => by simp [vsOf]
  | m :: S, s, h => by
    rw [List.foldl_cons, rs_seg S _ fun m hm => h m (List.mem_cons_of_mem _ hm)]
    have h0 := h m List.mem_cons_self
    cases m with
    | br r => cases h0
    | mv r => rfl
    | op n v => simp [rsStep, vsOf]
    | cl n v => simp [rsStep, vsOf]
def rowsOf (ms : List Mk) : List (List Int) := (rsOf ms).2.1 ++ [(rsOf ms).2.2]
theorem num_at {ms : List Mk} {k : Nat} (h : k < ms.length) : (rsOf ms).1[k]? = some ((runN ms k : Nat) : Int) := by
  obtain ⟨m, hm⟩ : ∃ m, ms[k]? = some m := ⟨_, List.getElem?_eq_getElem h⟩
  have e : ms = ms.take k ++ m :: ms.drop (k + 1) := by
    rw [← drop_get hm, List.take_append_drop]
  have e2 : rsOf ms = (ms.drop (k + 1)).foldl rsStep (rsStep (rsOf (ms.take k)) m) := by
    conv => lhs; rw [e]
    unfold rsOf
    rw [List.foldl_append, List.foldl_cons]
  obtain ⟨x, y, h1, _⟩ := rs_pre (ms.drop (k + 1)) (rsStep (rsOf (ms.take k)) m)
  have c := rs_cnt (ms.take k) ([], [], [])
  have c1 : (rsOf (ms.take k)).2.1.length = runN ms k := by
    have := c.1
    unfold runN rsOf
    rw [this]; simp
  have c2 : (rsOf (ms.take k)).1.length = k := by
    have := c.2
    unfold rsOf
    rw [this, List.length_take]; simp; omega
  rw [e2, h1]
  show (((rsOf (ms.take k)).1 ++ [((rsOf (ms.take k)).2.1.length : Int)]) ++ x)[k]? = _
  rw [List.append_assoc, List.getElem?_append_right (by omega), c2, Nat.sub_self, c1]
  rfl
theorem num_len (ms : List Mk) : (rsOf ms).1.length = ms.length := by
  have := (rs_cnt ms ([], [], [])).2
  unfold rsOf
  rw [this]; simp
theorem rows_len (ms : List Mk) : (rowsOf ms).length = runN ms ms.length + 1 := by
  unfold rowsOf runN
  rw [List.length_append, List.take_length]
  have := (rs_cnt ms ([], [], [])).1
  unfold rsOf
  rw [this]; simp
/-- a stretch without a break, from the begin or a break to the end or a break -/
structure Stretch (ms : List Mk) (f t : Nat) : Prop where
  le : f ≤ t
  len : t ≤ ms.length
  no : ∀ i m, f ≤ i → i < t → ms[i]? = some m → isBr m = false
  lo : f = 0 ∨ ∃ g m, f = g + 1 ∧ ms[g]? = some m ∧ isBr m = true
  hi : t = ms.length ∨ ∃ m, ms[t]? = some m ∧ isBr m = true
def segM (ms : List Mk) (f t : Nat) : List Mk := (ms.drop f).take (t - f)
theorem seg_mem {ms : List Mk} {f t : Nat} {m : Mk} (h : m ∈ segM ms f t) : ∃ i, f ≤ i ∧ i < t ∧ ms[i]? = some m := by
  unfold segM at h
  obtain ⟨i, hi⟩ := List.mem_iff_getElem?.mp h
  rw [List.getElem?_take] at hi
  split at hi
  · rw [List.getElem?_drop] at hi
    exact ⟨f + i, by omega, by omega, hi⟩
  · cases hi
theorem open_nil {ms : List Mk} {f : Nat} (h : f = 0 ∨ ∃ g m, f = g + 1 ∧ ms[g]? = some m ∧ isBr m = true) : (rsOf (ms.take f)).2.2 = [] := by
  rcases h with rfl | ⟨g, m, rfl, h1, h2⟩
  · rfl
  · rw [List.take_add_one, h1]
    show (rsOf (ms.take g ++ [m])).2.2 = []
    unfold rsOf
    rw [List.foldl_append]
    cases m with
    | br r => rfl
    | _ => cases h2
theorem row_seg {ms : List Mk} {f t : Nat} (s : Stretch ms f t) : (rowsOf ms)[runN ms f]? = some (vsOf (segM ms f t)) := by
  have e : ms = ms.take f ++ segM ms f t ++ ms.drop t := by
    have h1 : ms.take f ++ segM ms f t = ms.take t := by
      unfold segM
      rw [← List.take_append_drop f (ms.take t), List.take_take, Nat.min_eq_left s.le, List.drop_take]
    rw [h1, List.take_append_drop]
  have hA : (rsOf (ms.take f)).2.1.length = runN ms f := by
    have := (rs_cnt (ms.take f) ([], [], [])).1
    unfold runN rsOf
    rw [this]; simp
  have hS := rs_seg (segM ms f t) (rsOf (ms.take f)) fun m hm => by
    obtain ⟨i, a, b, c⟩ := seg_mem hm
    exact s.no i m a b c
  rw [open_nil s.lo, List.nil_append] at hS
  have e2 : rsOf ms = (ms.drop t).foldl rsStep ((segM ms f t).foldl rsStep (rsOf (ms.take f))) := by
    conv => lhs; rw [e]
    unfold rsOf
    rw [List.foldl_append, List.foldl_append]
  unfold rowsOf
  rw [e2]
  generalize (segM ms f t).foldl rsStep (rsOf (ms.take f)) = z at hS
  rcases s.hi with h | ⟨m, h1, h2⟩
  · rw [h, List.drop_length]
    show (z.2.1 ++ [z.2.2])[_]? = _
    rw [hS]
    show ((rsOf (ms.take f)).2.1 ++ [vsOf _])[_]? = _
    rw [← hA, List.getElem?_append_right (Nat.le_refl _), Nat.sub_self, h]
    rfl
  · rw [drop_get h1, List.foldl_cons]
    cases m with
    | br r =>
      obtain ⟨x, y, _, h3⟩ := rs_pre (ms.drop (t + 1)) (rsStep z (.br r))
      rw [h3]
      show (((z.2.1 ++ [z.2.2]) ++ y) ++ _)[_]? = _
      rw [hS]
      show ((((rsOf (ms.take f)).2.1 ++ [vsOf _]) ++ y) ++ _)[_]? = _
      rw [List.append_assoc, List.append_assoc, ← hA, List.getElem?_append_right (Nat.le_refl _), Nat.sub_self]
      rfl
    | _ => cases h2
def gps (ms : List Mk) : List Int := (rowsOf ms).map gapI
def gp (ms : List Mk) (r : Nat) : Int := match (gps ms)[r]? with
  | some g => g
  | none => 0
theorem gp_at {ms : List Mk} {k : Nat} : (gps ms)[runN ms k]? = some (gp ms (runN ms k)) := by
  unfold gp
  have h : runN ms k < (gps ms).length := by
    unfold gps
    rw [List.length_map, rows_len]
    by_cases h : k ≤ ms.length
    · have := runN_mono ms h
      omega
    · have : runN ms k = runN ms ms.length := by
        unfold runN
        rw [List.take_length, List.take_of_length_le (by omega)]
      omega
  rw [List.getElem?_eq_getElem h]
theorem gp_seg {ms : List Mk} {f t : Nat} (s : Stretch ms f t) : gp ms (runN ms f) = gapI (vsOf (segM ms f t)) := by
  unfold gp gps
  rw [List.getElem?_map, row_seg s]
  rfl
theorem Stretch.run {ms : List Mk} {f t k : Nat} (s : Stretch ms f t) (h1 : f ≤ k) (h2 : k ≤ t) : runN ms k = runN ms f := by
  obtain ⟨d, rfl⟩ := Nat.exists_eq_add_of_le h1
  exact runN_same (fun i m a b => s.no i m a (by omega)) (by have := s.len; omega)

end PL.K48

set_option Elab.async false
set_option linter.all false
set_option autoImplicit false
set_option maxRecDepth 100000
set_option maxHeartbeats 1000000
namespace PL.K48
open PySem PySem.Spec PyProof.Rows L2
local macro_rules | `(tactic| walk_at "y") => `(tactic| conv => whnf)
/-! ### where a name is opened -/
def isOpN (n : Int) : Mk → Bool
  | .op x _ => decide (x = n)
  | _ => false
def opIx : List Mk → Int → Option Nat
  | [], _ => none
  | m :: ms, n => match isOpN n m with
    | true => some 0
    | false => (opIx ms n).map (· + 1)
theorem isOpN_elim {n : Int} {m : Mk} (h : isOpN n m = true) : ∃ u, m = .op n u := by
  cases m with
  | op x u => exact ⟨u, by rw [of_decide_eq_true h]⟩
  | _ => cases h
theorem opIx_some : ∀ {ms : List Mk} {n : Int} {i : Nat}, opIx ms n = some i → ∃ u, ms[i]? = some (.op n u)
  | [], _, _, h => by cases h
  | m :: ms, n, i, h => by
    unfold opIx at h
    split at h
    · rename_i e
      obtain ⟨u, rfl⟩ := isOpN_elim e
      cases h
      exact ⟨u, rfl⟩
    · cases e : opIx ms n with
      | none => rw [e] at h; cases h
      | some j =>
        rw [e] at h
        cases h
        obtain ⟨u, z⟩ := opIx_some e
        exact ⟨u, by simpa using z⟩
theorem opIx_none : ∀ {ms : List Mk} {n : Int} {i : Nat} {u : Int}, opIx ms n = none → ms[i]? ≠ some (.op n u)
  | [], _, _, _, _ => fun h => by simp at h
  | m :: ms, n, i, u, h => fun e => by
    unfold opIx at h
    split at h
    · cases h
    · rename_i e2
      cases i with
      | zero =>
        obtain rfl : m = .op n u := by simpa using e
        unfold isOpN at e2
        exact of_decide_eq_false e2 rfl
      | succ i =>
        cases e3 : opIx ms n with
        | none => exact opIx_none (i := i) (u := u) e3 (by simpa using e)
        | some j => rw [e3] at h; cases h
theorem opIx_of {ms : List Mk} (hn : nestB ms = true) {n u : Int} {i : Nat} (h : ms[i]? = some (.op n u)) : opIx ms n = some i := by
  cases e : opIx ms n with
  | none => exact (opIx_none e h).elim
  | some j =>
    obtain ⟨v, hv⟩ := opIx_some e
    rw [N1 hn hv h]
/-- a dict over the names opened so far -/
def opD (f : Nat → D) (ms : List Mk) (k : Nat) (ds : List (Key × D)) : Prop := ∀ n : Int, dVal ds (.inl n) = (opIx ms n).bind fun i => if i < k then some (f i) else none
theorem opD_zero (f : Nat → D) (ms : List Mk) : opD f ms 0 [] := fun n => by
  show none = _
  cases opIx ms n <;> rfl
theorem opD_put {f : Nat → D} {ms : List Mk} {k : Nat} {ds : List (Key × D)} (hn : nestB ms = true) (h : opD f ms k ds) {n u : Int} (hk : ms[k]? = some (.op n u)) : opD f ms (k + 1) (dPut ds (.inl n) (f k)) := fun x => by
  rw [dVal_put]
  by_cases e : x = n
  · subst e
    rw [if_pos rfl, opIx_of hn hk]
    show _ = if k < k + 1 then _ else _
    rw [if_pos (by omega)]
  · rw [if_neg (fun z => e (Sum.inl.inj z)), h x]
    cases e2 : opIx ms x with
    | none => rfl
    | some i =>
      show (if i < k then _ else _) = (if i < k + 1 then _ else _)
      have : i ≠ k := fun z => by
        subst z
        obtain ⟨v, hv⟩ := opIx_some e2
        rw [hk] at hv
        cases hv
        exact e rfl
      by_cases lt : i < k
      · rw [if_pos lt, if_pos (by omega)]
      · rw [if_neg lt, if_neg (by omega)]
theorem opD_skip {f : Nat → D} {ms : List Mk} {k : Nat} {ds : List (Key × D)} (h : opD f ms k ds) (hk : ∀ n u, ms[k]? ≠ some (.op n u)) : opD f ms (k + 1) ds := fun x => by
  rw [h x]
  cases e2 : opIx ms x with
  | none => rfl
  | some i =>
    show (if i < k then _ else _) = (if i < k + 1 then _ else _)
    have : i ≠ k := fun z => by
      subst z
      obtain ⟨v, hv⟩ := opIx_some e2
      exact hk _ _ hv
    by_cases lt : i < k
    · rw [if_pos lt, if_pos (by omega)]
    · rw [if_neg lt, if_neg (by omega)]
theorem opD_get {f : Nat → D} {ms : List Mk} {k : Nat} {ds : List (Key × D)} (hn : nestB ms = true) (h : opD f ms k ds) {n u : Int} (hk : ms[k]? = some (.cl n u)) : ∃ i, i < k ∧ opIx ms n = some i ∧ dVal ds (.inl n) = some (f i) := by
  obtain ⟨i, v, lt, hi⟩ := N2 hn hk
  refine ⟨i, lt, opIx_of hn hi, ?_⟩
  rw [h n, opIx_of hn hi]
  show (if i < k then _ else _) = _
  rw [if_pos lt]
/-- closed in a later run than opened -/
def cross (ms : List Mk) (j : Nat) : Bool := match ms[j]? with
  | some (.cl n _) => (match opIx ms n with
    | some i => decide (runN ms i < runN ms j)
    | none => false)
  | _ => false
theorem cross_cl {ms : List Mk} {j i : Nat} {n u : Int} (h : ms[j]? = some (.cl n u)) (hi : opIx ms n = some i) : cross ms j = decide (runN ms i < runN ms j) := by
  unfold cross
  rw [h]
  show (match opIx ms n with
    | some i => decide (runN ms i < runN ms j)
    | none => false) = _
  rw [hi]
theorem cross_not {ms : List Mk} {j : Nat} (h : ∀ n u, ms[j]? ≠ some (.cl n u)) : cross ms j = false := by
  unfold cross
  split
  · rename_i e
    exact (h _ _ e).elim
  · rfl
def lastCl (ms : List Mk) : Nat → Nat → Int
  | 0, _ => -1
  | m + 1, r => if cross ms m = true ∧ runN ms m = r then (m : Int) else lastCl ms m r
/-- a crossing mark of the run, here or behind -/
def Late (ms : List Mk) (k : Nat) : Prop := ∃ j, j < ms.length ∧ k ≤ j ∧ runN ms j = runN ms k ∧ cross ms j = true
theorem last_late {ms : List Mk} {k r : Nat} : ∀ {m : Nat}, (k : Int) ≤ lastCl ms m r ↔ ∃ j, j < m ∧ k ≤ j ∧ runN ms j = r ∧ cross ms j = true
  | 0 => ⟨fun h => by unfold lastCl at h; omega, fun ⟨j, h, _⟩ => by omega⟩
  | m + 1 => by
    unfold lastCl
    by_cases e : cross ms m = true ∧ runN ms m = r
    · rw [if_pos e]
      exact ⟨fun h => ⟨m, by omega, by omega, e.2, e.1⟩, fun ⟨j, a, b, _⟩ => by omega⟩
    · rw [if_neg e, last_late]
      constructor
      · rintro ⟨j, a, b, c⟩
        exact ⟨j, by omega, b, c⟩
      · rintro ⟨j, a, b, c, d⟩
        refine ⟨j, ?_, b, c, d⟩
        rcases Nat.lt_succ_iff_lt_or_eq.mp a with h | rfl
        · exact h
        · exact (e ⟨d, c⟩).elim
/-! ### places -/
def isOC : Mk → Bool
  | .op _ _ => true
  | .cl _ _ => true
  | _ => false
def stepB (ms : List Mk) (k : Nat) : Int := match ms[k]? with
  | some (.br r) => gp ms (runN ms k) + r
  | some (.mv r) => r
  | _ => 0
def beg (ms : List Mk) : Nat → Int
  | 0 => 0
  | k + 1 => beg ms k + stepB ms k
open Classical in
noncomputable def placeAt (ms : List Mk) (k : Nat) : Int := beg ms k + if Late ms k then 0 else gp ms (runN ms k)
noncomputable def placesTo (ms : List Mk) : Nat → List Int
  | 0 => []
  | k + 1 => placesTo ms k ++ match ms[k]? with
    | some (.op _ _) => [placeAt ms k]
    | some (.cl _ _) => [placeAt ms k]
    | _ => []
def totalI (ms : List Mk) : Int := beg ms ms.length + gp ms (runN ms ms.length)
noncomputable def runsD (ms : List Mk) : D := .tup [.lst ((placesTo ms ms.length).map D.int), .int (totalI ms)]
theorem places_oc {ms : List Mk} {k : Nat} {m : Mk} (h : ms[k]? = some m) (hm : isOC m = true) : placesTo ms (k + 1) = placesTo ms k ++ [placeAt ms k] := by
  show _ ++ (match ms[k]? with
    | some (.op _ _) => [placeAt ms k]
    | some (.cl _ _) => [placeAt ms k]
    | _ => []) = _
  rw [h]
  cases m with
  | op _ _ => rfl
  | cl _ _ => rfl
  | _ => cases hm
theorem places_no {ms : List Mk} {k : Nat} {m : Mk} (h : ms[k]? = some m) (hm : isOC m = false) : placesTo ms (k + 1) = placesTo ms k := by
  show _ ++ (match ms[k]? with
    | some (.op _ _) => [placeAt ms k]
    | some (.cl _ _) => [placeAt ms k]
    | _ => []) = _
  rw [h]
  cases m with
  | br _ => exact List.append_nil _
  | mv _ => exact List.append_nil _
  | _ => cases hm
theorem places_len (ms : List Mk) : ∀ k, (placesTo ms k).length ≤ k
  | 0 => Nat.le_refl _
  | k + 1 => by
    have := places_len ms k
    show (_ ++ (match ms[k]? with
    | some (.op _ _) => [placeAt ms k]
    | some (.cl _ _) => [placeAt ms k]
    | _ => [])).length ≤ _
    rw [List.length_append]
    split <;> simp <;> omega
theorem places_mono (ms : List Mk) (k : Nat) : ∀ d, ∃ y, placesTo ms (k + d) = placesTo ms k ++ y
  | 0 => ⟨[], (List.append_nil _).symm⟩
  | d + 1 => by
    obtain ⟨y, h⟩ := places_mono ms k d
    exact ⟨y ++ _, by rw [← List.append_assoc, ← h]; rfl⟩
/-- the place of a mark in the list of places -/
theorem places_at {ms : List Mk} {k : Nat} {m : Mk} (h : ms[k]? = some m) (hm : isOC m = true) : (placesTo ms ms.length)[(placesTo ms k).length]? = some (placeAt ms k) := by
  obtain ⟨hk, _⟩ := List.getElem?_eq_some_iff.mp h
  obtain ⟨y, e⟩ := places_mono ms (k + 1) (ms.length - (k + 1))
  rw [show k + 1 + (ms.length - (k + 1)) = ms.length by omega] at e
  rw [e, places_oc h hm, List.append_assoc, List.getElem?_append_right (Nat.le_refl _), Nat.sub_self]
  rfl
theorem beg_br {ms : List Mk} {k : Nat} {r : Int} (h : ms[k]? = some (.br r)) : beg ms (k + 1) = beg ms k + (gp ms (runN ms k) + r) := by
  show beg ms k + stepB ms k = _
  unfold stepB
  rw [h]
theorem beg_mv {ms : List Mk} {k : Nat} {r : Int} (h : ms[k]? = some (.mv r)) : beg ms (k + 1) = beg ms k + r := by
  show beg ms k + stepB ms k = _
  unfold stepB
  rw [h]
theorem beg_oc {ms : List Mk} {k : Nat} {m : Mk} (h : ms[k]? = some m) (hm : isOC m = true) : beg ms (k + 1) = beg ms k := by
  show beg ms k + stepB ms k = _
  unfold stepB
  rw [h]
  cases m with
  | op _ _ => exact Int.add_zero _
  | cl _ _ => exact Int.add_zero _
  | _ => cases hm
/-! ### spans -/
structure IsSpan (ms : List Mk) (k f t : Nat) : Prop where
  br : ∀ r, ms[k]? = some (.br r) → f = k ∧ t = k
  st : (∀ r, ms[k]? ≠ some (.br r)) → f ≤ k ∧ k < t ∧ Stretch ms f t
theorem run_brk {ms : List Mk} {k : Nat} {m : Mk} (h : ms[k]? = some m) (hb : isBr m = false) (r : Int) : ms[k]? ≠ some (.br r) := fun e => by
  rw [h] at e
  cases e
  cases hb
/-- a mark of the same run, behind, lies in the span -/
theorem Stretch.mem {ms : List Mk} {f t k j : Nat} {n u : Int} (s : Stretch ms f t) (h1 : f ≤ k) (h2 : k < t) (hj : ms[j]? = some (.cl n u)) (hk : k ≤ j) : runN ms j = runN ms k ↔ j < t := by
  constructor
  · intro e
    rcases s.hi with h | ⟨m, hm, hb⟩
    · have := (List.getElem?_eq_some_iff.mp hj).1
      omega
    · by_cases h : j < t
      · exact h
      · by_cases e2 : j = t
        · subst e2
          rw [hj] at hm
          cases hm
          cases hb
        · have := runN_lt hm hb (show k ≤ t by omega) (show t < j by omega)
          omega
  · intro h
    rw [s.run (k := j) (by omega) (by omega), s.run h1 (by omega)]
/-- opened ahead of the span or in it -/
theorem Stretch.ahead {ms : List Mk} {f t i j : Nat} {n u : Int} (s : Stretch ms f t) (h1 : f ≤ j) (h2 : j < t) (hi : ms[i]? = some (.op n u)) (lt : i < j) : runN ms i < runN ms j ↔ i < f := by
  constructor
  · intro h
    by_cases e : i < f
    · exact e
    · rw [s.run (k := i) (by omega) (by omega), s.run (k := j) (by omega) (by omega)] at h
      omega
  · intro h
    rcases s.lo with rfl | ⟨g, m, rfl, hg, hb⟩
    · omega
    · have hne : i ≠ g := fun z => by
        subst z
        rw [hi] at hg
        cases hg
        cases hb
      exact runN_lt hg hb (by omega) (by omega)
open Classical in
/-- the law's sum -/
noncomputable def aheadAt (ms : List Mk) (k : Nat) : Int := beg ms k + if k = ms.length ∨ ∃ r, ms[k]? = some (.br r) then gp ms (runN ms k) else 0
theorem gp_empty {ms : List Mk} {f : Nat} (h : f ≤ ms.length) (lo : f = 0 ∨ ∃ g m, f = g + 1 ∧ ms[g]? = some m ∧ isBr m = true) (hi : f = ms.length ∨ ∃ r, ms[f]? = some (.br r)) : gp ms (runN ms f) = 0 := by
  rw [gp_seg (f := f) (t := f) ⟨Nat.le_refl _, h, fun i m a b => by omega, lo, hi.imp id fun ⟨r, e⟩ => ⟨_, e, rfl⟩⟩]
  unfold segM
  rw [Nat.sub_self]
  rfl
theorem ahead_zero (ms : List Mk) : aheadAt ms 0 = 0 := by
  unfold aheadAt
  split
  · rename_i h
    rw [gp_empty (Nat.zero_le _) (.inl rfl) h]
    rfl
  · rfl
theorem ahead_br {ms : List Mk} {k : Nat} {r : Int} (h : ms[k]? = some (.br r)) : aheadAt ms (k + 1) = aheadAt ms k + r := by
  have a : aheadAt ms k = beg ms k + gp ms (runN ms k) := by
    unfold aheadAt
    rw [if_pos (.inr ⟨r, h⟩)]
  rw [a]
  unfold aheadAt
  rw [beg_br h]
  have hl := (List.getElem?_eq_some_iff.mp h).1
  split
  · rename_i e
    rw [gp_empty (by omega) (.inr ⟨k, _, rfl, h, rfl⟩) e]
    omega
  · omega
theorem ahead_at {ms : List Mk} {k : Nat} {m : Mk} (h : ms[k]? = some m) (hb : isBr m = false) : aheadAt ms k = beg ms k := by
  unfold aheadAt
  rw [if_neg, Int.add_zero]
  rintro (e | ⟨r, e⟩)
  · have := (List.getElem?_eq_some_iff.mp h).1
    omega
  · exact run_brk h hb r e
theorem ahead_next {ms : List Mk} {k f t : Nat} {m : Mk} (h : ms[k]? = some m) (hb : isBr m = false) (h1 : f ≤ k) (h2 : k < t) (s : Stretch ms f t) : aheadAt ms (k + 1) = beg ms (k + 1) + if k + 1 = t then gp ms (runN ms f) else 0 := by
  unfold aheadAt
  by_cases e : k + 1 = t
  · rw [if_pos e, e, if_pos, s.run s.le (Nat.le_refl _)]
    refine s.hi.imp id ?_
    rintro ⟨m, hm, hb⟩
    cases m with
    | br r => exact ⟨r, hm⟩
    | _ => cases hb
  · rw [if_neg e, if_neg]
    rintro (e2 | ⟨r, e2⟩)
    · have := s.len
      omega
    · have := s.no (k + 1) _ (by omega) (by omega) e2
      cases this
theorem total_ahead (ms : List Mk) : aheadAt ms ms.length = totalI ms := by
  unfold aheadAt totalI
  rw [if_pos (.inl rfl)]
/-- level -/
theorem level {ms : List Mk} (hn : nestB ms = true) {i j f t : Nat} {n u v : Int} (hi : ms[i]? = some (.op n u)) (hj : ms[j]? = some (.cl n v)) (lt : i < j) (s : Stretch ms f t) (h1 : f ≤ i) (h2 : j < t) (hm : ∀ k, i ≤ k → k < j → ∀ r, ms[k]? ≠ some (.mv r)) : placeAt ms i = placeAt ms j := by
  have hr : runN ms i = runN ms j := by rw [s.run h1 (by omega), s.run (k := j) (by omega) (by omega)]
  have hb : ∀ d, i + d ≤ j → beg ms (i + d) = beg ms i := by
    intro d
    induction d with
    | zero => intro _; rfl
    | succ d ih =>
      intro h
      have hl := (List.getElem?_eq_some_iff.mp hj).1
      have hg : ms[i + d]? = some ms[i + d] := List.getElem?_eq_getElem (by omega)
      have no := s.no (i + d) _ (by omega) (by omega) hg
      have nm := hm (i + d) (by omega) (by omega)
      have oc : isOC ms[i + d] = true := by
        cases e : ms[i + d] with
        | op _ _ => rfl
        | cl _ _ => rfl
        | br r => rw [e] at no; cases no
        | mv r => rw [e] at hg; exact (nm r hg).elim
      rw [show i + (d + 1) = i + d + 1 by omega, beg_oc hg oc]
      exact ih (by omega)
  have hl : Late ms i ↔ Late ms j := by
    constructor
    · rintro ⟨x, a, b, c, d⟩
      refine ⟨x, a, ?_, c.trans hr, d⟩
      by_cases e : j ≤ x
      · exact e
      · exfalso
        unfold cross at d
        split at d
        · rename_i y w hx
          have hxi : i < x := by
            rcases Nat.lt_or_eq_of_le b with z | z
            · exact z
            · subst z
              rw [hi] at hx
              cases hx
          obtain ⟨i', w', l1, l2, hi'⟩ := N3 hn hi hj hx hxi (by omega)
          rw [opIx_of hn hi'] at d
          have d := of_decide_eq_true d
          have := runN_mono ms (show i ≤ i' by omega)
          omega
        · cases d
    · rintro ⟨x, a, b, c, d⟩
      exact ⟨x, a, by omega, c.trans hr.symm, d⟩
  have hbj := hb (j - i) (by omega)
  rw [show i + (j - i) = j by omega] at hbj
  unfold placeAt
  rw [hbj, hr]
  by_cases e : Late ms i
  · rw [if_pos e, if_pos (hl.mp e)]
  · rw [if_neg e, if_neg (fun z => e (hl.mpr z))]

end PL.K48

set_option Elab.async false
set_option linter.all false
set_option autoImplicit false
set_option maxRecDepth 100000
set_option maxHeartbeats 1000000
namespace PL.K48
open PySem PySem.Spec PyProof.Rows L2
local macro_rules | `(tactic| walk_at "y") => `(tactic| conv => whnf)
abbrev tab_LENGTHS : List (Str × Int) := [(("open" : Str), 3), (("close" : Str), 3), (("break" : Str), 2), (("move" : Str), 2)]
/-! ### is_mark -/
def lenOk (w : Str) (n : Int) : Bool := match tab_LENGTHS.lookup w with
  | some i => decide (i = n)
  | none => false
def isMarkB : D → Bool
  | .tup (.str w :: r) => lenOk w ((r.length + 1 : Nat) : Int) && r.all isWholeB
  | _ => false
def okM : D → Bool
  | .tup ds => decide (ds.length ≤ 1000) && (ds.all regB && SeqAt.shaped (D.py (.tup ds)))
  | d => regB d
theorem eqv_nil {ds : List D} : PyData.eqv (D.py (.tup ds)) (D.py (.tup [])) = ds.isEmpty := by
  cases ds <;> rfl
def φ_is_mark : Spec
  | [d], Q, _ => okM d = true ∧ Q (.bl (isMarkB d))
  | _, _, _ => False
theorem cut_one {α : Type} (x : α) (r : List α) : cutD (x :: r) (some 1) none = r := by
  unfold cutD HT.sIx
  simp
abbrev N_is_mark : List Str := ["value", "number"]
def r_is_mark (Ξ : Xi) : PTS :=
  (ysSeq (ysIf (yOr (yNot (yTru (yIs .tuple (yVar 0)))) (yOr (yBinT (oEq false) (yVar 0) (yTup ylNil)) (yNot (yTru (yIs .str (yIx (yVar 0) (yC (.int 0))))))))
  (ysRet (yC (.bl false)))
  ysNext)
  (ysSeq (ysIf (yBinT (oEq true) (yGetK tab_LENGTHS (yIx (yVar 0) (yC (.int 0)))) (yCB oLen (ylCons (yVar 0) ylNil)))
  (ysRet (yC (.bl false)))
  ysNext)
  (ysRet (yCB oAll (ylCons (yNew (ynLc (yiSeq (ySlT (yVar 0) (yoSome (yC (.int 1))) yoNone)) (gN 1) yYes (yCall φ_is_whole Ξ0 (ylCons (yVar 1) ylNil)) [1])) ylNil)))))
theorem vc_is_mark (ds : List D) (Q' : D → Prop) (E' : Nat → Prop) (h : φ_is_mark ds Q' E') : r_is_mark (fun c _ => E' c) { nx := fun _ => Q' .non, rt := fun d _ => Q' d } (startE N_is_mark ds) := by
  unfold φ_is_mark at h
  split at h
  · rename_i d
    obtain ⟨h1, h2⟩ := h
    cases d with
    | tup ds =>
      obtain ⟨h3, h4⟩ := Bool.and_eq_true_iff.mp h1
      obtain ⟨h4, h5⟩ := Bool.and_eq_true_iff.mp h4
      replace h3 := of_decide_eq_true h3
      refine gd_of ⟨h5, by decide⟩ ?_
      rw [eqv_nil]
      cases ds with
      | nil => exact h2
      | cons d0 r =>
        have h6 := (Bool.and_eq_true_iff.mp h4).1
        have h7 := (Bool.and_eq_true_iff.mp h4).2
        have h0 : atI (d0 :: r) 0 = some d0 := atI_nat (j := 0) rfl
        refine opt_of h0 ?_
        cases d0 with
        | str w =>
          replace h2 : Q' (.bl (lenOk w ((r.length + 1 : Nat) : Int) && r.all isWholeB)) := h2
          have fin : lenOk w ((r.length + 1 : Nat) : Int) = true → (ysRet (yCB oAll (ylCons (yNew (ynLc (yiSeq (ySlT (yVar 0) (yoSome (yC (.int 1))) yoNone)) (gN 1) yYes (yCall φ_is_whole Ξ0 (ylCons (yVar 1) ylNil)) [1])) ylNil))) { nx := fun _ => Q' .non, rt := fun d _ => Q' d } [some (.v (.tup (.str w :: r))), none] := by
            intro hl
            rw [hl, Bool.true_and] at h2
            have hns : ¬ (HT.sIx (D.str w :: r).length 0 (some 1) = 0 ∧ HT.sIx (D.str w :: r).length (D.str w :: r).length none = (D.str w :: r).length) := fun z => by
              have z := z.1
              unfold HT.sIx at z
              simp at z
            refine gd_of hns ?_
            · refine ⟨⟨trivial, trivial⟩, ?_, lc_map (boolD isWholeB) (fun i d hd K N hk => ?_) ?_⟩
              · rw [cut_one]
                rw [List.length_cons] at h3
                omega
              · rw [cut_one] at hd
                exact ⟨List.all_eq_true.mp h7 _ (List.mem_of_getElem? hd), rfl, hk⟩
              · rw [cut_one, map_bool]
                refine opt_of (toBls_map _) ?_
                rw [List.all_map]
                exact h2
          have step : ∀ K : Bool → PEnv → Prop, K (!lenOk w ((r.length + 1 : Nat) : Int)) [some (.v (.tup (.str w :: r))), none] → yBinT (oEq true) (yGetK tab_LENGTHS (yIx (yVar 0) (yC (.int 0)))) (yCB oLen (ylCons (yVar 0) ylNil)) [some (.v (.tup (.str w :: r))), none] K := by
            intro K hk
            refine opt_of h0 ?_
            show oEq true (match tab_LENGTHS.lookup w with
              | some i => .int i
              | none => .non) (.int ((r.length + 1 : Nat) : Int)) (asB fun b => K b _)
            unfold lenOk at hk
            cases hq : tab_LENGTHS.lookup w with
            | none =>
              rw [hq] at hk
              exact hk
            | some i =>
              rw [hq] at hk
              exact hk
          refine step _ ?_
          cases hl : lenOk w ((r.length + 1 : Nat) : Int) with
          | true => exact fin hl
          | false =>
            rw [hl, Bool.false_and] at h2
            exact h2
        | vl _ => cases h6
        | pool => cases h6
        | err _ _ => cases h6
        | _ => exact h2
    | vl _ => cases h1
    | pool => cases h1
    | err _ _ => cases h1
    | _ => exact h2
  · exact h.elim

end PL.K48

set_option Elab.async false
set_option linter.all false
set_option autoImplicit false
set_option maxRecDepth 100000
set_option maxHeartbeats 1000000
namespace PL.K48
open PySem PySem.Spec PyProof.Rows L2
local macro_rules | `(tactic| walk_at "y") => `(tactic| conv => whnf)
/-! ### are_nested -/
theorem lays_ints : ∀ xs : List Int, PyData.canLayAll0 (D.pys (xs.map D.int)) = true ∧ PyData.depthAll (D.pys (xs.map D.int)) = 0
  | [] => ⟨rfl, rfl⟩
  | x :: xs => by
    obtain ⟨h1, h2⟩ := lays_ints xs
    constructor
    · show PyData.canLayAll0 (PyData.int x :: D.pys (xs.map D.int)) = true
      unfold PyData.canLayAll0 PyData.canLay0
      rw [h1]; rfl
    · show PyData.depthAll (PyData.int x :: D.pys (xs.map D.int)) = 0
      unfold PyData.depthAll PyData.depth
      rw [h2]; rfl
theorem shaped_ints (xs : List Int) : SeqAt.shaped (D.py (.lst (xs.map D.int))) = true := by
  obtain ⟨h1, h2⟩ := lays_ints xs
  show (PyData.canLay0 (.list (D.pys (xs.map D.int))) && decide (PyData.depth (.list (D.pys (xs.map D.int))) ≤ 64)) = true
  unfold PyData.canLay0 PyData.depth
  rw [h1, h2]
  rfl
theorem eqv_lnil {ds : List D} : PyData.eqv (D.py (.lst ds)) (D.py (.lst [])) = ds.isEmpty := by
  cases ds <;> rfl
/-- is the mark's word that one? -/
theorem word_is {i : Nat} {ε : PEnv} {a b : Str} {r : List D} {c : Bool} {K : Bool → PEnv → Prop} (hs : ε[i]? = some (some (.v (.tup (.str a :: r))))) (e : decide (a = b) = c) (k : K c ε) : yBinT (oEq false) (yIx (yVar i) (yC (.int 0))) (yC (.str b)) ε K := by
  subst e
  unfold yBinT yIx yBin yVar
  simp only [hs]
  exact opt_of (atI_nat (j := 0) rfl) k
def φ_are_nested : Spec
  | [d], Q, _ => ∃ ms, isL d (ms.map Mk.d) ∧ ms.length ≤ 1000000 ∧ Q (.bl (nestB ms))
  | _, _, _ => False
theorem nest_dec {n : Int} {met : List Int} {α : Type} {a b : α} : (if n ∈ met then a else b) = match decide (n ∈ met) with
    | true => a
    | false => b := by
  by_cases h : n ∈ met <;> simp [h]
theorem isEmpty_eq {α : Type} {l : List α} : decide (l.length = 0) = l.isEmpty := by cases l <;> rfl
theorem put_has {ds : List (Key × D)} {met : List Int} {n : Int} {d : D} (h : ∀ x : Int, dHas ds (.inl x) = decide (x ∈ met)) (x : Int) : dHas (dPut ds (.inl n) d) (.inl x) = decide (x ∈ n :: met) := by
  rw [dHas_val, dVal_put]
  by_cases e : x = n
  · subst e
    rw [if_pos rfl]
    simp
  · rw [if_neg (fun z => e (Sum.inl.inj z)), ← dHas_val, h x]
    simp [e]
theorem rev_snoc {w : List Int} {n : Int} : w.reverse.map D.int ++ [D.int n] = (n :: w).reverse.map D.int := by simp
theorem atI_m1 {α : Type} (l : List α) (x : α) : atI (l ++ [x]) (-1) = some x := by
  unfold atI ixN
  rw [List.length_append, List.length_singleton, if_neg (by decide), if_pos (by omega), Option.bind_some]
  rw [show ((-1 + ((l.length + 1 : Nat) : Int)).toNat) = l.length by omega]
  simp
abbrev N_are_nested : List Str := ["marks", "waiting", "met", "mark"]
def r_are_nested (Ξ : Xi) : PTS :=
  (ysSeq (ysAsgO (ynLst ylNil) 1)
  (ysSeq (ysAsgD 2)
  (ysSeq (ysFor (yiSeq (yVar 0)) (gN 3)
  (ysIf (yBinT (oEq false) (yIx (yVar 3) (yC (.int 0))) (yC (.str ("open" : Str))))
  (ysSeq (ysIf (yBinT (oInD false) (yIx (yVar 3) (yC (.int 1))) (yVar 2))
  (ysRet (yC (.bl false)))
  ysNext)
  (ysSeq (ysPutD 2 (yIx (yVar 3) (yC (.int 1))) (yC (.bl true)))
  (ysApp 1 (yIx (yVar 3) (yC (.int 1))))))
  (ysIf (yBinT (oEq false) (yIx (yVar 3) (yC (.int 0))) (yC (.str ("close" : Str))))
  (ysSeq (ysIf (yOr (yBinT (oEq false) (yVar 1) (yNew (ynLst ylNil))) (yBinT (oEq true) (yIx (yVar 1) (yNeg (yC (.int 1)))) (yIx (yVar 3) (yC (.int 1)))))
  (ysRet (yC (.bl false)))
  ysNext)
  (ysDrop (yPop 1)))
  ysNext)))
  (ysRet (yBin (oEq false) (yVar 1) (yNew (ynLst ylNil)))))))
theorem vc_are_nested (ds : List D) (Q' : D → Prop) (E' : Nat → Prop) (h : φ_are_nested ds Q' E') : r_are_nested (fun c _ => E' c) { nx := fun _ => Q' .non, rt := fun d _ => Q' d } (startE N_are_nested ds) := by
  unfold φ_are_nested at h
  split at h
  · rename_i M
    obtain ⟨ms, hM, hl, h⟩ := h
    let e (w : List Int) (ds : List (Key × D)) (x : Option S) : PEnv := [some (.v M), some (.o (w.reverse.map D.int)), some (.od ds), x]
    refine seq_step [some (.v M), some (.o []), none, none] (fun K k => k) ?_
    refine seq_step (e [] [] none) (fun K k => k) ?_
    refine seq_post (fun ε => ∃ x ds w met, nestB ms = nestE (some (w, met)) ∧ w.length ≤ ms.length ∧ ε = e w ds x) (fun K kk => ?_) ?_
    · have key : (∃ Wp : Nat → PEnv → Prop, Wp 0 (e [] [] none) ∧ (∀ i d ε, i < (ms.map Mk.d).length → (ms.map Mk.d)[i]? = some d → Wp i ε → gN 3 d ε fun ε2 =>
          (ysIf (yBinT (oEq false) (yIx (yVar 3) (yC (.int 0))) (yC (.str ("open" : Str))))
  (ysSeq (ysIf (yBinT (oInD false) (yIx (yVar 3) (yC (.int 1))) (yVar 2))
  (ysRet (yC (.bl false)))
  ysNext)
  (ysSeq (ysPutD 2 (yIx (yVar 3) (yC (.int 1))) (yC (.bl true)))
  (ysApp 1 (yIx (yVar 3) (yC (.int 1))))))
  (ysIf (yBinT (oEq false) (yIx (yVar 3) (yC (.int 0))) (yC (.str ("close" : Str))))
  (ysSeq (ysIf (yOr (yBinT (oEq false) (yVar 1) (yNew (ynLst ylNil))) (yBinT (oEq true) (yIx (yVar 1) (yNeg (yC (.int 1)))) (yIx (yVar 3) (yC (.int 1)))))
  (ysRet (yC (.bl false)))
  ysNext)
  (ysDrop (yPop 1)))
  ysNext)) { nx := Wp (i + 1), rt := fun d _ => Q' d, ct := Wp (i + 1), bk := K } ε2) ∧ ∀ ε, Wp (ms.map Mk.d).length ε → K ε) := by
        refine ⟨fun i ε => ∃ x ds w met, nestB ms = nestE (nRun w met (ms.drop i)) ∧ (∀ x : Int, dHas ds (.inl x) = decide (x ∈ met)) ∧ ds.length ≤ i ∧ w.length ≤ i ∧ ε = e w ds x, ⟨none, [], [], [], rfl, fun _ => rfl, Nat.le_refl _, Nat.le_refl _, rfl⟩, fun i d ε hi hd ⟨x, ds, w, met, hn, hm, l1, l2, q⟩ => ?_, fun ε ⟨x, ds, w, met, hn, hm, l1, l2, q⟩ => kk ε ⟨x, ds, w, met, ?_, ?_, q⟩⟩
        · subst q
          rw [List.length_map] at hi
          rw [List.getElem?_map] at hd
          cases em : ms[i]? with
          | none => rw [em] at hd; cases hd
          | some m =>
            rw [em] at hd
            obtain rfl : Mk.d m = d := Option.some.inj hd
            rw [drop_get em] at hn
            show ysIf _ _ _ _ (e w ds (some (.v (Mk.d m))))
            cases m with
            | op n v =>
              replace hn : nestB ms = nestE (if n ∈ met then none else nRun (n :: w) (n :: met) (ms.drop (i + 1))) := hn
              refine word_is (i := 3) (by exact rfl) w_open_open ?_
              have hh := hm n
              walk_at "y"
              rw [hh]
              by_cases hmn : n ∈ met
              · rw [if_pos hmn] at hn
                rw [decide_eq_true hmn]
                rw [hn] at h
                exact h
              · rw [if_neg hmn] at hn
                rw [decide_eq_false hmn]
                refine gd_of (show ds.length < 16777216 by omega) ?_
                refine gd_of (show (w.reverse.map D.int).length < 16777216 by rw [List.length_map, List.length_reverse]; omega) ?_
                refine ⟨some (.v (Mk.d (.op n v))), dPut ds (.inl n) (.bl true), n :: w, n :: met, hn, put_has hm, ?_, ?_, ?_⟩
                · have := dPut_len ds (.inl n) (.bl true)
                  omega
                · rw [List.length_cons]; omega
                · show ([some (.v M), some (.o (w.reverse.map D.int ++ [D.int n])), some (.od (dPut ds (.inl n) (.bl true))), some (.v (Mk.d (.op n v)))] : PEnv) = _
                  rw [rev_snoc]
            | cl n v =>
              refine word_is (i := 3) (by exact rfl) w_close_open ?_
              refine word_is (i := 3) (by exact rfl) w_close_close ?_
              refine gd_of ⟨shaped_ints _, by decide⟩ ?_
              rw [eqv_lnil]
              cases w with
              | nil =>
                rw [hn] at h
                exact h
              | cons y w =>
                replace hn : nestB ms = nestE (if y = n then nRun w met (ms.drop (i + 1)) else none) := hn
                have e2 : ((y :: w).reverse.map D.int).isEmpty = false := by simp
                rw [e2]
                have e3 : atI ((y :: w).reverse.map D.int) (-1) = some (.int y) := by rw [← rev_snoc]; exact atI_m1 _ _
                refine opt_of e3 ?_
                by_cases hy : y = n
                · subst hy
                  rw [if_pos rfl] at hn
                  show (match !decide (y = y) with
                    | true => _
                    | false => _)
                  rw [decide_eq_true rfl]
                  have e4 : unsnoc ((y :: w).reverse.map D.int) = some (w.reverse.map D.int, .int y) := by rw [← rev_snoc]; exact unsnoc_snoc _ _
                  refine opt_of e4 ?_
                  refine ⟨some (.v (Mk.d (.cl y v))), ds, w, met, hn, hm, by omega, ?_, rfl⟩
                  rw [List.length_cons] at l2
                  omega
                · rw [if_neg hy] at hn
                  show (match !decide (y = n) with
                    | true => _
                    | false => _)
                  rw [decide_eq_false hy]
                  rw [hn] at h
                  exact h
            | br r =>
              refine word_is (i := 3) (by exact rfl) w_break_open ?_
              refine word_is (i := 3) (by exact rfl) w_break_close ?_
              exact ⟨_, ds, w, met, hn, hm, by omega, by omega, rfl⟩
            | mv r =>
              refine word_is (i := 3) (by exact rfl) w_move_open ?_
              refine word_is (i := 3) (by exact rfl) w_move_close ?_
              exact ⟨_, ds, w, met, hn, hm, by omega, by omega, rfl⟩
        · rw [List.length_map, List.drop_length] at hn
          exact hn
        · rw [List.length_map] at l2
          exact l2
      rcases hM with rfl | rfl <;> exact key
    · rintro _ ⟨x, ds, w, met, hn, hwl, rfl⟩
      rw [hn] at h
      refine gd_of ⟨shaped_ints _, by decide⟩ ?_
      rw [eqv_lnil]
      cases w with
      | nil => exact h
      | cons y w =>
        have e2 : ((y :: w).reverse.map D.int).isEmpty = false := by simp
        rw [e2]
        exact h
  · exact h.elim

end PL.K48

set_option Elab.async false
set_option linter.all false
set_option autoImplicit false
set_option maxRecDepth 100000
set_option maxHeartbeats 1000000
namespace PL.K48
open PySem PySem.Spec PyProof.Rows L2
local macro_rules | `(tactic| walk_at "y") => `(tactic| conv => whnf)
/-! ### last_closes -/
theorem enum_mk {ms : List Mk} {i : Nat} {d : D} (h : (enumD (ms.map Mk.d) 0)[i]? = some d) : ∃ m, ms[i]? = some m ∧ d = .tup [.int (i : Int), Mk.d m] := by
  rw [enumD_get, List.getElem?_map] at h
  cases e : ms[i]? with
  | none => rw [e] at h; cases h
  | some m =>
    rw [e] at h
    refine ⟨m, rfl, ?_⟩
    rw [← Option.some.inj h, Nat.zero_add]
theorem enum_len (ms : List Mk) : (enumD (ms.map Mk.d) 0).length = ms.length := by rw [enumD_len, List.length_map]
def mxR (ms : List Mk) : Nat := (maxL 0 (rsOf ms).1 + 1).toNat
theorem mem_num {ms : List Mk} {x : Int} (h : x ∈ (rsOf ms).1) : ∃ k : Nat, k < ms.length ∧ x = ((runN ms k : Nat) : Int) := by
  obtain ⟨k, hk⟩ := List.mem_iff_getElem?.mp h
  have hl := (List.getElem?_eq_some_iff.mp hk).1
  rw [num_len] at hl
  rw [num_at hl] at hk
  exact ⟨k, hl, (Option.some.inj hk).symm⟩
theorem mx_bounds (ms : List Mk) : 0 ≤ maxL 0 (rsOf ms).1 ∧ maxL 0 (rsOf ms).1 ≤ (ms.length : Int) := by
  obtain ⟨h1, h2, _⟩ := maxL_spec (rsOf ms).1 0
  refine ⟨h2, ?_⟩
  rcases h1 with h1 | h1
  · rw [h1]; omega
  · obtain ⟨k, _, e⟩ := mem_num h1
    rw [e]
    have := runN_le ms k
    omega
theorem run_mx {ms : List Mk} {k : Nat} (h : k < ms.length) : runN ms k < mxR ms := by
  obtain ⟨_, _, h3⟩ := maxL_spec (rsOf ms).1 0
  have := h3 _ (List.mem_of_getElem? (num_at h))
  unfold mxR
  omega
def lcD (ms : List Mk) (k : Nat) : List D := (List.range (mxR ms)).map fun r => D.int (lastCl ms k r)
theorem lc_len (ms : List Mk) (k : Nat) : (lcD ms k).length = mxR ms := by unfold lcD; rw [List.length_map, List.length_range]
theorem lc_at {ms : List Mk} {k r : Nat} (h : r < mxR ms) : (lcD ms k)[r]? = some (.int (lastCl ms k r)) := by
  unfold lcD
  rw [List.getElem?_map, List.getElem?_range h]
  rfl
theorem lc_set {ms : List Mk} {k : Nat} (hc : cross ms k = true) : (lcD ms k).set (runN ms k) (.int (k : Int)) = lcD ms (k + 1) := by
  apply List.ext_getElem?
  intro r
  by_cases hr : r < mxR ms
  · rw [List.getElem?_set, lc_at hr, lc_at hr, lc_len]
    show _ = some (D.int (if cross ms k = true ∧ runN ms k = r then (k : Int) else lastCl ms k r))
    by_cases e : runN ms k = r
    · rw [if_pos e, if_pos (by omega), if_pos ⟨hc, e⟩]
    · rw [if_neg e, if_neg (fun z => e z.2)]
  · rw [List.getElem?_eq_none (by rw [List.length_set, lc_len]; omega), List.getElem?_eq_none (by rw [lc_len]; omega)]
theorem lc_skip {ms : List Mk} {k : Nat} (hc : cross ms k = false) : lcD ms (k + 1) = lcD ms k := by
  unfold lcD
  apply List.map_congr_left
  intro r _
  show D.int (if cross ms k = true ∧ runN ms k = r then (k : Int) else lastCl ms k r) = _
  rw [if_neg (fun z => by rw [hc] at z; exact absurd z.1 (by decide))]
theorem lc_zero (ms : List Mk) : (rangeD 0 (mxR ms)).map (fun _ => D.int (-1)) = lcD ms 0 := by
  unfold rangeD lcD
  rw [List.map_map]
  rfl
theorem numD_at {ms : List Mk} {k : Nat} (h : k < ms.length) : ((rsOf ms).1.map D.int)[k]? = some (.int ((runN ms k : Nat) : Int)) := by
  rw [List.getElem?_map, num_at h]
  rfl
theorem ixN_nat {n r : Nat} (h : r < n) : ixN n (r : Int) = some r := by
  unfold ixN
  rw [if_pos (by omega)]
  rw [if_pos (by omega)]
  rfl
theorem word_and {i : Nat} {ε : PEnv} {a b : Str} {r : List D} {c : Bool} {rb : PTT} {K : Bool → PEnv → Prop} (hs : ε[i]? = some (some (.v (.tup (.str a :: r))))) (e : decide (a = b) = c) (k : match c with
    | true => rb ε K
    | false => K false ε) : yAnd (yBinT (oEq false) (yIx (yVar i) (yC (.int 0))) (yC (.str b))) rb ε K := by
  refine word_is hs e ?_
  cases c with
  | true => exact k
  | false => exact k
def fRun (ms : List Mk) (i : Nat) : D := .int ((runN ms i : Nat) : Int)
def φ_last_closes : Spec
  | [d, .lst ns], Q, _ => ∃ ms, isL d (ms.map Mk.d) ∧ ms.length ≤ 1000000 ∧ nestB ms = true ∧ ns = (rsOf ms).1.map D.int ∧ Q (.lst (lcD ms ms.length))
  | _, _, _ => False
abbrev N_last_closes : List Str := ["marks", "numbers", "found", "opened", "place", "mark", "k"]
def r_last_closes (Ξ : Xi) : PTS :=
  (ysSeq (ysAsgO (ynLc (yiRg1 (ylCons (yBin oAdd (yCB oMaxL (ylCons (yBin oAdd (yNew (ynLst (ylCons (yC (.int 0)) ylNil))) (yVar 1)) ylNil)) (yC (.int 1))) ylNil)) (gN 6) yYes (yNeg (yC (.int 1))) [6]) 2)
  (ysSeq (ysAsgD 3)
  (ysSeq (ysFor (yiEnum (yVar 0)) (gTupY 2 [(gN 4), (gN 5)])
  (ysIf (yBinT (oEq false) (yIx (yVar 5) (yC (.int 0))) (yC (.str ("open" : Str))))
  (ysPutD 3 (yIx (yVar 5) (yC (.int 1))) (yIx (yVar 1) (yVar 4)))
  (ysIf (yAnd (yBinT (oEq false) (yIx (yVar 5) (yC (.int 0))) (yC (.str ("close" : Str)))) (yBinT oLt (yGetD (yVar 3) (yIx (yVar 5) (yC (.int 1)))) (yIx (yVar 1) (yVar 4))))
  (ysSetIx 2 (yIx (yVar 1) (yVar 4)) (yVar 4))
  ysNext)))
  (ysRet (yVar 2)))))
theorem vc_last_closes (ds : List D) (Q' : D → Prop) (E' : Nat → Prop) (h : φ_last_closes ds Q' E') : r_last_closes (fun c _ => E' c) { nx := fun _ => Q' .non, rt := fun d _ => Q' d } (startE N_last_closes ds) := by
  unfold φ_last_closes at h
  split at h
  · rename_i M ns
    obtain ⟨ms, hM, hl, hn, rfl, h⟩ := h
    obtain ⟨b0, b1⟩ := mx_bounds ms
    let e (k : Nat) (od : Option S) (p x : Option S) : PEnv := [some (.v M), some (.v (.lst ((rsOf ms).1.map D.int))), some (.o (lcD ms k)), od, p, x, none]
    refine seq_step (e 0 none none none) (fun K kk => ?_) ?_
    · have hg : ([D.int 0] : List D).length + ((rsOf ms).1.map D.int).length ≤ 16777216 := by rw [List.length_map, List.length_singleton, num_len]; omega
      refine gd_of hg ?_
      refine opt_of (toInts_map (0 :: (rsOf ms).1)) ⟨Nat.succ_pos _, fun m h1 h2 => ?_⟩
      obtain rfl := maxL_is h1 h2
      refine gd_of (small_any (by omega) (by omega)) ?_
      refine ⟨⟨trivial, trivial⟩, by rw [rangeD_len]; omega, lc_map (Q := fun acc ε' => K (ε'.set 2 (some (.o acc)))) (fun _ => .int (-1)) (fun i d hd K N hk => ?_) ?_⟩
      · exact ⟨rfl, hk⟩
      rw [show (maxL 0 (rsOf ms).1 + 1).toNat = mxR ms from rfl, lc_zero]
      exact kk
    refine seq_step (e 0 (some (.od [])) none none) (fun K k => k) ?_
    refine seq_post (fun ε => ∃ ds p x, ε = e ms.length (some (.od ds)) p x) (fun K kk => ?_) ?_
    · have key : (∃ Wp : Nat → PEnv → Prop, Wp 0 (e 0 (some (.od [])) none none) ∧ (∀ i d ε, i < (enumD (ms.map Mk.d) 0).length → (enumD (ms.map Mk.d) 0)[i]? = some d → Wp i ε → gTupY 2 [(gN 4), (gN 5)] d ε fun ε2 =>
          (ysIf (yBinT (oEq false) (yIx (yVar 5) (yC (.int 0))) (yC (.str ("open" : Str))))
  (ysPutD 3 (yIx (yVar 5) (yC (.int 1))) (yIx (yVar 1) (yVar 4)))
  (ysIf (yAnd (yBinT (oEq false) (yIx (yVar 5) (yC (.int 0))) (yC (.str ("close" : Str)))) (yBinT oLt (yGetD (yVar 3) (yIx (yVar 5) (yC (.int 1)))) (yIx (yVar 1) (yVar 4))))
  (ysSetIx 2 (yIx (yVar 1) (yVar 4)) (yVar 4))
  ysNext)) { nx := Wp (i + 1), rt := fun d _ => Q' d, ct := Wp (i + 1), bk := K } ε2) ∧ ∀ ε, Wp (enumD (ms.map Mk.d) 0).length ε → K ε) := by
        refine ⟨fun i ε => ∃ ds p x, opD (fRun ms) ms i ds ∧ ds.length ≤ i ∧ ε = e i (some (.od ds)) p x, ⟨[], none, none, opD_zero _ _, Nat.le_refl _, rfl⟩, fun i d ε hi hd ⟨ds, p, x, ho, l1, q⟩ => ?_, fun ε ⟨ds, p, x, ho, l1, q⟩ => kk ε ⟨ds, p, x, by rw [enum_len] at q; exact q⟩⟩
        subst q
        rw [enum_len] at hi
        obtain ⟨m, em, rfl⟩ := enum_mk hd
        refine gtup2 ?_
        show ysIf _ _ _ _ (e i (some (.od ds)) (some (.v (.int (i : Int)))) (some (.v (Mk.d m))))
        have hnum := atI_nat (numD_at hi)
        cases m with
        | op n v =>
          refine word_is (i := 5) (by exact rfl) w_open_open ?_
          refine opt_of hnum ?_
          refine gd_of (show ds.length < 16777216 by omega) ?_
          have hc : cross ms i = false := cross_not fun n' u' z => by rw [em] at z; cases z
          refine ⟨dPut ds (.inl n) (fRun ms i), some (.v (.int (i : Int))), some (.v (Mk.d (.op n v))), opD_put hn ho em, ?_, ?_⟩
          · have := dPut_len ds (.inl n) (fRun ms i)
            omega
          · show _ = ([some (.v M), some (.v (.lst ((rsOf ms).1.map D.int))), some (.o (lcD ms (i + 1))), some (.od (dPut ds (.inl n) (fRun ms i))), some (.v (.int (i : Int))), some (.v (Mk.d (.op n v))), none] : PEnv)
            rw [lc_skip hc]
            rfl
        | cl n v =>
          refine word_is (i := 5) (by exact rfl) w_close_open ?_
          show ysIf _ _ _ _ (e i (some (.od ds)) (some (.v (.int (i : Int)))) (some (.v (Mk.d (Mk.cl n v)))))
          refine word_and (i := 5) (by exact rfl) w_close_close ?_
          obtain ⟨i0, lt, hi0, hv⟩ := opD_get hn ho em
          refine opt_of hv ?_
          refine opt_of hnum ?_
          have hc := cross_cl em hi0
          have ho2 : opD (fRun ms) ms (i + 1) ds := opD_skip ho fun n' u' z => by rw [em] at z; cases z
          by_cases hlt : runN ms i0 < runN ms i
          · rw [decide_eq_true hlt] at hc
            have hd : decide (((runN ms i0 : Nat) : Int) < ((runN ms i : Nat) : Int)) = true := decide_eq_true (by omega)
            show (match decide (((runN ms i0 : Nat) : Int) < ((runN ms i : Nat) : Int)) with
              | true => _
              | false => _)
            rw [hd]
            refine opt_of hnum ?_
            refine opt_of (ixN_nat (n := (lcD ms i).length) (r := runN ms i) (by rw [lc_len]; exact run_mx hi)) ?_
            refine ⟨ds, some (.v (.int (i : Int))), some (.v (Mk.d (.cl n v))), ho2, by omega, ?_⟩
            show _ = ([some (.v M), some (.v (.lst ((rsOf ms).1.map D.int))), some (.o (lcD ms (i + 1))), some (.od ds), some (.v (.int (i : Int))), some (.v (Mk.d (.cl n v))), none] : PEnv)
            rw [← lc_set hc]
            rfl
          · rw [decide_eq_false hlt] at hc
            have hd : decide (((runN ms i0 : Nat) : Int) < ((runN ms i : Nat) : Int)) = false := decide_eq_false (by omega)
            show (match decide (((runN ms i0 : Nat) : Int) < ((runN ms i : Nat) : Int)) with
              | true => _
              | false => _)
            rw [hd]
            refine ⟨ds, some (.v (.int (i : Int))), some (.v (Mk.d (.cl n v))), ho2, by omega, ?_⟩
            show _ = ([some (.v M), some (.v (.lst ((rsOf ms).1.map D.int))), some (.o (lcD ms (i + 1))), some (.od ds), some (.v (.int (i : Int))), some (.v (Mk.d (.cl n v))), none] : PEnv)
            rw [lc_skip hc]
        | br r =>
          refine word_is (i := 5) (by exact rfl) w_break_open ?_
          show ysIf _ _ _ _ (e i (some (.od ds)) (some (.v (.int (i : Int)))) (some (.v (Mk.d (Mk.br r)))))
          refine word_and (i := 5) (by exact rfl) w_break_close ?_
          refine ⟨ds, some (.v (.int (i : Int))), some (.v (Mk.d (.br r))), opD_skip ho (fun n' u' z => (by rw [em] at z; cases z)), by omega, ?_⟩
          show _ = ([some (.v M), some (.v (.lst ((rsOf ms).1.map D.int))), some (.o (lcD ms (i + 1))), some (.od ds), some (.v (.int (i : Int))), some (.v (Mk.d (.br r))), none] : PEnv)
          rw [lc_skip (cross_not fun n' u' z => by rw [em] at z; cases z)]
        | mv r =>
          refine word_is (i := 5) (by exact rfl) w_move_open ?_
          show ysIf _ _ _ _ (e i (some (.od ds)) (some (.v (.int (i : Int)))) (some (.v (Mk.d (Mk.mv r)))))
          refine word_and (i := 5) (by exact rfl) w_move_close ?_
          refine ⟨ds, some (.v (.int (i : Int))), some (.v (Mk.d (.mv r))), opD_skip ho (fun n' u' z => (by rw [em] at z; cases z)), by omega, ?_⟩
          show _ = ([some (.v M), some (.v (.lst ((rsOf ms).1.map D.int))), some (.o (lcD ms (i + 1))), some (.od ds), some (.v (.int (i : Int))), some (.v (Mk.d (.mv r))), none] : PEnv)
          rw [lc_skip (cross_not fun n' u' z => by rw [em] at z; cases z)]
      rcases hM with rfl | rfl <;> exact key
    · rintro _ ⟨ds, p, x, rfl⟩
      exact h
  · exact h.elim

end PL.K48

set_option Elab.async false
set_option linter.all false
set_option autoImplicit false
set_option maxRecDepth 100000
set_option maxHeartbeats 1000000
namespace PL.K48
open PySem PySem.Spec PyProof.Rows L2
local macro_rules | `(tactic| walk_at "y") => `(tactic| conv => whnf)
/-! ### runs_in -/
def restM : Mk → List D
  | .op n v => [.int n, .int v]
  | .cl n v => [.int n, .int v]
  | .br r => [.int r]
  | .mv r => [.int r]
def wordM : Mk → Str
  | .op _ _ => "open"
  | .cl _ _ => "close"
  | .br _ => "break"
  | .mv _ => "move"
theorem mk_d (m : Mk) : m.d = .tup (.str (wordM m) :: restM m) := by cases m <;> rfl
theorem strOk_word (m : Mk) : PyData.canLay0 (.str (wordM m)) = true := by
  cases m with
  | op _ _ => show PyData.canLay0 (.str "open") = true; decide +kernel
  | cl _ _ => show PyData.canLay0 (.str "close") = true; decide +kernel
  | br _ => show PyData.canLay0 (.str "break") = true; decide +kernel
  | mv _ => show PyData.canLay0 (.str "move") = true; decide +kernel
theorem shaped_mk (m : Mk) : SeqAt.shaped (D.py m.d) = true := by
  rw [mk_d]
  show (PyData.canLay0 (.tuple (.str (wordM m) :: D.pys (restM m))) && decide (PyData.depth (.tuple (.str (wordM m) :: D.pys (restM m))) ≤ 64)) = true
  unfold PyData.canLay0 PyData.canLayAll0
  rw [strOk_word]
  cases m <;> rfl
theorem okM_mk (m : Mk) : okM m.d = true := by
  have h := shaped_mk m
  rw [mk_d] at h ⊢
  show (decide ((D.str (wordM m) :: restM m).length ≤ 1000) && ((D.str (wordM m) :: restM m).all regB && SeqAt.shaped (D.py (.tup (.str (wordM m) :: restM m))))) = true
  rw [h]
  cases m <;> rfl
theorem lenOk_mk (m : Mk) : lenOk (wordM m) (((restM m).length + 1 : Nat) : Int) = true := by
  cases m with
  | op _ _ => show lenOk "open" 3 = true; decide +kernel
  | cl _ _ => show lenOk "close" 3 = true; decide +kernel
  | br _ => show lenOk "break" 2 = true; decide +kernel
  | mv _ => show lenOk "move" 2 = true; decide +kernel
theorem isMark_mk (m : Mk) : isMarkB m.d = true := by
  rw [mk_d]
  show (lenOk (wordM m) (((restM m).length + 1 : Nat) : Int) && (restM m).all isWholeB) = true
  rw [lenOk_mk]
  cases m <;> rfl
theorem all_okM (ms : List Mk) : (ms.map Mk.d).all okM = true := List.all_eq_true.mpr fun d hd => by
  obtain ⟨m, _, rfl⟩ := List.mem_map.mp hd
  exact okM_mk m
theorem all_isMark (ms : List Mk) : (ms.map Mk.d).all isMarkB = true := List.all_eq_true.mpr fun d hd => by
  obtain ⟨m, _, rfl⟩ := List.mem_map.mp hd
  exact isMark_mk m
def notL : D → Bool
  | .lst _ => false
  | .frl _ => false
  | d => regB d
def badRuns (d : D) : Prop := notL d = true ∨ (∃ ds, isL d ds ∧ ds.length ≤ 1000000 ∧ ds.all okM = true ∧ ds.all isMarkB = false) ∨ ∃ ms, isL d (ms.map Mk.d) ∧ ms.length ≤ 1000000 ∧ nestB ms = false
def φ_runs_in : Spec
  | [d], Q, E => (badRuns d ∧ E 11) ∨ ∃ ms, isL d (ms.map Mk.d) ∧ ms.length ≤ 1000000 ∧ nestB ms = true ∧ Q (runsD ms)
  | _, _, _ => False
theorem gaps_eq (ms : List Mk) : (((rsOf ms).2.1 ++ [(rsOf ms).2.2]).map fun r => D.int (gapI r)) = (gps ms).map D.int := by
  unfold gps rowsOf
  rw [List.map_map]
  rfl
theorem gapD_at {ms : List Mk} {k : Nat} : atI ((gps ms).map D.int) ((runN ms k : Nat) : Int) = some (.int (gp ms (runN ms k))) := atI_nat (by rw [List.getElem?_map, gp_at]; rfl)
theorem gapD_last (ms : List Mk) : atI ((gps ms).map D.int) (-1) = some (.int (gp ms (runN ms ms.length))) := by
  have e : (gps ms).map D.int = ((rsOf ms).2.1.map fun r => D.int (gapI r)) ++ [.int (gapI (rsOf ms).2.2)] := by
    rw [← gaps_eq, List.map_append]
    rfl
  have h := gp_at (ms := ms) (k := ms.length)
  have hl : (rsOf ms).2.1.length = runN ms ms.length := by
    have := rows_len ms
    unfold rowsOf at this
    rw [List.length_append, List.length_singleton] at this
    omega
  have h2 : (gps ms)[runN ms ms.length]? = some (gapI (rsOf ms).2.2) := by
    unfold gps rowsOf
    rw [List.getElem?_map, ← hl, List.getElem?_append_right (Nat.le_refl _), Nat.sub_self]
    rfl
  rw [h2] at h
  rw [e, atI_m1, Option.some.inj h]
theorem lcD_at {ms : List Mk} {k : Nat} (h : k < ms.length) : atI (lcD ms ms.length) ((runN ms k : Nat) : Int) = some (.int (lastCl ms ms.length (runN ms k))) := atI_nat (lc_at (run_mx h))
theorem late_dec {ms : List Mk} {k : Nat} : decide ((k : Int) ≤ lastCl ms ms.length (runN ms k)) = true ↔ Late ms k := by
  rw [decide_eq_true_iff, last_late]
  rfl
theorem place_late {ms : List Mk} {k : Nat} (h : decide ((k : Int) ≤ lastCl ms ms.length (runN ms k)) = true) : placeAt ms k = beg ms k := by
  unfold placeAt
  rw [if_pos (late_dec.mp h), Int.add_zero]
theorem place_soon {ms : List Mk} {k : Nat} (h : decide ((k : Int) ≤ lastCl ms ms.length (runN ms k)) = false) : placeAt ms k = beg ms k + gp ms (runN ms k) := by
  unfold placeAt
  rw [if_neg (fun z => by rw [late_dec.mpr z] at h; cases h)]
def r_loop (Ξ : Xi) : PTS :=
  (ysFor (yiEnum (yVar 0)) (gTupY 2 [(gN 6), (gN 7)])
  (ysSeq (ysAsg (yIx (yVar 1) (yVar 6)) 8)
  (ysIf (yBinT (oEq false) (yIx (yVar 7) (yC (.int 0))) (yC (.str ("break" : Str))))
  (ysAsg (yBin oAdd (yBin oAdd (yVar 4) (yIx (yVar 2) (yVar 8))) (yIx (yVar 7) (yC (.int 1)))) 4)
  (ysIf (yBinT (oEq false) (yIx (yVar 7) (yC (.int 0))) (yC (.str ("move" : Str))))
  (ysAsg (yBin oAdd (yVar 4) (yIx (yVar 7) (yC (.int 1)))) 4)
  (ysIf (yBinT oLeA (yVar 6) (yIx (yVar 3) (yVar 8)))
  (ysApp 5 (yVar 4))
  (ysApp 5 (yBin oAdd (yVar 4) (yIx (yVar 2) (yVar 8)))))))))
def bodyR (Ξ : Xi) : PTS := (ysSeq (ysAsg (yIx (yVar 1) (yVar 6)) 8)
  (ysIf (yBinT (oEq false) (yIx (yVar 7) (yC (.int 0))) (yC (.str ("break" : Str))))
  (ysAsg (yBin oAdd (yBin oAdd (yVar 4) (yIx (yVar 2) (yVar 8))) (yIx (yVar 7) (yC (.int 1)))) 4)
  (ysIf (yBinT (oEq false) (yIx (yVar 7) (yC (.int 0))) (yC (.str ("move" : Str))))
  (ysAsg (yBin oAdd (yVar 4) (yIx (yVar 7) (yC (.int 1)))) 4)
  (ysIf (yBinT oLeA (yVar 6) (yIx (yVar 3) (yVar 8)))
  (ysApp 5 (yVar 4))
  (ysApp 5 (yBin oAdd (yVar 4) (yIx (yVar 2) (yVar 8))))))))
theorem loop_is (Ξ : Xi) : r_loop Ξ = ysFor (yiEnum (yVar 0)) (gTupY 2 [(gN 6), (gN 7)]) (bodyR Ξ) := rfl
noncomputable def eR (ms : List Mk) (M : D) (k : Nat) (p x r : Option S) : PEnv := [some (.v M), some (.v (.lst ((rsOf ms).1.map D.int))), some (.v (.lst ((gps ms).map D.int))), some (.v (.lst (lcD ms ms.length))), some (.v (.int (beg ms k))), some (.o ((placesTo ms k).map D.int)), p, x, r]
theorem app_place {ms : List Mk} {k : Nat} {m : Mk} (h : ms[k]? = some m) (hm : isOC m = true) : (placesTo ms k).map D.int ++ [.int (placeAt ms k)] = (placesTo ms (k + 1)).map D.int := by
  rw [places_oc h hm, List.map_append]
  rfl
theorem body_runs {ms : List Mk} {M : D} {Ξ : Xi} {Δ : PEnds} {i : Nat} {m : Mk} {r : Option S} (hl : ms.length ≤ 1000000) (em : ms[i]? = some m) (h : ∀ p x r, Δ.nx (eR ms M (i + 1) p x r)) : bodyR Ξ Δ (eR ms M i (some (.v (.int (i : Int)))) (some (.v m.d)) r) := by
  have hi := (List.getElem?_eq_some_iff.mp em).1
  refine seq_step (eR ms M i (some (.v (.int (i : Int)))) (some (.v m.d)) (some (.v (.int ((runN ms i : Nat) : Int))))) (fun K k => opt_of (atI_nat (numD_at hi)) k) ?_
  have happ : ∀ y, y = placeAt ms i → isOC m = true → (ysApp 5 (fun ε Q => Q (.d (.int y)) ε)) Δ (eR ms M i (some (.v (.int (i : Int)))) (some (.v m.d)) (some (.v (.int ((runN ms i : Nat) : Int))))) := fun y hy hm => by
    subst hy
    have hpl := places_len ms i
    refine gd_of (show ((placesTo ms i).map D.int).length < 16777216 by rw [List.length_map]; omega) ?_
    have h := h (some (.v (.int (i : Int)))) (some (.v m.d)) (some (.v (.int ((runN ms i : Nat) : Int))))
    unfold eR at h
    rw [← app_place em hm, beg_oc em hm] at h
    exact h
  have oc : isOC m = true → (ysIf (yBinT oLeA (yVar 6) (yIx (yVar 3) (yVar 8))) (ysApp 5 (yVar 4)) (ysApp 5 (yBin oAdd (yVar 4) (yIx (yVar 2) (yVar 8))))) Δ (eR ms M i (some (.v (.int (i : Int)))) (some (.v m.d)) (some (.v (.int ((runN ms i : Nat) : Int))))) := fun hm => by
    refine opt_of (lcD_at hi) ?_
    show (match decide ((i : Int) ≤ lastCl ms ms.length (runN ms i)) with
      | true => _
      | false => _)
    cases hd : decide ((i : Int) ≤ lastCl ms ms.length (runN ms i)) with
    | true => exact happ _ (place_late hd).symm hm
    | false =>
      refine opt_of gapD_at ?_
      exact happ _ (place_soon hd).symm hm
  cases m with
  | br r =>
    refine word_is (i := 7) (by exact rfl) w_break_break ?_
    refine opt_of gapD_at ?_
    have h := h (some (.v (.int (i : Int)))) (some (.v (Mk.d (.br r)))) (some (.v (.int ((runN ms i : Nat) : Int))))
    unfold eR at h
    rw [beg_br em, places_no em rfl, ← Int.add_assoc] at h
    exact h
  | mv r =>
    refine word_is (i := 7) (by exact rfl) w_move_break ?_
    refine word_is (i := 7) (by exact rfl) w_move_move ?_
    have h := h (some (.v (.int (i : Int)))) (some (.v (Mk.d (.mv r)))) (some (.v (.int ((runN ms i : Nat) : Int))))
    unfold eR at h
    rw [beg_mv em, places_no em rfl] at h
    exact h
  | op n v =>
    refine word_is (i := 7) (by exact rfl) w_open_break ?_
    refine word_is (i := 7) (by exact rfl) w_open_move ?_
    exact oc rfl
  | cl n v =>
    refine word_is (i := 7) (by exact rfl) w_close_break ?_
    refine word_is (i := 7) (by exact rfl) w_close_move ?_
    exact oc rfl
abbrev N_runs_in : List Str := ["marks", "numbers", "gaps", "closes", "begin", "places", "place", "mark", "run"]
def r_runs_in (Ξ : Xi) : PTS :=
  (ysSeq (ysIf (yOr (yNot (yTru (yIs .list (yVar 0)))) (yOr (yNot (yTru (yCB oAll (ylCons (yNew (ynLc (yiSeq (yVar 0)) (gN 7) yYes (yCall φ_is_mark Ξ0 (ylCons (yVar 7) ylNil)) [7])) ylNil)))) (yNot (yTru (yCall φ_are_nested Ξ (ylCons (yVar 0) ylNil))))))
  (ysRaise 11 Ξ)
  ysNext)
  (ysSeq (ysAsgG (yCall φ_runs_of Ξ (ylCons (yVar 0) ylNil)) (gTupY 2 [(gN 1), (gN 2)]))
  (ysSeq (ysAsg (yCall φ_last_closes Ξ (ylCons (yVar 0) (ylCons (yVar 1) ylNil))) 3)
  (ysSeq (ysAsg (yC (.int 0)) 4)
  (ysSeq (ysAsgO (ynLst ylNil) 5)
  (ysSeq (ysFor (yiEnum (yVar 0)) (gTupY 2 [(gN 6), (gN 7)])
  (ysSeq (ysAsg (yIx (yVar 1) (yVar 6)) 8)
  (ysIf (yBinT (oEq false) (yIx (yVar 7) (yC (.int 0))) (yC (.str ("break" : Str))))
  (ysAsg (yBin oAdd (yBin oAdd (yVar 4) (yIx (yVar 2) (yVar 8))) (yIx (yVar 7) (yC (.int 1)))) 4)
  (ysIf (yBinT (oEq false) (yIx (yVar 7) (yC (.int 0))) (yC (.str ("move" : Str))))
  (ysAsg (yBin oAdd (yVar 4) (yIx (yVar 7) (yC (.int 1)))) 4)
  (ysIf (yBinT oLeA (yVar 6) (yIx (yVar 3) (yVar 8)))
  (ysApp 5 (yVar 4))
  (ysApp 5 (yBin oAdd (yVar 4) (yIx (yVar 2) (yVar 8)))))))))
  (ysRet (yTup (ylCons (yVar 5) (ylCons (yBin oAdd (yVar 4) (yIx (yVar 2) (yNeg (yC (.int 1))))) ylNil))))))))))
theorem vc_runs_in (ds : List D) (Q' : D → Prop) (E' : Nat → Prop) (h : φ_runs_in ds Q' E') : r_runs_in (fun c _ => E' c) { nx := fun _ => Q' .non, rt := fun d _ => Q' d } (startE N_runs_in ds) := by
  unfold φ_runs_in at h
  split at h
  · rename_i M
    have ts : ∀ ds, isL M ds → ds.length ≤ 1000000 → ds.all okM = true → (match ds.all isMarkB with
        | true => φ_are_nested [M] (fun d => ∃ b, d = .bl b ∧ (match b with
          | true => ∃ ms, isL M (ms.map Mk.d) ∧ ms.length ≤ 1000000 ∧ nestB ms = true ∧ Q' (runsD ms)
          | false => E' 11)) E'
        | false => E' 11) → r_runs_in (fun c _ => E' c) { nx := fun _ => Q' .non, rt := fun d _ => Q' d } (startE N_runs_in [M]) := by
      intro ds hM hl hk h
      have rest : ∀ ms, isL M (ms.map Mk.d) → ms.length ≤ 1000000 → nestB ms = true → Q' (runsD ms) → (ysSeq (ysAsgG (yCall φ_runs_of (fun c _ => E' c) (ylCons (yVar 0) ylNil)) (gTupY 2 [(gN 1), (gN 2)])) (ysSeq (ysAsg (yCall φ_last_closes (fun c _ => E' c) (ylCons (yVar 0) (ylCons (yVar 1) ylNil))) 3)
  (ysSeq (ysAsg (yC (.int 0)) 4) (ysSeq (ysAsgO (ynLst ylNil) 5) (ysSeq (r_loop (fun c _ => E' c)) (ysRet (yTup (ylCons (yVar 5) (ylCons (yBin oAdd (yVar 4) (yIx (yVar 2) (yNeg (yC (.int 1))))) ylNil))))))))) { nx := fun _ => Q' .non, rt := fun d _ => Q' d } (startE N_runs_in [M]) := by
        intro ms hM hl hn h
        let s (d : D) : Option S := some (.v d)
        refine seq_step [s M, s (.lst ((rsOf ms).1.map D.int)), s (.lst ((gps ms).map D.int)), none, none, none, none, none, none] (fun K k => ?_) ?_
        · refine ⟨ms, hM, hl, ?_⟩
          rw [gaps_eq]
          exact gtup2 k
        refine seq_step [s M, s (.lst ((rsOf ms).1.map D.int)), s (.lst ((gps ms).map D.int)), s (.lst (lcD ms ms.length)), none, none, none, none, none] (fun K k => ⟨ms, hM, hl, hn, rfl, k⟩) ?_
        refine seq_step [s M, s (.lst ((rsOf ms).1.map D.int)), s (.lst ((gps ms).map D.int)), s (.lst (lcD ms ms.length)), s (.int 0), none, none, none, none] (fun K k => k) ?_
        refine seq_step (eR ms M 0 none none none) (fun K k => k) ?_
        refine seq_post (fun ε => ∃ p x r, ε = eR ms M ms.length p x r) (fun K kk => ?_) ?_
        · rw [loop_is]
          have key : ∃ Wp : Nat → PEnv → Prop, Wp 0 (eR ms M 0 none none none) ∧ (∀ i d ε, i < (enumD (ms.map Mk.d) 0).length → (enumD (ms.map Mk.d) 0)[i]? = some d → Wp i ε → gTupY 2 [(gN 6), (gN 7)] d ε fun ε2 =>
              bodyR (fun c _ => E' c) { nx := Wp (i + 1), rt := fun d _ => Q' d, ct := Wp (i + 1), bk := K } ε2) ∧ ∀ ε, Wp (enumD (ms.map Mk.d) 0).length ε → K ε := by
            refine ⟨fun i ε => ∃ p x r, ε = eR ms M i p x r, ⟨none, none, none, rfl⟩, fun i d ε hi hd ⟨p, x, r, q⟩ => ?_, fun ε ⟨p, x, r, q⟩ => kk ε ⟨p, x, r, by rw [enum_len] at q; exact q⟩⟩
            subst q
            obtain ⟨m, em, rfl⟩ := enum_mk hd
            exact gtup2 (body_runs hl em fun p x r => ⟨p, x, r, rfl⟩)
          rcases hM with rfl | rfl <;> exact key
        · rintro _ ⟨p, x, r, rfl⟩
          refine opt_of (gapD_last ms) ?_
          exact h
      have comp : ∀ K : Bool → PEnv → Prop, K (ds.all isMarkB) (startE N_runs_in [M]) → yTru (yCB oAll (ylCons (yNew (ynLc (yiSeq (yVar 0)) (gN 7) yYes (yCall φ_is_mark Ξ0 (ylCons (yVar 7) ylNil)) [7])) ylNil)) (startE N_runs_in [M]) K := by
        intro K hK
        have key : ∃ Wp : Nat → List D → Prop, Wp 0 [] ∧ (∀ i d acc, i < ds.length → ds[i]? = some d → acc.length ≤ i → Wp i acc → gN 7 d (wipeE (startE N_runs_in [M]) [7]) fun ε2 => yYes ε2 fun k ε3 => match k with
            | true => (yCall φ_is_mark Ξ0 (ylCons (yVar 7) ylNil)) ε3 fun t ε4 => out ε4 t fun y ε5 => wipeE ε5 [7] = wipeE (startE N_runs_in [M]) [7] ∧ Wp (i + 1) (acc ++ [y])
            | false => wipeE ε3 [7] = wipeE (startE N_runs_in [M]) [7] ∧ Wp (i + 1) acc) ∧ ∀ acc, acc.length ≤ ds.length → Wp ds.length acc → oAll [.lst acc] fun d => truD d fun b => K b (startE N_runs_in [M]) := by
          refine lc_map (Q := fun acc ε => oAll [.lst acc] fun d => truD d fun b => K b ε) (boolD isMarkB) (fun i d hd K N hk2 => ?_) ?_
          · exact ⟨List.all_eq_true.mp hk _ (List.mem_of_getElem? hd), rfl, hk2⟩
          · rw [map_bool]
            refine opt_of (toBls_map _) ?_
            rw [List.all_map]
            exact hK
        rcases hM with rfl | rfl <;> exact ⟨⟨trivial, trivial⟩, by omega, key⟩
      have fin : ∀ b : Bool, ds.all isMarkB = b → (match b with
          | true => φ_are_nested [M] (fun d => truD d fun b => (match !b with
            | true => E' 11
            | false => ∃ ms, isL M (ms.map Mk.d) ∧ ms.length ≤ 1000000 ∧ nestB ms = true ∧ Q' (runsD ms))) E'
          | false => E' 11) := by
        intro b hb
        rw [hb] at h
        cases b with
        | false => exact h
        | true =>
          obtain ⟨ms, h1, h2, b, hb, h3⟩ := h
          cases hb
          refine ⟨ms, h1, h2, ?_⟩
          show (match !nestB ms with
            | true => _
            | false => _)
          cases hn : nestB ms with
          | true =>
            rw [hn] at h3
            exact h3
          | false =>
            rw [hn] at h3
            exact h3
      have fin := fin _ rfl
      clear h
      revert fin
      generalize ds.all isMarkB = b at comp
      intro fin
      rcases hM with rfl | rfl <;>
      · refine comp _ ?_
        cases b with
        | false => exact fin
        | true =>
          obtain ⟨ms, h1, h2, h3⟩ := fin
          refine ⟨ms, h1, h2, ?_⟩
          revert h3
          generalize nestB ms = c
          intro h3
          cases c with
          | false => exact h3
          | true =>
            obtain ⟨ms, h1, h2, h3, h4⟩ := h3
            exact rest ms h1 h2 h3 h4
    rcases h with ⟨hb, hE⟩ | ⟨ms, h1, h2, h3, h4⟩
    · rcases hb with hb | ⟨ds, h1, h2, h3, h4⟩ | ⟨ms, h1, h2, h3⟩
      · cases M with
        | lst _ => cases hb
        | frl _ => cases hb
        | vl _ => cases hb
        | pool => cases hb
        | err _ _ => cases hb
        | _ => exact hE
      · refine ts ds h1 h2 h3 ?_
        rw [h4]
        exact hE
      · refine ts _ h1 (by rw [List.length_map]; exact h2) (all_okM ms) ?_
        rw [all_isMark]
        exact ⟨ms, h1, h2, _, rfl, by rw [h3]; exact hE⟩
    · refine ts _ h1 (by rw [List.length_map]; exact h2) (all_okM ms) ?_
      rw [all_isMark]
      exact ⟨ms, h1, h2, _, rfl, by rw [h3]; exact ⟨ms, h1, h2, h3, h4⟩⟩
  · exact h.elim

end PL.K48

set_option Elab.async false
set_option linter.all false
set_option autoImplicit false
set_option maxRecDepth 100000
set_option maxHeartbeats 1000000
namespace PL.K48
open PySem PySem.Spec PyProof.Rows L2
local macro_rules | `(tactic| walk_at "y") => `(tactic| conv => whnf)
/-! ### marks by the making -/
def φ_law_number : Spec
  | [.pool], Q, _ => ∀ i : Int, Q (.int i)
  | _, _, _ => False
abbrev N_law_number : List Str := ["pool", "kind"]
def r_law_number (Ξ : Xi) : PTS :=
  (ysSeq (ysAsg (yCall φ_law_pick Ξ (ylCons (yVar 0) (ylCons (yC (.int 12)) ylNil))) 1)
  (ysSeq (ysIf (yBinT (oEq false) (yVar 1) (yC (.int 0)))
  (ysRet (yBin oMulA (yBin oSub (yCall φ_law_pick Ξ (ylCons (yVar 0) (ylCons (yC (.int 3)) ylNil))) (yC (.int 1))) (yBin oPow (yC (.int 10)) (yC (.int 20)))))
  ysNext)
  (ysSeq (ysIf (yBinT oLt (yVar 1) (yC (.int 4)))
  (ysRet (yC (.int 0)))
  ysNext)
  (ysRet (yBin oSub (yCall φ_law_pick Ξ (ylCons (yVar 0) (ylCons (yC (.int 19)) ylNil))) (yC (.int 9)))))))
theorem vc_law_number (ds : List D) (Q' : D → Prop) (E' : Nat → Prop) (h : φ_law_number ds Q' E') : r_law_number (fun c _ => E' c) { nx := fun _ => Q' .non, rt := fun d _ => Q' d } (startE N_law_number ds) := by
  unfold φ_law_number at h
  split at h
  · refine seq_post (fun ε => ∃ k : Int, ε = [some (.v .pool), some (.v (.int k))]) (fun K kk => fun k k0 k1 => kk _ ⟨k, rfl⟩) ?_
    rintro _ ⟨k, rfl⟩
    refine seq_post (fun ε => ε = [some (.v .pool), some (.v (.int k))]) (fun K kk => ?_) ?_
    · show (match decide (k = 0) with
        | true => _
        | false => _)
      generalize decide (k = 0) = b
      cases b with
      | true =>
        intro r r0 r1
        exact gd_of (.inl ⟨by omega, by omega⟩) (h _)
      | false => exact kk _ rfl
    · rintro _ rfl
      show (match decide (k < 4) with
        | true => _
        | false => _)
      generalize decide (k < 4) = b
      cases b with
      | true => exact h _
      | false =>
        intro r r0 r1
        exact h _
  · exact h.elim
def φ_law_rows : Spec
  | [.pool], Q, _ => ∀ i : Int, Q (.int i)
  | _, _, _ => False
abbrev N_law_rows : List Str := ["pool"]
def r_law_rows (Ξ : Xi) : PTS :=
  (ysRet (yIx (yNew (ynLst (ylCons (yC (.int 0)) (ylCons (yC (.int 0)) (ylCons (yC (.int 1)) (ylCons (yC (.int 1)) (ylCons (yC (.int 2)) (ylCons (yC (.int 5)) (ylCons (yNeg (yC (.int 1))) (ylCons (yNeg (yC (.int 3))) (ylCons (yBin oPow (yC (.int 10)) (yC (.int 19))) ylNil))))))))))) (yCall φ_law_pick Ξ (ylCons (yVar 0) (ylCons (yC (.int 9)) ylNil)))))
theorem vc_law_rows (ds : List D) (Q' : D → Prop) (E' : Nat → Prop) (h : φ_law_rows ds Q' E') : r_law_rows (fun c _ => E' c) { nx := fun _ => Q' .non, rt := fun d _ => Q' d } (startE N_law_rows ds) := by
  unfold φ_law_rows at h
  split at h
  · intro k k0 k1
    refine pick_of k0 k1 fun d hd => ?_
    have : ∃ i, d = .int i := by
      replace hd : d ∈ [D.int 0, .int 0, .int 1, .int 1, .int 2, .int 5, .int (-1), .int (-3), .int (10 ^ Int.toNat 19)] := hd
      simp only [List.mem_cons, List.not_mem_nil, or_false] at hd
      rcases hd with rfl | rfl | rfl | rfl | rfl | rfl | rfl | rfl | rfl <;> exact ⟨_, rfl⟩
    obtain ⟨i, rfl⟩ := this
    exact h i
  · exact h.elim
structure Making (a s : Int) (t l : Nat) (ms : List Mk) (w met : List Int) : Prop where
  run : nRun [] [] ms = some (w, met)
  len : ms.length ≤ l
  wl : w.length ≤ t
  new : ∀ n ∈ met, ∃ j : Nat, j < t ∧ n = a + s * (j : Int)
  nam : ∀ n u, Mk.op n u ∈ ms → n ∈ met
theorem Making.add {a s : Int} {t l : Nat} {ms : List Mk} {w met : List Int} (h : Making a s t l ms w met) (m : Mk) {w' met' : List Int} (hr : nRun w met [m] = some (w', met')) (hm : ∀ n u, m = .op n u → n ∈ met') (hs : ∀ x ∈ met, x ∈ met') {t' : Nat} (hw : w'.length ≤ t') (hn : ∀ n ∈ met', ∃ j : Nat, j < t' ∧ n = a + s * (j : Int)) : Making a s t' (l + 1) (ms ++ [m]) w' met' := by
  refine ⟨?_, ?_, hw, hn, fun n u e => ?_⟩
  · rw [nRun_app, h.run]
    exact hr
  · rw [List.length_append, List.length_singleton]
    have := h.len
    omega
  · rcases List.mem_append.mp e with e | e
    · exact hs _ (h.nam n u e)
    · exact hm n u (List.mem_singleton.mp e).symm
theorem Making.op {a s : Int} {t l : Nat} {ms : List Mk} {w met : List Int} (h : Making a s t l ms w met) (hs : s ≠ 0) (v : Int) : Making a s (t + 1) (l + 1) (ms ++ [.op (a + s * (t : Int)) v]) ((a + s * (t : Int)) :: w) ((a + s * (t : Int)) :: met) := by
  have hf : a + s * (t : Int) ∉ met := fun z => by
    obtain ⟨j, hj, e⟩ := h.new _ z
    have e2 : s * (t : Int) = s * (j : Int) := by omega
    have := Int.eq_of_mul_eq_mul_left hs e2
    omega
  refine h.add _ ?_ (fun n u e => ?_) (fun x hx => List.mem_cons_of_mem _ hx) ?_ fun n hn => ?_
  · show (if a + s * (t : Int) ∈ met then none else some _) = _
    rw [if_neg hf]
  · cases e
    exact List.mem_cons_self
  · have := h.wl
    rw [List.length_cons]
    omega
  · rcases List.mem_cons.mp hn with rfl | hn
    · exact ⟨t, by omega, rfl⟩
    · obtain ⟨j, hj, e⟩ := h.new _ hn
      exact ⟨j, by omega, e⟩
theorem Making.cl {a s : Int} {t l : Nat} {ms : List Mk} {x : Int} {w met : List Int} (h : Making a s t l ms (x :: w) met) (v : Int) : Making a s t (l + 1) (ms ++ [.cl x v]) w met := by
  refine h.add _ ?_ (fun n u e => by cases e) (fun x hx => hx) ?_ h.new
  · show (if x = x then some _ else none) = _
    rw [if_pos rfl]
  · have := h.wl
    rw [List.length_cons] at this
    omega
theorem Making.br {a s : Int} {t l : Nat} {ms : List Mk} {w met : List Int} (h : Making a s t l ms w met) (r : Int) : Making a s t (l + 1) (ms ++ [.br r]) w met := h.add _ rfl (fun n u e => by cases e) (fun x hx => hx) h.wl h.new
theorem Making.mv {a s : Int} {t l : Nat} {ms : List Mk} {w met : List Int} (h : Making a s t l ms w met) (r : Int) : Making a s t (l + 1) (ms ++ [.mv r]) w met := h.add _ rfl (fun n u e => by cases e) (fun x hx => hx) h.wl h.new
theorem Making.more {a s : Int} {t l t' l' : Nat} {ms : List Mk} {w met : List Int} (h : Making a s t l ms w met) (ht : t ≤ t') (hl : l ≤ l') : Making a s t' l' ms w met := ⟨h.run, Nat.le_trans h.len hl, Nat.le_trans h.wl ht, fun n hn => by obtain ⟨j, hj, e⟩ := h.new n hn; exact ⟨j, by omega, e⟩, h.nam⟩
theorem map_mk (ms : List Mk) (m : Mk) : ms.map Mk.d ++ [m.d] = (ms ++ [m]).map Mk.d := by simp
structure MarksOk (ms : List Mk) : Prop where
  nest : nestB ms = true
  len : ms.length ≤ 1000
  nam : ∀ n u, Mk.op n u ∈ ms → -2000 < n ∧ n < 2000
def φ_law_marks : Spec
  | [.pool, .int many, .int _], Q, _ => gd (0 ≤ many ∧ many ≤ 250) (∀ ms, MarksOk ms → Q (.lst (ms.map Mk.d)))
  | _, _, _ => False
def eM (many deep a s b : Int) (ms : List Mk) (w : List Int) (t k : Option S) : PEnv := [some (.v .pool), some (.v (.int many)), some (.v (.int deep)), some (.o (ms.map Mk.d)), some (.o (w.reverse.map D.int)), some (.v (.int a)), some (.v (.int s)), some (.v (.int b)), t, k]
theorem brk_step {many deep a s b : Int} {ms : List Mk} {w met : List Int} {t l : Nat} {tt k : Option S} {n : Int} {Δ : PEnds} (hn : 0 < n) (hl : l ≤ 1000000) (hM : Making a s t l ms w met) (hk : ∀ ms, Making a s t (l + 1) ms w met → Δ.nx (eM many deep a s b ms w tt k)) {Ξ : Xi} : (ysIf (yBinT oLt (yCall φ_law_pick Ξ (ylCons (yVar 0) (ylCons (yC (.int n)) ylNil))) (yBin oSub (yVar 7) (yC (.int 1))))
  (ysApp 3 (yTup (ylCons (yC (.str ("break" : Str))) (ylCons (yCall φ_law_rows Ξ (ylCons (yVar 0) ylNil)) ylNil))))
  ysNext) Δ (eM many deep a s b ms w tt k) := by
  refine gd_of hn ?_
  intro r r0 r1
  show (match decide (r < b - 1) with
    | true => _
    | false => _)
  generalize decide (r < b - 1) = c
  cases c with
  | true =>
    intro i
    have := hM.len
    refine gd_of (show (ms.map Mk.d).length < 16777216 by rw [List.length_map]; omega) ?_
    have h := hk _ (hM.br i)
    unfold eM at h
    rw [← map_mk] at h
    exact h
  | false => exact hk _ (hM.more (Nat.le_refl _) (by omega))
theorem mark_step {many deep a s b : Int} {ms : List Mk} {w met : List Int} {t l : Nat} {k : Int} {Δ : PEnds} (hs : s ≠ 0) (hs2 : -8 < s ∧ s < 8) (hl : l ≤ 1000000) (ht : t ≤ 1000000) (hM : Making a s t l ms w met) (hk : ∀ ms w met, Making a s (t + 1) (l + 1) ms w met → Δ.nx (eM many deep a s b ms w (some (.v (.int (t : Int)))) (some (.v (.int k))))) {Ξ : Xi} : (ysIf (yAnd (yBinT oLt (yVar 9) (yC (.int 4))) (yBinT oLt (yCB oLen (ylCons (yVar 4) ylNil)) (yVar 2)))
  (ysSeq (ysApp 4 (yBin oAdd (yVar 5) (yBin oMulA (yVar 6) (yVar 8))))
  (ysApp 3 (yTup (ylCons (yC (.str ("open" : Str))) (ylCons (yIx (yVar 4) (yNeg (yC (.int 1)))) (ylCons (yCall φ_law_number Ξ (ylCons (yVar 0) ylNil)) ylNil))))))
  (ysIf (yAnd (yBinT oLt (yVar 9) (yC (.int 7))) (yBinT (oEq true) (yVar 4) (yNew (ynLst ylNil))))
  (ysApp 3 (yTup (ylCons (yC (.str ("close" : Str))) (ylCons (yPop 4) (ylCons (yCall φ_law_number Ξ (ylCons (yVar 0) ylNil)) ylNil)))))
  (ysIf (yBinT (oEq false) (yVar 9) (yC (.int 8)))
  (ysApp 3 (yTup (ylCons (yC (.str ("move" : Str))) (ylCons (yCall φ_law_number Ξ (ylCons (yVar 0) ylNil)) ylNil))))
  ysNext))) Δ (eM many deep a s b ms w (some (.v (.int (t : Int)))) (some (.v (.int k)))) := by
  have lm := hM.len
  have lw := hM.wl
  have gm : (ms.map Mk.d).length < 16777216 := by rw [List.length_map]; omega
  have two : (ysIf (yAnd (yBinT oLt (yVar 9) (yC (.int 7))) (yBinT (oEq true) (yVar 4) (yNew (ynLst ylNil))))
  (ysApp 3 (yTup (ylCons (yC (.str ("close" : Str))) (ylCons (yPop 4) (ylCons (yCall φ_law_number Ξ (ylCons (yVar 0) ylNil)) ylNil)))))
  (ysIf (yBinT (oEq false) (yVar 9) (yC (.int 8)))
  (ysApp 3 (yTup (ylCons (yC (.str ("move" : Str))) (ylCons (yCall φ_law_number Ξ (ylCons (yVar 0) ylNil)) ylNil))))
  ysNext)) Δ (eM many deep a s b ms w (some (.v (.int (t : Int)))) (some (.v (.int k)))) := by
    have three : (ysIf (yBinT (oEq false) (yVar 9) (yC (.int 8)))
  (ysApp 3 (yTup (ylCons (yC (.str ("move" : Str))) (ylCons (yCall φ_law_number Ξ (ylCons (yVar 0) ylNil)) ylNil))))
  ysNext) Δ (eM many deep a s b ms w (some (.v (.int (t : Int)))) (some (.v (.int k)))) := by
      show (match decide (k = 8) with
        | true => _
        | false => _)
      generalize decide (k = 8) = c
      cases c with
      | true =>
        intro i
        refine gd_of gm ?_
        have h := hk _ _ _ ((hM.mv i).more (Nat.le_succ _) (Nat.le_refl _))
        unfold eM at h
        rw [← map_mk] at h
        exact h
      | false => exact hk _ _ _ (hM.more (Nat.le_succ _) (Nat.le_succ _))
    show (match decide (k < 7) with
      | true => _
      | false => _)
    generalize decide (k < 7) = c
    cases c with
    | true =>
      refine gd_of ⟨shaped_ints _, by decide⟩ ?_
      rw [eqv_lnil]
      cases w with
      | nil => exact three
      | cons y w =>
        have e2 : ((y :: w).reverse.map D.int).isEmpty = false := by simp
        rw [e2]
        have e4 : unsnoc ((y :: w).reverse.map D.int) = some (w.reverse.map D.int, .int y) := by rw [← rev_snoc]; exact unsnoc_snoc _ _
        refine opt_of e4 ?_
        intro i
        refine gd_of gm ?_
        have h := hk _ _ _ ((hM.cl i).more (Nat.le_succ _) (Nat.le_refl _))
        unfold eM at h
        rw [← map_mk] at h
        exact h
    | false => exact three
  show (match decide (k < 4) with
    | true => _
    | false => _)
  generalize decide (k < 4) = c
  cases c with
  | true =>
    show (match decide ((((w.reverse.map D.int).length : Nat) : Int) < deep) with
      | true => _
      | false => _)
    generalize decide ((((w.reverse.map D.int).length : Nat) : Int) < deep) = c
    cases c with
    | true =>
      refine gd_of (.inl ⟨by omega, by omega⟩) ?_
      refine gd_of (show (w.reverse.map D.int).length < 16777216 by rw [List.length_map, List.length_reverse]; omega) ?_
      refine opt_of (atI_m1 _ _) ?_
      intro i
      refine gd_of gm ?_
      have h := hk _ _ _ (hM.op hs i)
      unfold eM at h
      rw [← map_mk, ← rev_snoc] at h
      exact h
    | false => exact two
  | false => exact two
abbrev N_law_marks : List Str := ["pool", "many", "deep", "marks", "waiting", "first", "step", "breaks", "turn", "kind"]
def r_law_marks (Ξ : Xi) : PTS :=
  (ysSeq (ysParP [3, 4, 5, 6] (ypN (ynLst ylNil) (ypN (ynLst ylNil) (ypE (yBin oSub (yCall φ_law_pick Ξ (ylCons (yVar 0) (ylCons (yC (.int 60)) ylNil))) (yC (.int 30))) (ypE (yIx (yNew (ynLst (ylCons (yC (.int 1)) (ylCons (yC (.int 1)) (ylCons (yNeg (yC (.int 1))) (ylCons (yC (.int 7)) ylNil)))))) (yCall φ_law_pick Ξ (ylCons (yVar 0) (ylCons (yC (.int 4)) ylNil)))) ypNil)))))
  (ysSeq (ysAsg (yBin oAdd (yC (.int 1)) (yCall φ_law_pick Ξ (ylCons (yVar 0) (ylCons (yC (.int 4)) ylNil)))) 7)
  (ysSeq (ysFor (yiRg1 (ylCons (yVar 1) ylNil)) (gN 8)
  (ysSeq (ysAsg (yCall φ_law_pick Ξ (ylCons (yVar 0) (ylCons (yC (.int 9)) ylNil))) 9)
  (ysSeq (ysIf (yAnd (yBinT oLt (yVar 9) (yC (.int 4))) (yBinT oLt (yCB oLen (ylCons (yVar 4) ylNil)) (yVar 2)))
  (ysSeq (ysApp 4 (yBin oAdd (yVar 5) (yBin oMulA (yVar 6) (yVar 8))))
  (ysApp 3 (yTup (ylCons (yC (.str ("open" : Str))) (ylCons (yIx (yVar 4) (yNeg (yC (.int 1)))) (ylCons (yCall φ_law_number Ξ (ylCons (yVar 0) ylNil)) ylNil))))))
  (ysIf (yAnd (yBinT oLt (yVar 9) (yC (.int 7))) (yBinT (oEq true) (yVar 4) (yNew (ynLst ylNil))))
  (ysApp 3 (yTup (ylCons (yC (.str ("close" : Str))) (ylCons (yPop 4) (ylCons (yCall φ_law_number Ξ (ylCons (yVar 0) ylNil)) ylNil)))))
  (ysIf (yBinT (oEq false) (yVar 9) (yC (.int 8)))
  (ysApp 3 (yTup (ylCons (yC (.str ("move" : Str))) (ylCons (yCall φ_law_number Ξ (ylCons (yVar 0) ylNil)) ylNil))))
  ysNext)))
  (ysIf (yBinT oLt (yCall φ_law_pick Ξ (ylCons (yVar 0) (ylCons (yC (.int 6)) ylNil))) (yBin oSub (yVar 7) (yC (.int 1))))
  (ysApp 3 (yTup (ylCons (yC (.str ("break" : Str))) (ylCons (yCall φ_law_rows Ξ (ylCons (yVar 0) ylNil)) ylNil))))
  ysNext))))
  (ysSeq (ysFor (yiRg1 (ylCons (yCB oLen (ylCons (yVar 4) ylNil)) ylNil)) (gN 8)
  (ysSeq (ysApp 3 (yTup (ylCons (yC (.str ("close" : Str))) (ylCons (yPop 4) (ylCons (yCall φ_law_number Ξ (ylCons (yVar 0) ylNil)) ylNil)))))
  (ysIf (yBinT oLt (yCall φ_law_pick Ξ (ylCons (yVar 0) (ylCons (yC (.int 5)) ylNil))) (yBin oSub (yVar 7) (yC (.int 1))))
  (ysApp 3 (yTup (ylCons (yC (.str ("break" : Str))) (ylCons (yCall φ_law_rows Ξ (ylCons (yVar 0) ylNil)) ylNil))))
  ysNext)))
  (ysRet (yVar 3))))))
theorem vc_law_marks (ds : List D) (Q' : D → Prop) (E' : Nat → Prop) (h : φ_law_marks ds Q' E') : r_law_marks (fun c _ => E' c) { nx := fun _ => Q' .non, rt := fun d _ => Q' d } (startE N_law_marks ds) := by
  unfold φ_law_marks at h
  split at h
  · rename_i many deep
    obtain ⟨⟨hm0, hm1⟩, h2⟩ := gd_elim h
    refine seq_post (fun ε => ∃ a s : Int, -30 ≤ a ∧ a < 30 ∧ s ≠ 0 ∧ -1 ≤ s ∧ s < 8 ∧ ε = [some (.v .pool), some (.v (.int many)), some (.v (.int deep)), some (.o []), some (.o []), some (.v (.int a)), some (.v (.int s)), none, none, none]) (fun K kk => ?_) ?_
    · intro r r0 r1
      intro q q0 q1
      refine pick_of q0 q1 fun d hd => ?_
      have : ∃ i : Int, d = .int i ∧ i ≠ 0 ∧ -1 ≤ i ∧ i < 8 := by
        replace hd : d ∈ [D.int 1, .int 1, .int (-1), .int 7] := hd
        simp only [List.mem_cons, List.not_mem_nil, or_false] at hd
        rcases hd with rfl | rfl | rfl | rfl <;> exact ⟨_, rfl, by decide, by decide, by decide⟩
      obtain ⟨i, rfl, i0, i1, i2⟩ := this
      exact ⟨rfl, kk _ ⟨r - 30, i, by omega, by omega, i0, i1, i2, rfl⟩⟩
    rintro _ ⟨a, s, a0, a1, s0, s1, s2, rfl⟩
    refine seq_post (fun ε => ∃ b : Int, ε = eM many deep a s b [] [] none none) (fun K kk => fun q q0 q1 => kk _ ⟨1 + q, rfl⟩) ?_
    rintro _ ⟨b, rfl⟩
    obtain ⟨mn, rfl⟩ := Int.eq_ofNat_of_zero_le hm0
    refine seq_post (fun ε => ∃ ms w met t k, Making a s mn (2 * mn) ms w met ∧ ε = eM mn deep a s b ms w t k) (fun K kk => ?_) ?_
    · refine gd_of (small_any (by omega) (by omega)) ?_
      refine ⟨fun i ε => ∃ ms w met t k, Making a s i (2 * i) ms w met ∧ ε = eM mn deep a s b ms w t k, ⟨[], [], [], none, none, ⟨rfl, Nat.le_refl _, Nat.le_refl _, fun n hn => (by cases hn), fun n u hn => (by cases hn)⟩, rfl⟩, fun i d ε hi hd ⟨ms, w, met, t, k, hM, q⟩ => ?_, fun ε ⟨ms, w, met, t, k, hM, q⟩ => kk ε ⟨ms, w, met, t, k, by rw [rangeD_len, Int.toNat_natCast] at hM; exact hM, q⟩⟩
      subst q
      obtain ⟨hi, rfl⟩ := rangeD_get hd
      rw [Int.toNat_natCast] at hi
      rw [z_add]
      show ysSeq _ _ _ (eM mn deep a s b ms w (some (.v (.int (i : Int)))) k)
      refine seq_post (fun ε => ∃ k : Int, ε = eM mn deep a s b ms w (some (.v (.int (i : Int)))) (some (.v (.int k)))) (fun K kk => fun q q0 q1 => kk _ ⟨q, rfl⟩) ?_
      rintro _ ⟨k, rfl⟩
      refine seq_post (fun ε => ∃ ms w met, Making a s (i + 1) (2 * i + 1) ms w met ∧ ε = eM mn deep a s b ms w (some (.v (.int (i : Int)))) (some (.v (.int k)))) (fun K kk => ?_) ?_
      · exact mark_step s0 ⟨by omega, by omega⟩ (by omega) (by omega) hM fun ms w met hM => kk _ ⟨ms, w, met, hM, rfl⟩
      · rintro _ ⟨ms, w, met, hM, rfl⟩
        refine brk_step (by decide) (by omega) hM ?_
        intro ms hM
        exact ⟨ms, w, met, _, _, hM, rfl⟩
    rintro _ ⟨ms, w, met, t, k, hM, rfl⟩
    have lw := hM.wl
    refine seq_post (fun ε => ∃ ms t, Making a s mn (4 * mn) ms [] met ∧ ε = eM mn deep a s b ms [] t k) (fun K kk => ?_) ?_
    · refine gd_of (small_any (j := (((w.reverse.map D.int).length : Nat) : Int)) (by omega) (by rw [List.length_map, List.length_reverse]; omega)) ?_
      have hlw : (w.reverse.map D.int).length = w.length := by rw [List.length_map, List.length_reverse]
      refine ⟨fun i ε => ∃ ms t w', Making a s mn (2 * mn + 2 * i) ms w' met ∧ w'.length = w.length - i ∧ ε = eM mn deep a s b ms w' t k, ⟨ms, t, w, hM, rfl, rfl⟩, fun i d ε hi hd ⟨ms, t, w', hM, hw', q⟩ => ?_, fun ε ⟨ms, t, w', hM, hw', q⟩ => kk ε ?_⟩
      · subst q
        obtain ⟨hi, rfl⟩ := rangeD_get hd
        rw [Int.toNat_natCast, hlw] at hi
        cases w' with
        | nil => rw [List.length_nil] at hw'; omega
        | cons y w' =>
          rw [List.length_cons] at hw'
          show ysSeq _ _ _ (eM mn deep a s b ms (y :: w') (some (.v (.int (0 + (i : Int))))) k)
          have lm := hM.len
          refine seq_post (fun ε => ∃ ms, Making a s mn (2 * mn + 2 * i + 1) ms w' met ∧ ε = eM mn deep a s b ms w' (some (.v (.int (0 + (i : Int))))) k) (fun K kk => ?_) ?_
          · have e4 : unsnoc ((y :: w').reverse.map D.int) = some (w'.reverse.map D.int, .int y) := by rw [← rev_snoc]; exact unsnoc_snoc _ _
            refine opt_of e4 ?_
            intro v
            refine gd_of (show (ms.map Mk.d).length < 16777216 by rw [List.length_map]; omega) ?_
            refine kk _ ⟨ms ++ [.cl y v], hM.cl v, ?_⟩
            unfold eM
            rw [← map_mk]
            rfl
          · rintro _ ⟨ms, hM, rfl⟩
            refine brk_step (by decide) (by omega) hM ?_
            intro ms hM
            exact ⟨ms, _, w', hM, by omega, rfl⟩
      · rw [rangeD_len, Int.toNat_natCast, hlw] at hM hw'
        obtain rfl : w' = [] := List.length_eq_zero_iff.mp (by omega)
        exact ⟨ms, t, hM.more (Nat.le_refl _) (by omega), q⟩
    · rintro _ ⟨ms, t, hM, rfl⟩
      refine h2 ms ⟨?_, ?_, fun n u hn => ?_⟩
      · unfold nestB
        rw [hM.run]
        rfl
      · have := hM.len
        omega
      · obtain ⟨j, hj, rfl⟩ := hM.new _ (hM.nam n u hn)
        have hj : (j : Int) < 250 := by omega
        have : s = -1 ∨ s = 1 ∨ s = 2 ∨ s = 3 ∨ s = 4 ∨ s = 5 ∨ s = 6 ∨ s = 7 := by omega
        rcases this with rfl | rfl | rfl | rfl | rfl | rfl | rfl | rfl <;> omega
  · exact h.elim

end PL.K48

set_option Elab.async false
set_option linter.all false
set_option autoImplicit false
set_option maxRecDepth 100000
set_option maxHeartbeats 1000000
namespace PL.K48
open PySem PySem.Spec PyProof.Rows L2
local macro_rules | `(tactic| walk_at "y") => `(tactic| conv => whnf)
/-! ### spans -/
def spD (p : Nat × Nat) : D := .tup [.int (p.1 : Nat), .int (p.2 : Nat)]
def φ_law_spans : Spec
  | [.lst ds], Q, _ => ∃ ms : List Mk, ds = ms.map Mk.d ∧ ms.length ≤ 1000000 ∧ ∀ ss : List (Nat × Nat), ss.length = ms.length → (∀ i f t, ss[i]? = some (f, t) → IsSpan ms i f t) → Q (.lst (ss.map spD))
  | _, _, _ => False
structure Spanning (ms : List Mk) (k : Nat) (ss : List (Nat × Nat)) (f : Nat) : Prop where
  sp : ∀ i a b, ss[i]? = some (a, b) → IsSpan ms i a b
  len : ss.length = f
  le : f ≤ k
  no : ∀ i m, f ≤ i → i < k → ms[i]? = some m → isBr m = false
  lo : f = 0 ∨ ∃ g m, f = g + 1 ∧ ms[g]? = some m ∧ isBr m = true
theorem Spanning.fill {ms : List Mk} {k : Nat} {ss : List (Nat × Nat)} {f : Nat} (h : Spanning ms k ss f) (hk : k ≤ ms.length) (hi : k = ms.length ∨ ∃ m, ms[k]? = some m ∧ isBr m = true) : (∀ i a b, (ss ++ List.replicate (k - f) (f, k))[i]? = some (a, b) → IsSpan ms i a b) ∧ (ss ++ List.replicate (k - f) (f, k)).length = k := by
  have hlen := h.len
  have hle := h.le
  refine ⟨fun i a b e => ?_, by rw [List.length_append, List.length_replicate]; omega⟩
  by_cases hi2 : i < ss.length
  · rw [List.getElem?_append_left hi2] at e
    exact h.sp i a b e
  · rw [List.getElem?_append_right (by omega), List.getElem?_replicate] at e
    split at e
    · rename_i lt
      cases e
      have st : Stretch ms f k := ⟨h.le, hk, h.no, h.lo, hi⟩
      refine ⟨fun r er => ?_, fun _ => ⟨by omega, by omega, st⟩⟩
      have := h.no i _ (by omega) (by omega) er
      cases this
    · cases e
theorem rep_map {n : Nat} {α β : Type} (f : α → β) (x : α) : (List.replicate n x).map f = List.replicate n (f x) := List.map_replicate
theorem const_map {α β : Type} (y : β) : ∀ l : List α, l.map (fun _ => y) = List.replicate l.length y
  | [] => rfl
  | _ :: l => by rw [List.map_cons, const_map y l]; rfl
theorem mkD_at {ms : List Mk} {k : Nat} {m : Mk} (h : ms[k]? = some m) : atI (ms.map Mk.d) (k : Int) = some m.d := atI_nat (by rw [List.getElem?_map, h]; rfl)
theorem word_br (m : Mk) : decide (wordM m = "break") = isBr m := by
  cases m with
  | op _ _ => exact w_open_break
  | cl _ _ => exact w_close_break
  | br _ => exact w_break_break
  | mv _ => exact w_move_break
/-- marks[k][0] == word -/
theorem word_at {a j : Nat} {ε : PEnv} {ms : List Mk} {k : Nat} {m : Mk} {b : Str} {c : Bool} {K : Bool → PEnv → Prop} (h0 : ε[a]? = some (some (.v (.lst (ms.map Mk.d))))) (hj : ε[j]? = some (some (.v (.int (k : Int))))) (hm : ms[k]? = some m) (e : decide (wordM m = b) = c) (q : K c ε) : yBinT (oEq false) (yIx (yIx (yVar a) (yVar j)) (yC (.int 0))) (yC (.str b)) ε K := by
  subst e
  unfold yBinT yIx yBin yVar
  simp only [h0, hj]
  show opt (atI (ms.map Mk.d) (k : Int)) _
  refine opt_of (mkD_at hm) ?_
  rw [mk_d]
  exact opt_of (atI_nat (j := 0) rfl) q
abbrev N_law_spans : List Str := ["marks", "spans", "first", "k", "turn"]
def r_law_spans (Ξ : Xi) : PTS :=
  (ysSeq (ysAsgG (yTup (ylCons (yNew (ynLst ylNil)) (ylCons (yC (.int 0)) ylNil))) (gTupY 2 [(gN 1), (gN 2)]))
  (ysSeq (ysFor (yiRg1 (ylCons (yBin oAdd (yCB oLen (ylCons (yVar 0) ylNil)) (yC (.int 1))) ylNil)) (gN 3)
  (ysIf (yOr (yBinT (oEq false) (yVar 3) (yCB oLen (ylCons (yVar 0) ylNil))) (yBinT (oEq false) (yIx (yIx (yVar 0) (yVar 3)) (yC (.int 0))) (yC (.str ("break" : Str)))))
  (ysSeq (ysAsg (yBin oAdd (yVar 1) (yNew (ynLc (yiRg2 (ylCons (yVar 2) (ylCons (yVar 3) ylNil))) (gN 4) yYes (yTup (ylCons (yVar 2) (ylCons (yVar 3) ylNil))) [4]))) 1)
  (ysSeq (ysAsg (yBin oAdd (yVar 1) (yBin oMulA (yNew (ynLst (ylCons (yTup (ylCons (yVar 3) (ylCons (yVar 3) ylNil))) ylNil))) (yCB oInt (ylCons (yBin oLt (yVar 3) (yCB oLen (ylCons (yVar 0) ylNil))) ylNil)))) 1)
  (ysAsg (yBin oAdd (yVar 3) (yC (.int 1))) 2)))
  ysNext))
  (ysRet (yVar 1))))
theorem vc_law_spans (ds : List D) (Q' : D → Prop) (E' : Nat → Prop) (h : φ_law_spans ds Q' E') : r_law_spans (fun c _ => E' c) { nx := fun _ => Q' .non, rt := fun d _ => Q' d } (startE N_law_spans ds) := by
  unfold φ_law_spans at h
  split at h
  · obtain ⟨ms, rfl, hl, h⟩ := h
    let e (ss : List (Nat × Nat)) (f : Nat) (k : Option S) : PEnv := [some (.v (.lst (ms.map Mk.d))), some (.v (.lst (ss.map spD))), some (.v (.int (f : Int))), k, none]
    refine seq_step (e [] 0 none) (fun K k => gtup2 k) ?_
    refine seq_post (fun ε => ∃ ss f k, ss.length = ms.length ∧ (∀ i a b, ss[i]? = some (a, b) → IsSpan ms i a b) ∧ ε = e ss f k) (fun K kk => ?_) ?_
    · refine gd_of (small_any (j := (((ms.map Mk.d).length : Nat) : Int) + 1) (by omega) (by rw [List.length_map]; omega)) ?_
      have hrl : ((((ms.map Mk.d).length : Nat) : Int) + 1).toNat = ms.length + 1 := by rw [List.length_map]; omega
      refine ⟨fun i ε => ∃ ss f k, (i ≤ ms.length → Spanning ms i ss f) ∧ (i = ms.length + 1 → ss.length = ms.length ∧ ∀ i a b, ss[i]? = some (a, b) → IsSpan ms i a b) ∧ ε = e ss f k, ⟨[], 0, none, fun _ => ⟨fun i a b e => by simp at e, rfl, Nat.le_refl _, fun i m a b => by omega, .inl rfl⟩, fun z => by omega, rfl⟩, fun i d ε hi hd ⟨ss, f, k, hS, _, q⟩ => ?_, fun ε ⟨ss, f, k, _, hS, q⟩ => ?_⟩
      · subst q
        obtain ⟨hi, rfl⟩ := rangeD_get hd
        rw [hrl] at hi
        rw [z_add]
        have hS := hS (by omega)
        have hlen := hS.len
        have hle := hS.le
        show ysIf _ _ _ _ (e ss f (some (.v (.int (i : Int)))))
        have body : (i = ms.length ∨ ∃ m, ms[i]? = some m ∧ isBr m = true) → (ysSeq (ysAsg (yBin oAdd (yVar 1) (yNew (ynLc (yiRg2 (ylCons (yVar 2) (ylCons (yVar 3) ylNil))) (gN 4) yYes (yTup (ylCons (yVar 2) (ylCons (yVar 3) ylNil))) [4]))) 1)
  (ysSeq (ysAsg (yBin oAdd (yVar 1) (yBin oMulA (yNew (ynLst (ylCons (yTup (ylCons (yVar 3) (ylCons (yVar 3) ylNil))) ylNil))) (yCB oInt (ylCons (yBin oLt (yVar 3) (yCB oLen (ylCons (yVar 0) ylNil))) ylNil)))) 1)
  (ysAsg (yBin oAdd (yVar 3) (yC (.int 1))) 2))) { nx := fun ε => ∃ ss f k, (i + 1 ≤ ms.length → Spanning ms (i + 1) ss f) ∧ (i + 1 = ms.length + 1 → ss.length = ms.length ∧ ∀ i a b, ss[i]? = some (a, b) → IsSpan ms i a b) ∧ ε = e ss f k, rt := fun d _ => Q' d } (e ss f (some (.v (.int (i : Int))))) := by
          intro hb
          obtain ⟨hA, hB⟩ := hS.fill (by omega) hb
          refine seq_step (e (ss ++ List.replicate (i - f) (f, i)) f (some (.v (.int (i : Int))))) (fun K kk => ?_) ?_
          · refine gd_of ⟨small_any (by omega) (by omega), small_any (by omega) (by omega)⟩ ?_
            refine ⟨⟨trivial, trivial⟩, by rw [rangeD_len]; omega, lc_map (Q := fun acc ε => oAdd (.lst (ss.map spD)) (.lst acc) fun d => K (ε.set 1 (some (.v d)))) (fun _ => spD (f, i)) (fun j d hd K N hk => ?_) ?_⟩
            · exact ⟨rfl, hk⟩
            · rw [const_map, rangeD_len]
              rw [show ((i : Int) - (f : Int)).toNat = i - f by omega]
              refine gd_of (by rw [List.length_map, List.length_replicate]; omega) ?_
              rw [← rep_map, ← List.map_append]
              exact kk
          · generalize hss : ss ++ List.replicate (i - f) (f, i) = s2 at hA hB
            have mul : ∀ (b : Bool) (K : PEnv → Prop), decide ((i : Int) < (((ms.map Mk.d).length : Nat) : Int)) = b → K (e (s2 ++ (match b with
                | true => [(i, i)]
                | false => [])) f (some (.v (.int (i : Int))))) → (ysAsg (yBin oAdd (yVar 1) (yBin oMulA (yNew (ynLst (ylCons (yTup (ylCons (yVar 3) (ylCons (yVar 3) ylNil))) ylNil))) (yCB oInt (ylCons (yBin oLt (yVar 3) (yCB oLen (ylCons (yVar 0) ylNil))) ylNil)))) 1) { nx := K, rt := fun d _ => Q' d } (e s2 f (some (.v (.int (i : Int))))) := by
              intro b K hb kk
              show oMulA (.lst [spD (i, i)]) (.int (if decide ((i : Int) < (((ms.map Mk.d).length : Nat) : Int)) = true then 1 else 0)) fun d => oAdd (.lst (s2.map spD)) d fun d2 => K ((e s2 f (some (.v (.int (i : Int))))).set 1 (some (.v d2)))
              rw [hb]
              cases b with
              | true =>
                refine gd_of (show (s2.map spD).length + 1 ≤ 16777216 by rw [List.length_map]; omega) ?_
                have e1 : s2.map spD ++ [spD (i, i)] = (s2 ++ [(i, i)]).map spD := by rw [List.map_append]; rfl
                show K ([some (.v (.lst (ms.map Mk.d))), some (.v (.lst (s2.map spD ++ [spD (i, i)]))), some (.v (.int (f : Int))), some (.v (.int (i : Int))), none] : PEnv)
                rw [e1]
                exact kk
              | false =>
                refine gd_of (show (s2.map spD).length + 0 ≤ 16777216 by rw [List.length_map]; omega) ?_
                show K ([some (.v (.lst (ms.map Mk.d))), some (.v (.lst (s2.map spD ++ []))), some (.v (.int (f : Int))), some (.v (.int (i : Int))), none] : PEnv)
                rw [List.append_nil]
                rw [List.append_nil] at kk
                exact kk
            by_cases lt : i < ms.length
            · have hb2 : decide ((i : Int) < (((ms.map Mk.d).length : Nat) : Int)) = true := decide_eq_true (by rw [List.length_map]; omega)
              refine seq_step (e (s2 ++ [(i, i)]) f (some (.v (.int (i : Int))))) (fun K kk => mul true K hb2 kk) ?_
              have hbr : ∃ m, ms[i]? = some m ∧ isBr m = true := hb.elim (fun z => by omega) id
              obtain ⟨m, em, hm⟩ := hbr
              have hall : ∀ j a b, (s2 ++ [(i, i)])[j]? = some (a, b) → IsSpan ms j a b := fun j a b z => by
                by_cases hj : j < s2.length
                · rw [List.getElem?_append_left hj] at z
                  exact hA j a b z
                · rw [List.getElem?_append_right (by omega)] at z
                  have hj2 : j = i := by
                    have := (List.getElem?_eq_some_iff.mp z).1
                    rw [List.length_singleton] at this
                    omega
                  subst hj2
                  rw [hB, Nat.sub_self] at z
                  cases z
                  refine ⟨fun r _ => ⟨rfl, rfl⟩, fun z => ?_⟩
                  cases m with
                  | br r => exact (z r em).elim
                  | _ => cases hm
              have hlen2 : (s2 ++ [(i, i)]).length = i + 1 := by rw [List.length_append, hB]; rfl
              exact ⟨s2 ++ [(i, i)], i + 1, _, fun _ => ⟨hall, hlen2, Nat.le_refl _, fun j m a b => by omega, .inr ⟨i, m, rfl, em, hm⟩⟩, fun z => ⟨by omega, hall⟩, rfl⟩
            · have hb2 : decide ((i : Int) < (((ms.map Mk.d).length : Nat) : Int)) = false := decide_eq_false (by rw [List.length_map]; omega)
              refine seq_step (e (s2 ++ []) f (some (.v (.int (i : Int))))) (fun K kk => mul false K hb2 kk) ?_
              rw [List.append_nil]
              exact ⟨s2, i + 1, _, fun z => by omega, fun z => ⟨by omega, hA⟩, rfl⟩
        by_cases lt : i < ms.length
        · have hd1 : decide ((i : Int) = (((ms.map Mk.d).length : Nat) : Int)) = false := decide_eq_false (by rw [List.length_map]; omega)
          show (match decide ((i : Int) = (((ms.map Mk.d).length : Nat) : Int)) with
            | true => _
            | false => _)
          rw [hd1]
          obtain ⟨m, em⟩ : ∃ m, ms[i]? = some m := ⟨_, List.getElem?_eq_getElem lt⟩
          refine word_at (a := 0) (j := 3) (by exact rfl) (by exact rfl) em (word_br m) ?_
          cases hm : isBr m with
          | true => exact body (.inr ⟨m, em, hm⟩)
          | false =>
            refine ⟨ss, f, _, fun _ => ⟨hS.sp, hS.len, by omega, fun j x a b ex => ?_, hS.lo⟩, fun z => by omega, rfl⟩
            by_cases hj : j = i
            · subst hj
              rw [em] at ex
              cases ex
              exact hm
            · exact hS.no j x a (by omega) ex
        · have hd1 : decide ((i : Int) = (((ms.map Mk.d).length : Nat) : Int)) = true := decide_eq_true (by rw [List.length_map]; omega)
          show (match decide ((i : Int) = (((ms.map Mk.d).length : Nat) : Int)) with
            | true => _
            | false => _)
          rw [hd1]
          exact body (.inl (by omega))
      · rw [rangeD_len, hrl] at hS
        exact kk ε ⟨ss, f, k, (hS rfl).1, (hS rfl).2, q⟩
    · rintro _ ⟨ss, f, k, h1, h2, rfl⟩
      exact h ss h1 h2
  · exact h.elim

end PL.K48

set_option Elab.async false
set_option linter.all false
set_option autoImplicit false
set_option maxRecDepth 100000
set_option maxHeartbeats 1000000
namespace PL.K48
open PySem PySem.Spec PyProof.Rows L2
local macro_rules | `(tactic| walk_at "y") => `(tactic| conv => whnf)
/-! ### _law_places -/
theorem cut_seg {ms : List Mk} {f t : Nat} (h1 : f ≤ t) (h2 : t ≤ ms.length) : cutD (ms.map Mk.d) (some (f : Int)) (some (t : Int)) = (segM ms f t).map Mk.d := by
  unfold cutD segM
  rw [HT.sIx_nat, HT.sIx_nat, List.length_map, Nat.min_eq_left (by omega), Nat.min_eq_left (by omega), List.map_take, List.map_drop]
def ocD : List D := [.str "open", .str "close"]
theorem in_oc (m : Mk) : inF (.str (wordM m)) ocD = isOC m := by
  cases m with
  | op _ _ => show inF (.str "open") ocD = true; decide +kernel
  | cl _ _ => show inF (.str "close") ocD = true; decide +kernel
  | br _ => show inF (.str "break") ocD = false; decide +kernel
  | mv _ => show inF (.str "move") ocD = false; decide +kernel
theorem word_cl (m : Mk) : decide (wordM m = "close") = isCl m := by
  cases m with
  | op _ _ => exact w_open_close
  | cl _ _ => exact w_close_close
  | br _ => exact w_break_close
  | mv _ => exact w_move_close
theorem word_op (m : Mk) : decide (wordM m = "open") = isOp m := by
  cases m with
  | op _ _ => exact w_open_open
  | cl _ _ => exact w_close_open
  | br _ => exact w_break_open
  | mv _ => exact w_move_open
theorem word_mv (m : Mk) : decide (wordM m = "move") = isMv m := by
  cases m with
  | op _ _ => exact w_open_move
  | cl _ _ => exact w_close_move
  | br _ => exact w_break_move
  | mv _ => exact w_move_move
/-- [f(x) for x in marks if p(x)], told of marks -/
theorem lc_marks {g : PTG} {rt : PTT} {re : PTE} {vs : List Nat} {ε1 : PEnv} {Q : List D → PEnv → Prop} {S : List Mk} (f : Mk → D) (p : Mk → Bool)
    (st : ∀ m ∈ S, ∀ (K : D → Prop) (N : Prop), (p m = true → K (f m)) → (p m = false → N) → g m.d (wipeE ε1 vs) fun ε2 => rt ε2 fun k ε3 => match k with
      | true => re ε3 fun t ε4 => out ε4 t fun y ε5 => wipeE ε5 vs = wipeE ε1 vs ∧ K y
      | false => wipeE ε3 vs = wipeE ε1 vs ∧ N) (fin : Q ((S.filter p).map f) ε1) : ∃ Wp : Nat → List D → Prop, Wp 0 [] ∧
  (∀ i d acc, i < (S.map Mk.d).length → (S.map Mk.d)[i]? = some d → acc.length ≤ i → Wp i acc → g d (wipeE ε1 vs) fun ε2 => rt ε2 fun k ε3 => match k with
    | true => re ε3 fun t ε4 => out ε4 t fun y ε5 => wipeE ε5 vs = wipeE ε1 vs ∧ Wp (i + 1) (acc ++ [y])
    | false => wipeE ε3 vs = wipeE ε1 vs ∧ Wp (i + 1) acc) ∧ ∀ acc, acc.length ≤ (S.map Mk.d).length → Wp (S.map Mk.d).length acc → Q acc ε1 := by
  refine ⟨fun i acc => acc = ((S.take i).filter p).map f, rfl, fun i d acc hi hd hl w => ?_, fun acc hl w => ?_⟩
  · rw [List.length_map] at hi
    rw [List.getElem?_map] at hd
    have hg := List.getElem?_eq_getElem hi
    rw [hg] at hd
    obtain rfl : Mk.d S[i] = d := Option.some.inj hd
    have ht : S.take (i + 1) = S.take i ++ [S[i]] := by rw [List.take_succ_eq_append_getElem hi]
    refine st S[i] (List.getElem_mem hi) (fun y => acc ++ [y] = ((S.take (i + 1)).filter p).map f) (acc = ((S.take (i + 1)).filter p).map f) (fun h => ?_) fun h => ?_
    · subst w
      rw [ht, List.filter_append, List.map_append]
      simp [h]
    · subst w
      rw [ht, List.filter_append, List.map_append]
      simp [h]
  · subst w
    rw [List.length_map, List.take_length]
    exact fin
def thirdM : Mk → D
  | .op _ v => .int v
  | .cl _ v => .int v
  | _ => .non
theorem third_vs : ∀ S : List Mk, (S.filter isOC).map thirdM = (vsOf S).map D.int
  | [] => rfl
  | m :: S => by
    have := third_vs S
    cases m with
    | op n v => show D.int v :: (S.filter isOC).map thirdM = D.int v :: (vsOf S).map D.int; rw [this]
    | cl n v => show D.int v :: (S.filter isOC).map thirdM = D.int v :: (vsOf S).map D.int; rw [this]
    | br r => exact this
    | mv r => exact this
def fIx (i : Nat) : D := .int (i : Int)
def clB (ms : List Mk) (f : Nat) : Mk → Bool
  | .cl n _ => match opIx ms n with
    | some i => decide (i < f)
    | none => false
  | _ => false
theorem any_cl (ms : List Mk) (f : Nat) : ∀ S : List Mk, (S.filter isCl).map (fun m => D.bl (clB ms f m)) = ((S.filter isCl).map (clB ms f)).map D.bl := fun S => by rw [List.map_map]; rfl
theorem seg_get {ms : List Mk} {f t i : Nat} {m : Mk} (h1 : f ≤ i) (h2 : i < t) (h : ms[i]? = some m) : m ∈ segM ms f t := by
  unfold segM
  refine List.mem_iff_getElem?.mpr ⟨i - f, ?_⟩
  rw [List.getElem?_take, if_pos (by omega), List.getElem?_drop, show f + (i - f) = i by omega]
  exact h
/-- some closing of the span, opened ahead of it -/
theorem any_late {ms : List Mk} {f t k : Nat} (hn : nestB ms = true) (s : Stretch ms f t) (h1 : f ≤ k) (h2 : k < t) : (((segM ms k t).filter isCl).map (clB ms f)).any id = true ↔ Late ms k := by
  rw [List.any_map, List.any_eq_true]
  constructor
  · rintro ⟨m, hm, hb⟩
    replace hb : clB ms f m = true := hb
    obtain ⟨hm1, hm2⟩ := List.mem_filter.mp hm
    obtain ⟨j, j1, j2, hj⟩ := seg_mem hm1
    cases m with
    | cl n u =>
      obtain ⟨i, v, lt, hi⟩ := N2 hn hj
      have hx := opIx_of hn hi
      replace hb : (match opIx ms n with
        | some i => decide (i < f)
        | none => false) = true := hb
      rw [hx] at hb
      have hb := of_decide_eq_true hb
      refine ⟨j, (List.getElem?_eq_some_iff.mp hj).1, j1, (s.mem h1 h2 hj j1).mpr j2, ?_⟩
      rw [cross_cl hj hx]
      exact decide_eq_true ((s.ahead (by omega) j2 hi lt).mpr hb)
    | _ => cases hm2
  · rintro ⟨j, jl, j1, jr, jc⟩
    unfold cross at jc
    split at jc
    · rename_i n u hj
      obtain ⟨i, v, lt, hi⟩ := N2 hn hj
      have hx := opIx_of hn hi
      rw [hx] at jc
      have jc := of_decide_eq_true jc
      have j2 := (s.mem h1 h2 hj j1).mp jr
      refine ⟨_, List.mem_filter.mpr ⟨seg_get j1 j2 hj, rfl⟩, ?_⟩
      show (match opIx ms n with
        | some i => decide (i < f)
        | none => false) = true
      rw [hx]
      exact decide_eq_true ((s.ahead (by omega) j2 hi lt).mp jc)
    · cases jc
theorem place_any {ms : List Mk} {f t k : Nat} (hn : nestB ms = true) (s : Stretch ms f t) (h1 : f ≤ k) (h2 : k < t) : beg ms k + gp ms (runN ms f) * (if (!(((segM ms k t).filter isCl).map (clB ms f)).any id) = true then 1 else 0) = placeAt ms k := by
  unfold placeAt
  rw [s.run h1 (by omega)]
  cases e : (((segM ms k t).filter isCl).map (clB ms f)).any id with
  | true =>
    rw [if_pos ((any_late hn s h1 h2).mp e)]
    simp
  | false =>
    have hl : ¬ Late ms k := fun z => by rw [(any_late hn s h1 h2).mpr z] at e; cases e
    rw [if_neg hl]
    simp
def φ_law_places : Spec
  | [.lst ds], Q, _ => ∃ ms, ds = ms.map Mk.d ∧ MarksOk ms ∧ Q (runsD ms)
  | _, _, _ => False
noncomputable def eP (ms : List Mk) (ss : List (Nat × Nat)) (op : List (Key × D)) (k : Nat) (a : Int) (kk f l g c : Option S) : PEnv := [some (.v (.lst (ms.map Mk.d))), some (.v (.lst (ss.map spD))), some (.od op), some (.o ((placesTo ms k).map D.int)), some (.v (.int a)), kk, f, l, g, c, none]
theorem spD_at {ss : List (Nat × Nat)} {k f t : Nat} (h : ss[k]? = some (f, t)) : atI (ss.map spD) (k : Int) = some (.tup [.int (f : Int), .int (t : Int)]) := atI_nat (by rw [List.getElem?_map, h]; rfl)
theorem seg_len (ms : List Mk) (f t : Nat) : (segM ms f t).length ≤ ms.length := by
  unfold segM
  rw [List.length_take, List.length_drop]
  omega
theorem vs_len (ms : List Mk) : (vsOf ms).length ≤ ms.length := by
  unfold vsOf
  exact List.length_filterMap_le _ _
theorem gn_of {i : Nat} {d : D} {ε : PEnv} {Q : PEnv → Prop} (h : Q (ε.set i (some (.v d)))) : gN i d ε Q := h
theorem word_in {i : Nat} {ε : PEnv} {m : Mk} {K : Bool → PEnv → Prop} (hs : ε[i]? = some (some (.v m.d))) (k : K (isOC m) ε) : yBinT (oIn false) (yIx (yVar i) (yC (.int 0))) (yNew (ynLst (ylCons (yC (.str ("open" : Str))) (ylCons (yC (.str ("close" : Str))) ylNil)))) ε K := by
  rw [← in_oc] at k
  rw [mk_d] at hs
  unfold yBinT yIx yBin yVar
  simp only [hs]
  refine opt_of (atI_nat (j := 0) rfl) ?_
  refine gd_of (show flatD (.str (wordM m)) = true ∧ flatAll [.str ("open" : Str), .str ("close" : Str)] = true from ⟨rfl, rfl⟩) ?_
  exact k
/-- gap_v -/
theorem gap_step {ms : List Mk} {ss : List (Nat × Nat)} {op : List (Key × D)} {i f t : Nat} {ah : Int} {k g c : Option S} {Δ : PEnds} {Ξ : Xi} (h1 : f ≤ t) (h2 : t ≤ ms.length) (hl : ms.length ≤ 1000000) (hk : Δ.nx (eP ms ss op i ah k (some (.v (.int (f : Int)))) (some (.v (.int (t : Int)))) (some (.v (.int (gapI (vsOf (segM ms f t)))))) c)) : (ysAsg (yCall φ_law_gap Ξ (ylCons (yNew (ynLc (yiSeq (yNew (ynSl (yVar 0) (yoSome (yVar 6)) (yoSome (yVar 7))))) (gN 10) (yBinT (oIn false) (yIx (yVar 10) (yC (.int 0))) (yNew (ynLst (ylCons (yC (.str ("open" : Str))) (ylCons (yC (.str ("close" : Str))) ylNil))))) (yIx (yVar 10) (yC (.int 2))) [10])) ylNil)) 8) Δ (eP ms ss op i ah k (some (.v (.int (f : Int)))) (some (.v (.int (t : Int)))) g c) := by
  refine ⟨⟨trivial, trivial⟩, ?_, ?_⟩
  · rw [cut_seg h1 h2, List.length_map]
    have := seg_len ms f t
    omega
  · rw [cut_seg h1 h2]
    refine lc_marks (Q := fun acc ε' => yCall φ_law_gap Ξ (fun ε Q => Q [.d (.lst acc)] ε) ε' fun t ε' => out ε' t fun d ε2 => Δ.nx (ε2.set 8 (some (.v d)))) thirdM isOC (fun m hm K N h3 h4 => ?_) ?_
    · refine gn_of ?_
      refine word_in (i := 10) (m := m) (by exact rfl) ?_
      cases m with
      | op n v => exact ⟨rfl, h3 rfl⟩
      | cl n v => exact ⟨rfl, h3 rfl⟩
      | br r => exact ⟨rfl, h4 rfl⟩
      | mv r => exact ⟨rfl, h4 rfl⟩
    · rw [third_vs]
      refine ⟨_, rfl, ?_, hk⟩
      have := vs_len (segM ms f t)
      have := seg_len ms f t
      omega
/-- closes -/
theorem closes_step {ms : List Mk} {ss : List (Nat × Nat)} {op : List (Key × D)} {i k f t : Nat} {ah : Int} {g c : Option S} {Δ : PEnds} (hn : nestB ms = true) (ho : opD fIx ms (k + 1) op) (h0 : f ≤ k) (h1 : k ≤ t) (h2 : t ≤ ms.length) (hl : ms.length ≤ 1000000) (hk : Δ.nx (eP ms ss op i ah (some (.v (.int (k : Int)))) (some (.v (.int (f : Int)))) (some (.v (.int (t : Int)))) g (some (.v (.lst ((((segM ms k t).filter isCl).map (clB ms f)).map D.bl)))))) : (ysAsg (yNew (ynLc (yiSeq (yNew (ynSl (yVar 0) (yoSome (yVar 5)) (yoSome (yVar 7))))) (gN 10) (yBinT (oEq false) (yIx (yVar 10) (yC (.int 0))) (yC (.str ("close" : Str)))) (yBin oLt (yGet2 (yVar 2) (yIx (yVar 10) (yC (.int 1))) (yVar 5)) (yVar 6)) [10])) 9) Δ (eP ms ss op i ah (some (.v (.int (k : Int)))) (some (.v (.int (f : Int)))) (some (.v (.int (t : Int)))) g c) := by
  refine ⟨⟨trivial, trivial⟩, ?_, ?_⟩
  · rw [cut_seg h1 h2, List.length_map]
    have := seg_len ms k t
    omega
  · rw [cut_seg h1 h2]
    refine lc_marks (Q := fun acc ε' => Δ.nx (ε'.set 9 (some (.v (.lst acc))))) (fun m => D.bl (clB ms f m)) isCl (fun m hm K N h3 h4 => ?_) ?_
    · refine gn_of ?_
      obtain ⟨j, j1, j2, hj⟩ := seg_mem hm
      cases m with
      | cl n v =>
        refine word_is (i := 10) (by exact rfl) w_close_close ?_
        obtain ⟨x, u, lt, hx⟩ := N2 hn hj
        have hix := opIx_of hn hx
        have h3 : K (.bl (decide (x < f))) := by
          have h3 : K (.bl (match opIx ms n with
            | some i => decide (i < f)
            | none => false)) := h3 rfl
          rw [hix] at h3
          exact h3
        have hv := ho n
        rw [hix] at hv
        replace hv : dVal op (.inl n) = if x < k + 1 then some (fIx x) else none := hv
        have step : ∀ y : D, (match dVal op (.inl n) with
            | some d => d
            | none => .int (k : Int)) = y → oLt y (.int (f : Int)) K → (yBin oLt (yGet2 (yVar 2) (yIx (yVar 10) (yC (.int 1))) (yVar 5)) (yVar 6)) (wipeE (eP ms ss op i ah (some (.v (.int (k : Int)))) (some (.v (.int (f : Int)))) (some (.v (.int (t : Int)))) g c) [10] |>.set 10 (some (.v (Mk.d (.cl n v))))) fun t2 ε4 => out ε4 t2 fun y ε5 => wipeE ε5 [10] = wipeE (eP ms ss op i ah (some (.v (.int (k : Int)))) (some (.v (.int (f : Int)))) (some (.v (.int (t : Int)))) g c) [10] ∧ K y := by
          intro y hy q
          show oLt (match dVal op (.inl n) with
            | some d => d
            | none => .int (k : Int)) (.int (f : Int)) fun y => _ ∧ K y
          rw [hy]
          cases y with
          | int y => exact ⟨rfl, q⟩
          | _ => exact False.elim q
        by_cases hlt : x < k + 1
        · rw [if_pos hlt] at hv
          refine step (.int (x : Int)) (by rw [hv]; rfl) ?_
          rw [show decide (x < f) = decide ((x : Int) < (f : Int)) by simp] at h3
          exact h3
        · rw [if_neg hlt] at hv
          refine step (.int (k : Int)) (by rw [hv]) ?_
          rw [decide_eq_false (show ¬ x < f by omega), ← decide_eq_false (show ¬ (k : Int) < (f : Int) by omega)] at h3
          exact h3
      | op n v => exact word_is (i := 10) (by exact rfl) w_open_close ⟨rfl, h4 rfl⟩
      | br r => exact word_is (i := 10) (by exact rfl) w_break_close ⟨rfl, h4 rfl⟩
      | mv r => exact word_is (i := 10) (by exact rfl) w_move_close ⟨rfl, h4 rfl⟩
    · rw [any_cl]
      exact hk
abbrev N_law_places : List Str := ["marks", "spans", "opened", "places", "ahead", "k", "first", "last", "gap_v", "closes", "mark"]
def r_law_places (Ξ : Xi) : PTS :=
  (ysSeq (ysParP [1, 2, 3, 4] (ypE (yCall φ_law_spans Ξ (ylCons (yVar 0) ylNil)) (ypD (ypN (ynLst ylNil) (ypE (yC (.int 0)) ypNil)))))
  (ysSeq (ysFor (yiRg1 (ylCons (yCB oLen (ylCons (yVar 0) ylNil)) ylNil)) (gN 5)
  (ysSeq (ysAsgG (yIx (yVar 1) (yVar 5)) (gTupY 2 [(gN 6), (gN 7)]))
  (ysSeq (ysAsg (yCall φ_law_gap Ξ (ylCons (yNew (ynLc (yiSeq (yNew (ynSl (yVar 0) (yoSome (yVar 6)) (yoSome (yVar 7))))) (gN 10) (yBinT (oIn false) (yIx (yVar 10) (yC (.int 0))) (yNew (ynLst (ylCons (yC (.str ("open" : Str))) (ylCons (yC (.str ("close" : Str))) ylNil))))) (yIx (yVar 10) (yC (.int 2))) [10])) ylNil)) 8)
  (ysSeq (ysIf (yBinT (oEq false) (yIx (yIx (yVar 0) (yVar 5)) (yC (.int 0))) (yC (.str ("open" : Str))))
  (ysPutD 2 (yIx (yIx (yVar 0) (yVar 5)) (yC (.int 1))) (yVar 5))
  ysNext)
  (ysSeq (ysIf (yBinT (oEq false) (yIx (yIx (yVar 0) (yVar 5)) (yC (.int 0))) (yC (.str ("break" : Str))))
  (ysAsg (yBin oAdd (yVar 4) (yIx (yIx (yVar 0) (yVar 5)) (yC (.int 1)))) 4)
  (ysIf (yBinT (oEq false) (yIx (yIx (yVar 0) (yVar 5)) (yC (.int 0))) (yC (.str ("move" : Str))))
  (ysAsg (yBin oAdd (yVar 4) (yIx (yIx (yVar 0) (yVar 5)) (yC (.int 1)))) 4)
  (ysSeq (ysAsg (yNew (ynLc (yiSeq (yNew (ynSl (yVar 0) (yoSome (yVar 5)) (yoSome (yVar 7))))) (gN 10) (yBinT (oEq false) (yIx (yVar 10) (yC (.int 0))) (yC (.str ("close" : Str)))) (yBin oLt (yGet2 (yVar 2) (yIx (yVar 10) (yC (.int 1))) (yVar 5)) (yVar 6)) [10])) 9)
  (ysApp 3 (yBin oAdd (yVar 4) (yBin oMulA (yVar 8) (yCB oInt (ylCons (yNotB (yCB oAny (ylCons (yVar 9) ylNil))) ylNil))))))))
  (ysIf (yBinT (oEq false) (yVar 5) (yBin oSub (yVar 7) (yC (.int 1))))
  (ysAsg (yBin oAdd (yVar 4) (yVar 8)) 4)
  ysNext))))))
  (ysRet (yTup (ylCons (yVar 3) (ylCons (yVar 4) ylNil))))))
theorem vc_law_places (ds : List D) (Q' : D → Prop) (E' : Nat → Prop) (h : φ_law_places ds Q' E') : r_law_places (fun c _ => E' c) { nx := fun _ => Q' .non, rt := fun d _ => Q' d } (startE N_law_places ds) := by
  unfold φ_law_places at h
  split at h
  · obtain ⟨ms, rfl, ok, h⟩ := h
    have hl := ok.len
    let s (d : D) : Option S := some (.v d)
    refine seq_post (fun ε => ∃ ss : List (Nat × Nat), ss.length = ms.length ∧ (∀ i f t, ss[i]? = some (f, t) → IsSpan ms i f t) ∧ ε = eP ms ss [] 0 0 none none none none none) (fun K kk => ?_) ?_
    · exact ⟨ms, rfl, by omega, fun ss h1 h2 => ⟨rfl, kk _ ⟨ss, h1, h2, rfl⟩⟩⟩
    rintro _ ⟨ss, hsl, hss, rfl⟩
    refine seq_post (fun ε => ∃ op k f t g c, ε = eP ms ss op ms.length (aheadAt ms ms.length) k f t g c) (fun K kk => ?_) ?_
    · refine gd_of (small_any (j := (((ms.map Mk.d).length : Nat) : Int)) (by omega) (by rw [List.length_map]; omega)) ?_
      refine ⟨fun i ε => ∃ op k f t g c, opD fIx ms i op ∧ op.length ≤ i ∧ ε = eP ms ss op i (aheadAt ms i) k f t g c, ⟨[], none, none, none, none, none, opD_zero _ _, Nat.le_refl _, by rw [ahead_zero]⟩, fun i d ε hi hd ⟨op, k, f, t, g, c, ho, l1, q⟩ => ?_, fun ε ⟨op, k, f, t, g, c, ho, l1, q⟩ => kk ε ⟨op, k, f, t, g, c, by rw [rangeD_len, Int.toNat_natCast, List.length_map] at q; exact q⟩⟩
      subst q
      obtain ⟨hi, rfl⟩ := rangeD_get hd
      rw [Int.toNat_natCast, List.length_map] at hi
      rw [z_add]
      show ysSeq _ _ _ (eP ms ss op i (aheadAt ms i) (s (.int (i : Int))) f t g c)
      obtain ⟨m, em⟩ : ∃ m, ms[i]? = some m := ⟨_, List.getElem?_eq_getElem hi⟩
      obtain ⟨⟨a, b⟩, eab⟩ : ∃ p, ss[i]? = some p := ⟨_, List.getElem?_eq_getElem (by omega)⟩
      have hsp := hss i a b eab
      refine seq_step (eP ms ss op i (aheadAt ms i) (s (.int (i : Int))) (s (.int (a : Int))) (s (.int (b : Int))) g c) (fun K kk => opt_of (spD_at eab) (gtup2 kk)) ?_
      have hab : a ≤ b ∧ b ≤ ms.length := by
        cases hm : isBr m with
        | true =>
          cases m with
          | br r =>
            have := hsp.br r em
            omega
          | _ => cases hm
        | false =>
          have := hsp.st (run_brk em hm)
          exact ⟨this.2.2.le, this.2.2.len⟩
      refine seq_step (eP ms ss op i (aheadAt ms i) (s (.int (i : Int))) (s (.int (a : Int))) (s (.int (b : Int))) (s (.int (gapI (vsOf (segM ms a b))))) c) (fun K kk => ?_) ?_
      · exact gap_step hab.1 hab.2 (by omega) kk
      refine seq_post (fun ε => ∃ op, opD fIx ms (i + 1) op ∧ op.length ≤ i + 1 ∧ ε = eP ms ss op i (aheadAt ms i) (s (.int (i : Int))) (s (.int (a : Int))) (s (.int (b : Int))) (s (.int (gapI (vsOf (segM ms a b))))) c) (fun K kk => ?_) ?_
      · refine word_at (a := 0) (j := 5) (by exact rfl) (by exact rfl) em (word_op m) ?_
        cases m with
        | op n v =>
          refine opt_of (mkD_at em) ?_
          refine gd_of (show op.length < 16777216 by omega) ?_
          refine kk _ ⟨dPut op (.inl n) (fIx i), opD_put ok.nest ho em, ?_, rfl⟩
          have := dPut_len op (.inl n) (fIx i)
          omega
        | cl n v => exact kk _ ⟨op, opD_skip ho (fun n' u' z => (by rw [em] at z; cases z)), by omega, rfl⟩
        | br r => exact kk _ ⟨op, opD_skip ho (fun n' u' z => (by rw [em] at z; cases z)), by omega, rfl⟩
        | mv r => exact kk _ ⟨op, opD_skip ho (fun n' u' z => (by rw [em] at z; cases z)), by omega, rfl⟩
      rintro _ ⟨op, ho, l1, rfl⟩
      refine seq_post (fun ε => ∃ c, ε = eP ms ss op (i + 1) (match isBr m with
        | true => aheadAt ms (i + 1)
        | false => beg ms (i + 1)) (s (.int (i : Int))) (s (.int (a : Int))) (s (.int (b : Int))) (s (.int (gapI (vsOf (segM ms a b))))) c) (fun K kk => ?_) ?_
      · have oc : isOC m = true → isBr m = false → (ysSeq (ysAsg (yNew (ynLc (yiSeq (yNew (ynSl (yVar 0) (yoSome (yVar 5)) (yoSome (yVar 7))))) (gN 10) (yBinT (oEq false) (yIx (yVar 10) (yC (.int 0))) (yC (.str ("close" : Str)))) (yBin oLt (yGet2 (yVar 2) (yIx (yVar 10) (yC (.int 1))) (yVar 5)) (yVar 6)) [10])) 9)
  (ysApp 3 (yBin oAdd (yVar 4) (yBin oMulA (yVar 8) (yCB oInt (ylCons (yNotB (yCB oAny (ylCons (yVar 9) ylNil))) ylNil)))))) { nx := K, rt := fun d _ => Q' d } (eP ms ss op i (aheadAt ms i) (s (.int (i : Int))) (s (.int (a : Int))) (s (.int (b : Int))) (s (.int (gapI (vsOf (segM ms a b))))) c) := by
          intro hoc hbr
          obtain ⟨sa, sb, st⟩ := hsp.st (run_brk em hbr)
          refine seq_step (eP ms ss op i (aheadAt ms i) (s (.int (i : Int))) (s (.int (a : Int))) (s (.int (b : Int))) (s (.int (gapI (vsOf (segM ms a b))))) (s (.lst ((((segM ms i b).filter isCl).map (clB ms a)).map D.bl)))) (fun K2 k2 => closes_step ok.nest ho sa (by omega) st.len (by omega) k2) ?_
          refine opt_of (toBls_map _) ?_
          have hpl := place_any ok.nest st sa sb
          rw [gp_seg st] at hpl
          revert hpl
          generalize (((segM ms i b).filter isCl).map (clB ms a)).any id = any
          intro hpl
          refine gd_of (.inr ⟨?_, ?_⟩) ?_
          · cases any <;> decide
          · cases any <;> decide
          have hpn := places_len ms i
          refine gd_of (show ((placesTo ms i).map D.int).length < 16777216 by rw [List.length_map]; omega) ?_
          refine kk _ ⟨s (.lst ((((segM ms i b).filter isCl).map (clB ms a)).map D.bl)), ?_⟩
          rw [hbr]
          unfold eP
          rw [← app_place em hoc, beg_oc em hoc, ← hpl, ← ahead_at em hbr]
          rfl
        refine word_at (a := 0) (j := 5) (by exact rfl) (by exact rfl) em (word_br m) ?_
        cases m with
        | br r =>
          refine opt_of (mkD_at em) ?_
          refine kk _ ⟨c, ?_⟩
          show eP ms ss op i (aheadAt ms i + r) _ _ _ _ c = eP ms ss op (i + 1) (aheadAt ms (i + 1)) _ _ _ _ c
          unfold eP
          rw [ahead_br em, places_no em rfl]
        | mv r =>
          refine word_at (a := 0) (j := 5) (by exact rfl) (by exact rfl) em (word_mv (.mv r)) ?_
          refine opt_of (mkD_at em) ?_
          refine kk _ ⟨c, ?_⟩
          show eP ms ss op i (aheadAt ms i + r) _ _ _ _ c = eP ms ss op (i + 1) (beg ms (i + 1)) _ _ _ _ c
          unfold eP
          rw [ahead_at em rfl, beg_mv em, places_no em rfl]
        | op n v =>
          refine word_at (a := 0) (j := 5) (by exact rfl) (by exact rfl) em (word_mv (.op n v)) ?_
          exact oc rfl rfl
        | cl n v =>
          refine word_at (a := 0) (j := 5) (by exact rfl) (by exact rfl) em (word_mv (.cl n v)) ?_
          exact oc rfl rfl
      · rintro _ ⟨c, rfl⟩
        show (match decide ((i : Int) = (b : Int) - 1) with
          | true => _
          | false => _)
        have fin : ∀ y, y = aheadAt ms (i + 1) → ∃ op' k' f' t' g' c', opD fIx ms (i + 1) op' ∧ op'.length ≤ i + 1 ∧ eP ms ss op (i + 1) y (s (.int (i : Int))) (s (.int (a : Int))) (s (.int (b : Int))) (s (.int (gapI (vsOf (segM ms a b))))) c = eP ms ss op' (i + 1) (aheadAt ms (i + 1)) k' f' t' g' c' := fun y hy => by
          subst hy
          exact ⟨op, _, _, _, _, _, ho, l1, rfl⟩
        cases hbr : isBr m with
        | true =>
          cases m with
          | br r =>
            obtain ⟨rfl, rfl⟩ := hsp.br r em
            rw [decide_eq_false (show ¬ ((b : Int) = (b : Int) - 1) by omega)]
            exact fin _ rfl
          | _ => cases hbr
        | false =>
          obtain ⟨sa, sb, st⟩ := hsp.st (run_brk em hbr)
          have hnx := ahead_next em hbr sa sb st
          by_cases hb : i + 1 = b
          · rw [if_pos hb, gp_seg st] at hnx
            rw [decide_eq_true (show ((i : Int) = (b : Int) - 1) by omega)]
            exact fin _ hnx.symm
          · rw [if_neg hb, Int.add_zero] at hnx
            rw [decide_eq_false (show ¬ ((i : Int) = (b : Int) - 1) by omega)]
            exact fin _ hnx.symm
    · rintro _ ⟨op, k, f, t, g, c, rfl⟩
      unfold eP
      rw [total_ahead]
      exact h
  · exact h.elim

end PL.K48

set_option Elab.async false
set_option linter.all false
set_option autoImplicit false
set_option maxRecDepth 100000
set_option maxHeartbeats 1000000
namespace PL.K48
open PySem PySem.Spec PyProof.Rows L2
local macro_rules | `(tactic| walk_at "y") => `(tactic| conv => whnf)
/-! ### _law_are_level -/
noncomputable def fLev (ms : List Mk) (i : Nat) : D := .tup [.int (i : Int), .int (placeAt ms i)]
noncomputable def eL (ms : List Mk) (ss : List (Nat × Nat)) (op : List (Key × D)) (k : Nat) (kk w n : Option S) : PEnv := [some (.v (.lst (ms.map Mk.d))), some (.v (.lst ((placesTo ms ms.length).map D.int))), some (.od op), some (.v (.lst (ss.map spD))), some (.v (.int (((placesTo ms k).length : Nat) : Int))), kk, w, n, none]
def φ_law_are_level : Spec
  | [.lst ds, .lst ps], Q, _ => ∃ ms, ds = ms.map Mk.d ∧ ps = (placesTo ms ms.length).map D.int ∧ MarksOk ms ∧ Q (.bl true)
  | _, _, _ => False
theorem word_in2 {a j : Nat} {ε : PEnv} {ms : List Mk} {k : Nat} {m : Mk} {K : Bool → PEnv → Prop} (h0 : ε[a]? = some (some (.v (.lst (ms.map Mk.d))))) (hj : ε[j]? = some (some (.v (.int (k : Int))))) (hm : ms[k]? = some m) (q : K (isOC m) ε) : yBinT (oIn false) (yIx (yIx (yVar a) (yVar j)) (yC (.int 0))) (yNew (ynLst (ylCons (yC (.str ("open" : Str))) (ylCons (yC (.str ("close" : Str))) ylNil)))) ε K := by
  rw [← in_oc] at q
  unfold yBinT yIx yBin yVar
  simp only [h0, hj]
  show opt (atI (ms.map Mk.d) (k : Int)) _
  refine opt_of (mkD_at hm) ?_
  rw [mk_d]
  refine opt_of (atI_nat (j := 0) rfl) ?_
  refine gd_of (show flatD (.str (wordM m)) = true ∧ flatAll [.str ("open" : Str), .str ("close" : Str)] = true from ⟨rfl, rfl⟩) ?_
  exact q
theorem placeD_at {ms : List Mk} {k : Nat} {m : Mk} (h : ms[k]? = some m) (hm : isOC m = true) : atI ((placesTo ms ms.length).map D.int) (((placesTo ms k).length : Nat) : Int) = some (.int (placeAt ms k)) := atI_nat (by rw [List.getElem?_map, places_at h hm]; rfl)
theorem at_next {ms : List Mk} {k : Nat} {m : Mk} (h : ms[k]? = some m) (hm : isOC m = true) : (((placesTo ms (k + 1)).length : Nat) : Int) = (((placesTo ms k).length : Nat) : Int) + 1 := by
  rw [places_oc h hm, List.length_append, List.length_singleton]
  omega
theorem shaped_sp (p : Nat × Nat) : SeqAt.shaped (D.py (spD p)) = true := rfl
theorem eqv_sp (p q : Nat × Nat) : PyData.eqv (D.py (spD p)) (D.py (spD q)) = (decide (((p.1 : Nat) : Int) = ((q.1 : Nat) : Int)) && decide (((p.2 : Nat) : Int) = ((q.2 : Nat) : Int))) := eqv_pair
theorem eq_sp {p q : Nat × Nat} {Q : D → Prop} (h : Q (.bl (decide (((p.1 : Nat) : Int) = ((q.1 : Nat) : Int)) && decide (((p.2 : Nat) : Int) = ((q.2 : Nat) : Int))))) : oEq false (spD p) (spD q) Q := by
  rw [← eqv_sp] at h
  exact h
theorem sp_eq {a b : Nat × Nat} {ra rb : PTE} {ε : PEnv} {K : Bool → PEnv → Prop} (h1 : ∀ Q : T → PEnv → Prop, Q (.d (spD a)) ε → ra ε Q) (h2 : ∀ Q : T → PEnv → Prop, Q (.d (spD b)) ε → rb ε Q) (k : K (decide (((a.1 : Nat) : Int) = ((b.1 : Nat) : Int)) && decide (((a.2 : Nat) : Int) = ((b.2 : Nat) : Int))) ε) : yBinT (oEq false) ra rb ε K := by
  have e : oEq false (spD a) (spD b) (asB fun b => K b ε) := eq_sp k
  exact h1 _ (h2 _ e)
theorem str_is {i : Nat} {ε : PEnv} {a b : Str} {c : Bool} {K : Bool → PEnv → Prop} (hs : ε[i]? = some (some (.v (.str a)))) (e : decide (a = b) = c) (k : K c ε) : yBinT (oEq false) (yVar i) (yC (.str b)) ε K := by
  subst e
  unfold yBinT yVar
  simp only [hs]
  exact k
theorem all_mv (S : List Mk) : (S.filter fun _ => true).map (fun m => D.bl (!isMv m)) = (S.map fun m => !isMv m).map D.bl := by
  rw [List.filter_eq_self.mpr (fun _ _ => rfl), List.map_map]
  rfl
abbrev lvTest (Ξ : Xi) : PTS := (ysIf (yAnd (yBinT (oEq false) (yIx (yVar 3) (yVar 5)) (yIx (yVar 3) (yIx (yGetD (yVar 2) (yVar 7)) (yC (.int 0))))) (yTru (yCB oAll (ylCons (yNew (ynLc (yiSeq (yNew (ynSl (yVar 0) (yoSome (yIx (yGetD (yVar 2) (yVar 7)) (yC (.int 0)))) (yoSome (yVar 5))))) (gN 8) yYes (yBin (oEq true) (yIx (yVar 8) (yC (.int 0))) (yC (.str ("move" : Str)))) [8])) ylNil))))
  (ysIf (yBinT (oEq true) (yIx (yGetD (yVar 2) (yVar 7)) (yC (.int 1))) (yIx (yVar 1) (yVar 4)))
  (ysRet (yC (.bl false)))
  ysNext)
  ysNext)
theorem lv_step {ms : List Mk} {ss : List (Nat × Nat)} {op : List (Key × D)} {k : Nat} {n u : Int} {w : Option S} {Δ : PEnds} {Ξ : Xi} (ok : MarksOk ms) (hsl : ss.length = ms.length) (hss : ∀ i f t, ss[i]? = some (f, t) → IsSpan ms i f t) (ho : opD (fLev ms) ms k op) (em : ms[k]? = some (.cl n u)) (hk : Δ.nx (eL ms ss op k (some (.v (.int (k : Int)))) w (some (.v (.int n))))) : lvTest Ξ Δ (eL ms ss op k (some (.v (.int (k : Int)))) w (some (.v (.int n)))) := by
  have hi := (List.getElem?_eq_some_iff.mp em).1
  have hl := ok.len
  obtain ⟨i, lt, hix, hv⟩ := opD_get ok.nest ho em
  obtain ⟨v, ei⟩ := opIx_some hix
  obtain ⟨⟨a, b⟩, eab⟩ : ∃ p, ss[k]? = some p := ⟨_, List.getElem?_eq_getElem (by omega)⟩
  obtain ⟨⟨a', b'⟩, eab'⟩ : ∃ p, ss[i]? = some p := ⟨_, List.getElem?_eq_getElem (by omega)⟩
  refine sp_eq (a := (a, b)) (b := (a', b')) (fun Q q => opt_of (spD_at eab) q) (fun Q q => opt_of hv (opt_of (spD_at eab') q)) ?_
  show (match (decide (((a : Nat) : Int) = ((a' : Nat) : Int)) && decide (((b : Nat) : Int) = ((b' : Nat) : Int))) with
    | true => _
    | false => _)
  cases hq : (decide (((a : Nat) : Int) = ((a' : Nat) : Int)) && decide (((b : Nat) : Int) = ((b' : Nat) : Int))) with
  | false => exact hk
  | true =>
    obtain ⟨q1, q2⟩ := Bool.and_eq_true_iff.mp hq
    have q1 := of_decide_eq_true q1
    have q2 := of_decide_eq_true q2
    obtain rfl : a = a' := by omega
    obtain rfl : b = b' := by omega
    refine opt_of hv ?_
    obtain ⟨sa, sb, st⟩ := (hss k a b eab).st fun r z => (by rw [em] at z; cases z)
    obtain ⟨sa2, sb2, _⟩ := (hss i a b eab').st fun r z => (by rw [ei] at z; cases z)
    have fin : ∀ c : Bool, (((segM ms i k).map fun m => !isMv m).all id = c) → (match c with
        | true => ysIf (yBinT (oEq true) (yIx (yGetD (yVar 2) (yVar 7)) (yC (.int 1))) (yIx (yVar 1) (yVar 4))) (ysRet (yC (.bl false))) ysNext Δ (eL ms ss op k (some (.v (.int (k : Int)))) w (some (.v (.int n))))
        | false => Δ.nx (eL ms ss op k (some (.v (.int (k : Int)))) w (some (.v (.int n))))) := by
      intro c hc
      cases c with
      | false => exact hk
      | true =>
        refine opt_of hv ?_
        refine opt_of (placeD_at em rfl) ?_
        have lv := level ok.nest ei em lt st sa2 sb fun j j1 j2 r ej => by
          have := List.all_eq_true.mp hc (!isMv (.mv r)) (List.mem_map.mpr ⟨_, seg_get j1 j2 ej, rfl⟩)
          cases this
        show (match !decide (placeAt ms i = placeAt ms k) with
          | true => _
          | false => _)
        rw [decide_eq_true lv]
        exact hk
    have fin := fin _ rfl
    refine ⟨⟨trivial, trivial⟩, ?_, ?_⟩
    · rw [cut_seg (by omega) (by omega), List.length_map]
      have := seg_len ms i k
      omega
    · rw [cut_seg (by omega) (by omega)]
      refine lc_marks (Q := fun acc ε' => oAll [.lst acc] fun d => truD d fun b => match b with
        | true => ysIf (yBinT (oEq true) (yIx (yGetD (yVar 2) (yVar 7)) (yC (.int 1))) (yIx (yVar 1) (yVar 4))) (ysRet (yC (.bl false))) ysNext Δ ε'
        | false => Δ.nx ε') (fun m => D.bl (!isMv m)) (fun _ => true) (fun m hm K N h3 h4 => ?_) ?_
      · refine gn_of ?_
        have h3 := h3 rfl
        rw [← word_mv] at h3
        have step : (yBin (oEq true) (yIx (yVar 8) (yC (.int 0))) (yC (.str ("move" : Str)))) (wipeE (eL ms ss op k (some (.v (.int (k : Int)))) w (some (.v (.int n)))) [8] |>.set 8 (some (.v m.d))) fun t2 ε4 => out ε4 t2 fun y ε5 => wipeE ε5 [8] = wipeE (eL ms ss op k (some (.v (.int (k : Int)))) w (some (.v (.int n)))) [8] ∧ K y := by
          rw [mk_d]
          refine opt_of (atI_nat (j := 0) rfl) ?_
          exact ⟨rfl, h3⟩
        exact step
      · rw [all_mv]
        refine opt_of (toBls_map _) ?_
        exact fin
abbrev N_law_are_level : List Str := ["marks", "places", "rows", "spans", "at", "k", "word", "name", "one"]
def r_law_are_level (Ξ : Xi) : PTS :=
  (ysSeq (ysParP [2, 3, 4] (ypD (ypE (yCall φ_law_spans Ξ (ylCons (yVar 0) ylNil)) (ypE (yC (.int 0)) ypNil))))
  (ysSeq (ysFor (yiRg1 (ylCons (yCB oLen (ylCons (yVar 0) ylNil)) ylNil)) (gN 5)
  (ysIf (yBinT (oIn false) (yIx (yIx (yVar 0) (yVar 5)) (yC (.int 0))) (yNew (ynLst (ylCons (yC (.str ("open" : Str))) (ylCons (yC (.str ("close" : Str))) ylNil)))))
  (ysSeq (ysPar 6 7 (yxE (yIx (yIx (yVar 0) (yVar 5)) (yC (.int 0)))) (yxE (yIx (yIx (yVar 0) (yVar 5)) (yC (.int 1)))))
  (ysSeq (ysIf (yBinT (oEq false) (yVar 6) (yC (.str ("open" : Str))))
  (ysPutD 2 (yVar 7) (yTup (ylCons (yVar 5) (ylCons (yIx (yVar 1) (yVar 4)) ylNil))))
  (ysIf (yAnd (yBinT (oEq false) (yIx (yVar 3) (yVar 5)) (yIx (yVar 3) (yIx (yGetD (yVar 2) (yVar 7)) (yC (.int 0))))) (yTru (yCB oAll (ylCons (yNew (ynLc (yiSeq (yNew (ynSl (yVar 0) (yoSome (yIx (yGetD (yVar 2) (yVar 7)) (yC (.int 0)))) (yoSome (yVar 5))))) (gN 8) yYes (yBin (oEq true) (yIx (yVar 8) (yC (.int 0))) (yC (.str ("move" : Str)))) [8])) ylNil))))
  (ysIf (yBinT (oEq true) (yIx (yGetD (yVar 2) (yVar 7)) (yC (.int 1))) (yIx (yVar 1) (yVar 4)))
  (ysRet (yC (.bl false)))
  ysNext)
  ysNext))
  (ysAsg (yBin oAdd (yVar 4) (yC (.int 1))) 4)))
  ysNext))
  (ysRet (yC (.bl true)))))
theorem vc_law_are_level (ds : List D) (Q' : D → Prop) (E' : Nat → Prop) (h : φ_law_are_level ds Q' E') : r_law_are_level (fun c _ => E' c) { nx := fun _ => Q' .non, rt := fun d _ => Q' d } (startE N_law_are_level ds) := by
  unfold φ_law_are_level at h
  split at h
  · obtain ⟨ms, rfl, rfl, ok, h⟩ := h
    have hl := ok.len
    let s (d : D) : Option S := some (.v d)
    refine seq_post (fun ε => ∃ ss : List (Nat × Nat), ss.length = ms.length ∧ (∀ i f t, ss[i]? = some (f, t) → IsSpan ms i f t) ∧ ε = eL ms ss [] 0 none none none) (fun K kk => ?_) ?_
    · exact ⟨ms, rfl, by omega, fun ss h1 h2 => ⟨rfl, kk _ ⟨ss, h1, h2, rfl⟩⟩⟩
    rintro _ ⟨ss, hsl, hss, rfl⟩
    refine seq_post (fun ε => True) (fun K kk => ?_) ?_
    · refine gd_of (small_any (j := (((ms.map Mk.d).length : Nat) : Int)) (by omega) (by rw [List.length_map]; omega)) ?_
      refine ⟨fun i ε => ∃ op k w n, opD (fLev ms) ms i op ∧ op.length ≤ i ∧ ε = eL ms ss op i k w n, ⟨[], none, none, none, opD_zero _ _, Nat.le_refl _, rfl⟩, fun i d ε hi hd ⟨op, k, w, n, ho, l1, q⟩ => ?_, fun ε _ => kk ε trivial⟩
      subst q
      obtain ⟨hi, rfl⟩ := rangeD_get hd
      rw [Int.toNat_natCast, List.length_map] at hi
      rw [z_add]
      show ysIf _ _ _ _ (eL ms ss op i (s (.int (i : Int))) w n)
      obtain ⟨m, em⟩ : ∃ m, ms[i]? = some m := ⟨_, List.getElem?_eq_getElem hi⟩
      refine word_in2 (a := 0) (j := 5) (by exact rfl) (by exact rfl) em ?_
      have skip : isOC m = false → (∀ n u, ms[i]? ≠ some (.op n u)) → ∃ op' k w' n', opD (fLev ms) ms (i + 1) op' ∧ op'.length ≤ i + 1 ∧ eL ms ss op i (s (.int (i : Int))) w n = eL ms ss op' (i + 1) k w' n' := fun hm hno => by
        refine ⟨op, s (.int (i : Int)), w, n, opD_skip ho hno, by omega, ?_⟩
        unfold eL
        rw [places_no em hm]
      cases m with
      | br r => exact skip rfl fun n' u' z => (by rw [em] at z; cases z)
      | mv r => exact skip rfl fun n' u' z => (by rw [em] at z; cases z)
      | op nm v =>
        refine seq_step (eL ms ss op i (s (.int (i : Int))) (s (.str "open")) (s (.int nm))) (fun K k => opt_of (mkD_at em) (opt_of (mkD_at em) k)) ?_
        refine seq_step (eL ms ss (dPut op (.inl nm) (fLev ms i)) i (s (.int (i : Int))) (s (.str "open")) (s (.int nm))) (fun K k => ?_) ?_
        · refine str_is (i := 6) (by exact rfl) w_open_open ?_
          refine opt_of (placeD_at em rfl) ?_
          exact gd_of (show op.length < 16777216 by omega) k
        · refine ⟨dPut op (.inl nm) (fLev ms i), s (.int (i : Int)), s (.str "open"), s (.int nm), opD_put ok.nest ho em, ?_, ?_⟩
          · have := dPut_len op (.inl nm) (fLev ms i)
            omega
          · unfold eL
            rw [at_next em rfl]
            rfl
      | cl nm v =>
        refine seq_step (eL ms ss op i (s (.int (i : Int))) (s (.str "close")) (s (.int nm))) (fun K k => opt_of (mkD_at em) (opt_of (mkD_at em) k)) ?_
        refine seq_step (eL ms ss op i (s (.int (i : Int))) (s (.str "close")) (s (.int nm))) (fun K k => ?_) ?_
        · refine str_is (i := 6) (by exact rfl) w_close_open ?_
          exact lv_step (Ξ := fun c _ => E' c) ok hsl hss ho em k
        · refine ⟨op, s (.int (i : Int)), s (.str "close"), s (.int nm), opD_skip ho (fun n' u' z => (by rw [em] at z; cases z)), by omega, ?_⟩
          unfold eL
          rw [at_next em rfl]
          rfl
    · intro ε _
      exact h
  · exact h.elim

end PL.K48

set_option Elab.async false
set_option linter.all false
set_option autoImplicit false
set_option maxRecDepth 100000
set_option maxHeartbeats 1000000
namespace PL.K48
open PySem PySem.Spec PyProof.Rows L2
local macro_rules | `(tactic| walk_at "y") => `(tactic| conv => whnf)
/-! ### what is told, what is refused -/
theorem w_gap_gap : decide (("gap" : Str) = "gap") = true := by decide +kernel
theorem w_runs_gap : decide (("runs" : Str) = "gap") = false := by decide +kernel
def refG : D := .tup [.str ("refused" : Str), .bl false, .bl true]
def φ_law_told : Spec
  | [.str w, d], Q, _ => (w = "gap" ∧ ((badGap d = true ∧ Q refG) ∨ ∃ xs : List Int, d = .lst (xs.map D.int) ∧ xs.length ≤ 1000000 ∧ Q (saidD (.int (gapI xs))))) ∨
    (w = "runs" ∧ ((badRuns d ∧ Q refD) ∨ ∃ ms, isL d (ms.map Mk.d) ∧ ms.length ≤ 1000000 ∧ nestB ms = true ∧ Q (saidD (runsD ms))))
  | _, _, _ => False
abbrev N_law_told : List Str := ["word", "one", "told", "e"]
def r_law_told (Ξ : Xi) : PTS :=
  (ysSeq (ysTry exCs 3 (fun Ξb => (ysIf (yBinT (oEq false) (yVar 0) (yC (.str ("gap" : Str))))
  (ysAsg (yCall φ_gap_of Ξb (ylCons (yVar 1) ylNil)) 2)
  (ysAsg (yCall φ_runs_in Ξb (ylCons (yVar 1) ylNil)) 2)))
  (fun a c => (ysRet (yTup (ylCons (yC (.str ("refused" : Str))) (ylCons (yIsE 3 a c 11) (ylCons (yIsE 3 a c 10) ylNil)))))))
  (ysRet (yTup (ylCons (yC (.str ("told" : Str))) (ylCons (yVar 2) ylNil)))))
theorem vc_law_told (ds : List D) (Q' : D → Prop) (E' : Nat → Prop) (h : φ_law_told ds Q' E') : r_law_told (fun c _ => E' c) { nx := fun _ => Q' .non, rt := fun d _ => Q' d } (startE N_law_told ds) := by
  unfold φ_law_told at h
  split at h
  · rename_i w d
    rcases h with ⟨rfl, h⟩ | ⟨rfl, h⟩
    · show ysIf _ _ _ _ ([some (.v (.str "gap")), some (.v d), none, none] : PEnv)
      refine str_is (i := 0) (by exact rfl) w_gap_gap ?_
      rcases h with ⟨hb, hq⟩ | ⟨xs, rfl, hl, hq⟩
      · exact .inl ⟨hb, by decide, fun a => ⟨rfl, rfl, hq⟩⟩
      · exact .inr ⟨xs, rfl, hl, hq⟩
    · show ysIf _ _ _ _ ([some (.v (.str "runs")), some (.v d), none, none] : PEnv)
      refine str_is (i := 0) (by exact rfl) w_runs_gap ?_
      rcases h with ⟨hb, hq⟩ | ⟨ms, h1, h2, h3, hq⟩
      · exact .inl ⟨hb, by decide, fun a => ⟨rfl, rfl, hq⟩⟩
      · exact .inr ⟨ms, h1, h2, h3, hq⟩
  · exact h.elim
def φ_law_wrong_mark : Spec
  | [.pool], Q, _ => ∀ d, okM d = true → isMarkB d = false → Q d
  | _, _, _ => False
def wrongL : List D := [.tup [.str "open", .int 77], .tup [.str "close", .int 77], .tup [.str "break", .int 1, .int 1], .tup [.str "move"], .lst [.str "break", .int 1], .tup [.str "open", .bl true, .int 1], .tup [.str "open", .int 77, .non], .tup [.str "move", .str "1"], .tup [.str "break", .bl false], .tup [.str "shut", .int 77, .int 1], .tup [], .non, .str "break", .int 3, .tup [.str "open", .int 77, .int 0, .int 0], .tup [.int 1, .int 2, .int 3], .tup [.str "move", .tup [.int 1]]]
theorem wrong_all : (wrongL.all fun d => okM d && !isMarkB d) = true := by decide +kernel
abbrev N_law_wrong_mark : List Str := ["pool", "wrong"]
def r_law_wrong_mark (Ξ : Xi) : PTS :=
  (ysSeq (ysAsg (yNew (ynLst (ylCons (yTup (ylCons (yC (.str ("open" : Str))) (ylCons (yC (.int 77)) ylNil))) (ylCons (yTup (ylCons (yC (.str ("close" : Str))) (ylCons (yC (.int 77)) ylNil))) (ylCons (yTup (ylCons (yC (.str ("break" : Str))) (ylCons (yC (.int 1)) (ylCons (yC (.int 1)) ylNil)))) (ylCons (yTup (ylCons (yC (.str ("move" : Str))) ylNil)) (ylCons (yNew (ynLst (ylCons (yC (.str ("break" : Str))) (ylCons (yC (.int 1)) ylNil)))) (ylCons (yTup (ylCons (yC (.str ("open" : Str))) (ylCons (yC (.bl true)) (ylCons (yC (.int 1)) ylNil)))) (ylCons (yTup (ylCons (yC (.str ("open" : Str))) (ylCons (yC (.int 77)) (ylCons (yC .non) ylNil)))) (ylCons (yTup (ylCons (yC (.str ("move" : Str))) (ylCons (yC (.str ("1" : Str))) ylNil))) (ylCons (yTup (ylCons (yC (.str ("break" : Str))) (ylCons (yC (.bl false)) ylNil))) (ylCons (yTup (ylCons (yC (.str ("shut" : Str))) (ylCons (yC (.int 77)) (ylCons (yC (.int 1)) ylNil)))) (ylCons (yTup ylNil) (ylCons (yC .non) (ylCons (yC (.str ("break" : Str))) (ylCons (yC (.int 3)) (ylCons (yTup (ylCons (yC (.str ("open" : Str))) (ylCons (yC (.int 77)) (ylCons (yC (.int 0)) (ylCons (yC (.int 0)) ylNil))))) (ylCons (yTup (ylCons (yC (.int 1)) (ylCons (yC (.int 2)) (ylCons (yC (.int 3)) ylNil)))) (ylCons (yTup (ylCons (yC (.str ("move" : Str))) (ylCons (yTup (ylCons (yC (.int 1)) ylNil)) ylNil))) ylNil))))))))))))))))))) 1)
  (ysRet (yIx (yVar 1) (yCall φ_law_pick Ξ (ylCons (yVar 0) (ylCons (yCB oLen (ylCons (yVar 1) ylNil)) ylNil))))))
theorem vc_law_wrong_mark (ds : List D) (Q' : D → Prop) (E' : Nat → Prop) (h : φ_law_wrong_mark ds Q' E') : r_law_wrong_mark (fun c _ => E' c) { nx := fun _ => Q' .non, rt := fun d _ => Q' d } (startE N_law_wrong_mark ds) := by
  unfold φ_law_wrong_mark at h
  split at h
  · intro r r0 r1
    refine pick_of (xs := wrongL) r0 r1 fun d hd => ?_
    have := List.all_eq_true.mp wrong_all d hd
    obtain ⟨h1, h2⟩ := Bool.and_eq_true_iff.mp this
    exact h d h1 (by cases e : isMarkB d <;> simp [e] at h2 ⊢)
  · exact h.elim

end PL.K48

set_option Elab.async false
set_option linter.all false
set_option autoImplicit false
set_option maxRecDepth 100000
set_option maxHeartbeats 1000000
namespace PL.K48
open PySem PySem.Spec PyProof.Rows L2
local macro_rules | `(tactic| walk_at "y") => `(tactic| conv => whnf)
/-! ### rows that are not nested -/
theorem op_mem {ms : List Mk} {i : Nat} {n u : Int} (h : ms[i]? = some (.op n u)) : Mk.op n u ∈ ms := List.mem_of_getElem? h
theorem cl_nam {ms : List Mk} (ok : MarksOk ms) {j : Nat} {n v : Int} (h : ms[j]? = some (.cl n v)) : -2000 < n ∧ n < 2000 := by
  obtain ⟨i, u, _, e⟩ := N2 ok.nest h
  exact ok.nam n u (op_mem e)
theorem not_nest {ms : List Mk} (h : nestB ms = true → False) : nestB ms = false := by
  cases e : nestB ms with
  | false => rfl
  | true => exact (h e).elim
theorem mid_at (a b : List Mk) (m : Mk) : (a ++ [m] ++ b)[a.length]? = some m := by simp
theorem B1 {ms a b : List Mk} (ok : MarksOk ms) (e : a ++ b = ms) {X v : Int} (hX : 2000 ≤ X) : nestB (a ++ [.cl X v] ++ b) = false := not_nest fun h => by
  obtain ⟨i, u, lt, hi⟩ := N2 h (mid_at a b _)
  rw [List.append_assoc, List.getElem?_append_left lt] at hi
  have := ok.nam X u (by rw [← e]; exact List.mem_append_left _ (op_mem hi))
  omega
theorem B2 {ms a b : List Mk} (ok : MarksOk ms) (e : a ++ b = ms) {X v : Int} (hX : 2000 ≤ X) : nestB (a ++ [.op X v] ++ b) = false := not_nest fun h => by
  obtain ⟨j, u, lt, hj⟩ := N4 h (mid_at a b _)
  rw [List.getElem?_append_right (by rw [List.length_append, List.length_singleton]; omega)] at hj
  have hm : Mk.cl X u ∈ ms := by rw [← e]; exact List.mem_append_right _ (List.mem_of_getElem? hj)
  obtain ⟨k, hk⟩ := List.mem_iff_getElem?.mp hm
  have := cl_nam ok hk
  omega
theorem B3 {ms : List Mk} (ok : MarksOk ms) {X u v : Int} (hX : 2000 ≤ X) : nestB (ms ++ [.cl X v, .op X u]) = false := not_nest fun h => by
  obtain ⟨i, u, lt, hi⟩ := N2 h (j := ms.length) (n := X) (v := v) (by simp)
  rw [List.getElem?_append_left lt] at hi
  have := ok.nam X u (op_mem hi)
  omega
theorem B4 {ms : List Mk} (ok : MarksOk ms) {X Y u v : Int} (hX : 2000 ≤ X) (hY : Y < X) : nestB ([.op Y u] ++ ms ++ [.cl X v]) = false := not_nest fun h => by
  obtain ⟨i, w, lt, hi⟩ := N2 h (j := ms.length + 1) (n := X) (v := v) (by simp)
  rw [List.getElem?_append_left (by simp; omega)] at hi
  cases i with
  | zero =>
    have : Mk.op Y u = .op X w := by simpa using hi
    cases this
    omega
  | succ i =>
    have hi : ms[i]? = some (.op X w) := by simpa using hi
    have := ok.nam X w (op_mem hi)
    omega
theorem skip_at (ms : List Mk) {k : Nat} (hk : k < ms.length) (i : Nat) : (ms.take k ++ ms.drop (k + 1))[i]? = if i < k then ms[i]? else ms[i + 1]? := by
  have hl : (ms.take k).length = k := by rw [List.length_take]; omega
  by_cases h : i < k
  · rw [if_pos h, List.getElem?_append_left (by omega), List.getElem?_take, if_pos h]
  · rw [if_neg h, List.getElem?_append_right (by omega), List.getElem?_drop, hl]
    congr 1
    omega
theorem B5 {ms : List Mk} (ok : MarksOk ms) {k : Nat} {n u : Int} (hk : ms[k]? = some (.op n u)) : nestB (ms.take k ++ ms.drop (k + 1)) = false := not_nest fun h => by
  have hl := (List.getElem?_eq_some_iff.mp hk).1
  obtain ⟨j, v, lt, hj⟩ := N4 ok.nest hk
  obtain ⟨i, w, _, hi⟩ := N2 h (j := j - 1) (n := n) (v := v) (by rw [skip_at ms hl, if_neg (by omega), show j - 1 + 1 = j by omega]; exact hj)
  rw [skip_at ms hl] at hi
  split at hi
  · have := N1 ok.nest hi hk
    omega
  · have := N1 ok.nest hi hk
    omega
theorem B6 {ms : List Mk} (ok : MarksOk ms) {j : Nat} {n u : Int} (hj : ms[j]? = some (.cl n u)) : nestB (ms.take j ++ ms.drop (j + 1)) = false := not_nest fun h => by
  have hl := (List.getElem?_eq_some_iff.mp hj).1
  obtain ⟨i, v, lt, hi⟩ := N2 ok.nest hj
  obtain ⟨x, w, _, hx⟩ := N4 h (i := i) (n := n) (u := v) (by rw [skip_at ms hl, if_pos lt]; exact hi)
  rw [skip_at ms hl] at hx
  split at hx
  · have := N5 ok.nest hx hj
    omega
  · have := N5 ok.nest hx hj
    omega
theorem B7 {ms : List Mk} {k : Nat} {n u x y : Int} (hk : ms[k]? = some (.op n u)) : nestB (ms ++ [.op n x, .cl n y]) = false := not_nest fun h => by
  have hl := (List.getElem?_eq_some_iff.mp hk).1
  have := N1 h (i := k) (j := ms.length) (n := n) (u := u) (v := x) (by rw [List.getElem?_append_left hl]; exact hk) (by simp)
  omega
theorem B8 {ms : List Mk} {j : Nat} {n u : Int} (hj : ms[j]? = some (.cl n u)) : nestB (ms.take (j + 1) ++ [.cl n u] ++ ms.drop (j + 1)) = false := not_nest fun h => by
  have hl := (List.getElem?_eq_some_iff.mp hj).1
  have ht : (ms.take (j + 1)).length = j + 1 := by rw [List.length_take]; omega
  have := N5 h (i := j) (j := j + 1) (n := n) (u := u) (v := u) (by
    rw [List.append_assoc, List.getElem?_append_left (by omega), List.getElem?_take, if_pos (by omega)]
    exact hj) (by
    have := mid_at (ms.take (j + 1)) (ms.drop (j + 1)) (.cl n u)
    rw [ht] at this
    exact this)
  omega
theorem B9 {ms : List Mk} {X Y a b c d : Int} : nestB (ms ++ [.op X a, .op Y b, .cl X c, .cl Y d]) = false := not_nest fun h => by
  obtain ⟨i, s, l1, l2, _⟩ := N3 h (i := ms.length + 1) (j := ms.length + 3) (j' := ms.length + 2) (n := Y) (m := X) (u := b) (v := d) (t := c) (by rw [List.getElem?_append_right (by omega)]; simp) (by rw [List.getElem?_append_right (by omega)]; simp) (by rw [List.getElem?_append_right (by omega)]; simp) (by omega) (by omega)
  omega
theorem B10 {ms : List Mk} {X Y a b c d : Int} : nestB (ms ++ [.op X a, .op Y b, .cl X c, .cl X d]) = false := not_nest fun h => by
  have := N5 h (i := ms.length + 2) (j := ms.length + 3) (n := X) (u := c) (v := d) (by rw [List.getElem?_append_right (by omega)]; simp) (by rw [List.getElem?_append_right (by omega)]; simp)
  omega
def BadL (d : D) : Prop := ∃ ms, nestB ms = false ∧ ms.length ≤ 2000 ∧ d = .lst (ms.map Mk.d)
def φ_law_unnested : Spec
  | [.pool, .lst ds], Q, _ => ∃ ms, ds = ms.map Mk.d ∧ MarksOk ms ∧ ∀ d, BadL d → Q d
  | _, _, _ => False
theorem cut_lo {ms : List Mk} {a : Nat} (h : a ≤ ms.length) : cutD (ms.map Mk.d) none (some (a : Int)) = (ms.take a).map Mk.d := by
  unfold cutD
  rw [HT.sIx_nat, HT.sIx_none, List.length_map, Nat.min_eq_left h, List.drop_zero, Nat.sub_zero, List.map_take]
theorem cut_hi {ms : List Mk} {a : Nat} (h : a ≤ ms.length) : cutD (ms.map Mk.d) (some (a : Int)) none = (ms.drop a).map Mk.d := by
  unfold cutD
  rw [HT.sIx_nat, HT.sIx_none, List.length_map, Nat.min_eq_left h, ← List.map_drop, List.take_of_length_le (by rw [List.length_map, List.length_drop]; omega)]

end PL.K48

set_option Elab.async false
set_option linter.all false
set_option autoImplicit false
set_option maxRecDepth 100000
set_option maxHeartbeats 1000000
namespace PL.K48
open PySem PySem.Spec PyProof.Rows L2
local macro_rules | `(tactic| walk_at "y") => `(tactic| conv => whnf)
/-! ### _law_unnested -/
def natAt (q : Mk → Bool) (ms : List Mk) : List Nat := (List.range ms.length).filter fun k => match ms[k]? with
  | some m => q m
  | none => false
def intsAt (q : Mk → Bool) (ms : List Mk) : List Int := (natAt q ms).map fun k : Nat => (0 : Int) + (k : Int)
def isAt (q : Mk → Bool) (ms : List Mk) : D → Bool
  | .int k => match ms[k.toNat]? with
    | some m => q m
    | none => false
  | _ => false
theorem isAt_nat (q : Mk → Bool) (ms : List Mk) (k : Nat) : isAt q ms (.int (0 + (k : Int))) = (match ms[k]? with
    | some m => q m
    | none => false) := by
  show (match ms[(0 + (k : Int)).toNat]? with
    | some m => q m
    | none => false) = _
  rw [show (0 + (k : Int)).toNat = k by omega]
theorem filt_at (q : Mk → Bool) (ms : List Mk) : ((rangeD 0 ms.length).filter (isAt q ms)).map (fun d => d) = (intsAt q ms).map D.int := by
  unfold rangeD intsAt natAt
  rw [List.map_id', List.filter_map, List.map_map]
  have : (isAt q ms ∘ fun (i : Nat) => D.int (0 + (i : Int))) = fun k => match ms[k]? with
    | some m => q m
    | none => false := funext fun k => isAt_nat q ms k
  rw [this]
  rfl
theorem at_mem {q : Mk → Bool} {ms : List Mk} {d : D} (h : d ∈ (intsAt q ms).map D.int) : ∃ (k : Nat) (m : Mk), d = .int (k : Int) ∧ ms[k]? = some m ∧ q m = true := by
  obtain ⟨i, hi, rfl⟩ := List.mem_map.mp h
  unfold intsAt at hi
  obtain ⟨k, hk, rfl⟩ := List.mem_map.mp hi
  unfold natAt at hk
  obtain ⟨_, h2⟩ := List.mem_filter.mp hk
  cases e : ms[k]? with
  | none => rw [e] at h2; cases h2
  | some m =>
    rw [e] at h2
    exact ⟨k, m, by rw [Int.zero_add], e, h2⟩
theorem mem_at {q : Mk → Bool} {ms : List Mk} {k : Nat} {m : Mk} (h : ms[k]? = some m) (hq : q m = true) : 0 < ((intsAt q ms).map D.int).length := by
  have : k ∈ natAt q ms := by
    unfold natAt
    refine List.mem_filter.mpr ⟨List.mem_range.mpr (List.getElem?_eq_some_iff.mp h).1, ?_⟩
    rw [h]
    exact hq
  unfold intsAt
  rw [List.length_map, List.length_map]
  exact List.length_pos_of_mem this
theorem at_len (q : Mk → Bool) (ms : List Mk) : ((intsAt q ms).map D.int).length ≤ ms.length := by
  unfold intsAt natAt
  rw [List.length_map, List.length_map]
  have := List.length_filter_le (fun k => match ms[k]? with
    | some m => q m
    | none => false) (List.range ms.length)
  rw [List.length_range] at this
  exact this
/-- what an expression is here -/
def Ev (r : PTE) (ε : PEnv) (d : D) : Prop := ∀ Q : T → PEnv → Prop, Q (.d d) ε → r ε Q
theorem Ev.add {ra rb : PTE} {ε : PEnv} {A B : List D} (h1 : Ev ra ε (.lst A)) (h2 : Ev rb ε (.lst B)) (hl : A.length + B.length ≤ 16777216) : Ev (yBin oAdd ra rb) ε (.lst (A ++ B)) := fun Q q => by
  have e : oAdd (.lst A) (.lst B) fun d => Q (.d d) ε := gd_of hl q
  exact h1 _ (h2 _ e)
section
variable {ε : PEnv} {ms : List Mk} {j a : Nat}
theorem Ev.marks (h : ε[1]? = some (some (.v (.lst (ms.map Mk.d))))) : Ev (yVar 1) ε (.lst (ms.map Mk.d)) := fun Q q => by
  unfold yVar
  rw [h]
  exact q
theorem Ev.lo (h : ε[1]? = some (some (.v (.lst (ms.map Mk.d))))) (hj : ε[j]? = some (some (.v (.int (a : Int))))) (ha : a ≤ ms.length) : Ev (yNew (ynSl (yVar 1) yoNone (yoSome (yVar j)))) ε (.lst ((ms.take a).map Mk.d)) := fun Q q => by
  rw [← cut_lo ha] at q
  unfold yNew ynSl yoSome yoNone yVar
  simp only [h, hj]
  exact q
theorem Ev.hi (h : ε[1]? = some (some (.v (.lst (ms.map Mk.d))))) (hj : ε[j]? = some (some (.v (.int (a : Int))))) (ha : a ≤ ms.length) : Ev (yNew (ynSl (yVar 1) (yoSome (yVar j)) yoNone)) ε (.lst ((ms.drop a).map Mk.d)) := fun Q q => by
  rw [← cut_hi ha] at q
  unfold yNew ynSl yoSome yoNone yVar
  simp only [h, hj]
  exact q
theorem Ev.lo1 (h : ε[1]? = some (some (.v (.lst (ms.map Mk.d))))) (hj : ε[j]? = some (some (.v (.int (a : Int))))) (ha : a + 1 ≤ ms.length) : Ev (yNew (ynSl (yVar 1) yoNone (yoSome (yBin oAdd (yVar j) (yC (.int 1)))))) ε (.lst ((ms.take (a + 1)).map Mk.d)) := fun Q q => by
  rw [← cut_lo ha] at q
  unfold yNew ynSl yoSome yoNone yBin yVar
  simp only [h, hj]
  exact q
theorem Ev.hi1 (h : ε[1]? = some (some (.v (.lst (ms.map Mk.d))))) (hj : ε[j]? = some (some (.v (.int (a : Int))))) (ha : a + 1 ≤ ms.length) : Ev (yNew (ynSl (yVar 1) (yoSome (yBin oAdd (yVar j) (yC (.int 1)))) yoNone)) ε (.lst ((ms.drop (a + 1)).map Mk.d)) := fun Q q => by
  rw [← cut_hi ha] at q
  unfold yNew ynSl yoSome yoNone yBin yVar
  simp only [h, hj]
  exact q
end
abbrev eU (ms : List Mk) (a : Nat) (c o f k j : Option S) : PEnv := [some (.v .pool), some (.v (.lst (ms.map Mk.d))), some (.v (.int (a : Int))), c, o, f, k, j]
structure FsOk (fs : List D) : Prop where
  len : fs.length ≤ 100
  pos : 0 < fs.length
  bad : ∀ d ∈ fs, BadL d
theorem app_bad {ms : List Mk} {a : Nat} {c o k j : Option S} {fs : List D} {r : PTE} {d : D} {Δ : PEnds} {n : Nat} (hn : n ≤ 50) (hl : fs.length ≤ n) (hf : FsOk fs) (hd : BadL d) (he : Ev r (eU ms a c o (some (.o fs)) k j) d) (hk : ∀ fs, FsOk fs → fs.length ≤ n + 1 → Δ.nx (eU ms a c o (some (.o fs)) k j)) : ysApp 5 r Δ (eU ms a c o (some (.o fs)) k j) := by
  refine he _ ?_
  refine gd_of (show fs.length < 16777216 by omega) ?_
  refine hk (fs ++ [d]) ⟨?_, ?_, fun x hx => ?_⟩ ?_
  · rw [List.length_append, List.length_singleton]; omega
  · rw [List.length_append, List.length_singleton]; omega
  · rcases List.mem_append.mp hx with hx | hx
    · exact hf.bad x hx
    · rw [List.mem_singleton.mp hx]
      exact hd
  · rw [List.length_append, List.length_singleton]; omega
theorem bad_of {ms : List Mk} (h : nestB ms = false) (hl : ms.length ≤ 2000) {d : D} (e : d = .lst (ms.map Mk.d)) : BadL d := ⟨ms, h, hl, e⟩
abbrev XN : Int := 1000000000
theorem lit1 {ε : PEnv} (w : Str) (x v : Int) {i : PTE} (hi : Ev i ε (.int x)) : Ev (yNew (ynLst (ylCons (yTup (ylCons (yC (.str w)) (ylCons i (ylCons (yC (.int v)) ylNil)))) ylNil))) ε (.lst [.tup [.str w, .int x, .int v]]) := fun Q q => hi _ q
theorem ev_pow {ε : PEnv} : Ev (yBin oPow (yC (.int 10)) (yC (.int 9))) ε (.int XN) := fun Q q => q
theorem ev_npow {ε : PEnv} : Ev (yNeg (yBin oPow (yC (.int 10)) (yC (.int 9)))) ε (.int (-XN)) := fun Q q => q
abbrev tup3 (w : Str) (i j : PTE) : PTE := yTup (ylCons (yC (.str w)) (ylCons i (ylCons j ylNil)))
theorem lit2 {ε : PEnv} (w w' : Str) (x v x' v' : Int) {i i' : PTE} (hi : Ev i ε (.int x)) (hi' : Ev i' ε (.int x')) : Ev (yNew (ynLst (ylCons (tup3 w i (yC (.int v))) (ylCons (tup3 w' i' (yC (.int v'))) ylNil)))) ε (.lst [.tup [.str w, .int x, .int v], .tup [.str w', .int x', .int v']]) := fun Q q => hi _ (hi' _ q)
theorem lit4 {ε : PEnv} (x y z u a b c d : Int) {i j k l : PTE} (hi : Ev i ε (.int x)) (hj : Ev j ε (.int y)) (hk : Ev k ε (.int z)) (hl : Ev l ε (.int u)) : Ev (yNew (ynLst (ylCons (tup3 "open" i (yC (.int a))) (ylCons (tup3 "open" j (yC (.int b))) (ylCons (tup3 "close" k (yC (.int c))) (ylCons (tup3 "close" l (yC (.int d))) ylNil)))))) ε (.lst ([.op x a, .op y b, .cl z c, .cl u d].map Mk.d)) := fun Q q => hi _ (hj _ (hk _ (hl _ q)))
theorem comp_ev {ms : List Mk} {x c o f j : Option S} {q : Mk → Bool} {w : Str} (hq : ∀ m, decide (wordM m = w) = q m) (hl : ms.length ≤ 1000) : Ev (yNew (ynLc (yiRg1 (ylCons (yCB oLen (ylCons (yVar 1) ylNil)) ylNil)) (gN 6) (yBinT (oEq false) (yIx (yIx (yVar 1) (yVar 6)) (yC (.int 0))) (yC (.str w))) (yVar 6) [6])) [some (.v .pool), some (.v (.lst (ms.map Mk.d))), x, c, o, f, none, j] (.lst ((intsAt q ms).map D.int)) := fun Q k => by
  have hn : (((ms.map Mk.d).length : Nat) : Int).toNat = ms.length := by rw [List.length_map, Int.toNat_natCast]
  refine gd_of (small_any (j := (((ms.map Mk.d).length : Nat) : Int)) (by omega) (by rw [List.length_map]; omega)) ?_
  rw [hn]
  refine ⟨⟨trivial, trivial⟩, by rw [rangeD_len]; omega, lc_filter (Q := fun acc ε' => Q (.d (.lst acc)) ε') (fun d => d) (isAt q ms) (fun i d hd K N h3 h4 => ?_) ?_⟩
  · obtain ⟨hi, rfl⟩ := rangeD_get hd
    obtain ⟨m, em⟩ : ∃ m, ms[i]? = some m := ⟨_, List.getElem?_eq_getElem hi⟩
    rw [isAt_nat, em] at h3 h4
    rw [z_add] at h3 ⊢
    refine gn_of ?_
    refine word_at (a := 1) (j := 6) (by exact rfl) (by exact rfl) em (hq m) ?_
    cases hm : q m with
    | true => exact ⟨rfl, h3 hm⟩
    | false => exact ⟨rfl, h4 hm⟩
  · rw [filt_at]
    exact k
def EvA (r : PTE) (ε : PEnv) (P : D → Prop) : Prop := ∀ Q : T → PEnv → Prop, (∀ d, P d → Q (.d d) ε) → r ε Q
theorem par_ev {i j : Nat} {ra rb : PTE} {Δ : PEnds} {ε : PEnv} {P : D → Prop} {d2 : D} (h1 : EvA ra ε P) (h2 : Ev rb ε d2) (k : ∀ d, P d → Δ.nx ((ε.set i (some (.v d))).set j (some (.v d2)))) : ysPar i j (yxE ra) (yxE rb) Δ ε := h1 _ fun d hd => h2 _ (k d hd)
theorem par_evA {i j : Nat} {ra rb : PTE} {Δ : PEnds} {ε : PEnv} {P R : D → Prop} (h1 : EvA ra ε P) (h2 : EvA rb ε R) (k : ∀ d e, P d → R e → Δ.nx ((ε.set i (some (.v d))).set j (some (.v e)))) : ysPar i j (yxE ra) (yxE rb) Δ ε := h1 _ fun d hd => h2 _ fun e he => k d e hd he
theorem asg_ev {i : Nat} {r : PTE} {Δ : PEnds} {ε : PEnv} {d : D} (h : Ev r ε d) (k : Δ.nx (ε.set i (some (.v d)))) : ysAsg r i Δ ε := h _ k
theorem asgO4 {i : Nat} {r1 r2 r3 r4 : PTE} {Δ : PEnds} {ε : PEnv} {d1 d2 d3 d4 : D} (h1 : Ev r1 ε d1) (h2 : Ev r2 ε d2) (h3 : Ev r3 ε d3) (h4 : Ev r4 ε d4) (k : Δ.nx (ε.set i (some (.o [d1, d2, d3, d4])))) : ysAsgO (ynLst (ylCons r1 (ylCons r2 (ylCons r3 (ylCons r4 ylNil))))) i Δ ε := h1 _ (h2 _ (h3 _ (h4 _ k)))
theorem cons_ev {r1 : PTE} {ε : PEnv} {A : List D} {d : D} (h : A = [d]) (e : Ev r1 ε (.lst A)) : Ev r1 ε (.lst [d]) := h ▸ e
theorem nil_ne {i : Nat} {ε : PEnv} {xs : List Int} {K : Bool → PEnv → Prop} (hs : ε[i]? = some (some (.v (.lst (xs.map D.int))))) (k : K (!(xs.map D.int).isEmpty) ε) : yBinT (oEq true) (yVar i) (yNew (ynLst ylNil)) ε K := by
  unfold yBinT yVar
  simp only [hs]
  have e : oEq true (.lst (xs.map D.int)) (.lst []) (asB fun b => K b ε) := gd_of ⟨shaped_ints xs, by decide⟩ (by rw [eqv_lnil]; exact k)
  exact e
theorem xn_le : (2000 : Int) ≤ XN := by decide
theorem nxn_lt : -XN < XN := by decide
abbrev N_law_unnested : List Str := ["pool", "marks", "at", "closes", "opens", "found", "k", "j"]
def r_law_unnested (Ξ : Xi) : PTS :=
  (ysSeq (ysPar 2 3 (yxE (yCall φ_law_index Ξ (ylCons (yVar 0) (ylCons (yBin oAdd (yCB oLen (ylCons (yVar 1) ylNil)) (yC (.int 1))) ylNil)))) (yxE (yNew (ynLc (yiRg1 (ylCons (yCB oLen (ylCons (yVar 1) ylNil)) ylNil)) (gN 6) (yBinT (oEq false) (yIx (yIx (yVar 1) (yVar 6)) (yC (.int 0))) (yC (.str ("close" : Str)))) (yVar 6) [6]))))
  (ysSeq (ysAsg (yNew (ynLc (yiRg1 (ylCons (yCB oLen (ylCons (yVar 1) ylNil)) ylNil)) (gN 6) (yBinT (oEq false) (yIx (yIx (yVar 1) (yVar 6)) (yC (.int 0))) (yC (.str ("open" : Str)))) (yVar 6) [6])) 4)
  (ysSeq (ysAsgO (ynLst (ylCons (yBin oAdd (yBin oAdd (yNew (ynSl (yVar 1) yoNone (yoSome (yVar 2)))) (yNew (ynLst (ylCons (yTup (ylCons (yC (.str ("close" : Str))) (ylCons (yBin oPow (yC (.int 10)) (yC (.int 9))) (ylCons (yC (.int 1)) ylNil)))) ylNil)))) (yNew (ynSl (yVar 1) (yoSome (yVar 2)) yoNone))) (ylCons (yBin oAdd (yBin oAdd (yNew (ynSl (yVar 1) yoNone (yoSome (yVar 2)))) (yNew (ynLst (ylCons (yTup (ylCons (yC (.str ("open" : Str))) (ylCons (yBin oPow (yC (.int 10)) (yC (.int 9))) (ylCons (yC (.int 1)) ylNil)))) ylNil)))) (yNew (ynSl (yVar 1) (yoSome (yVar 2)) yoNone))) (ylCons (yBin oAdd (yVar 1) (yNew (ynLst (ylCons (yTup (ylCons (yC (.str ("close" : Str))) (ylCons (yBin oPow (yC (.int 10)) (yC (.int 9))) (ylCons (yC (.int 0)) ylNil)))) (ylCons (yTup (ylCons (yC (.str ("open" : Str))) (ylCons (yBin oPow (yC (.int 10)) (yC (.int 9))) (ylCons (yC (.int 0)) ylNil)))) ylNil))))) (ylCons (yBin oAdd (yBin oAdd (yNew (ynLst (ylCons (yTup (ylCons (yC (.str ("open" : Str))) (ylCons (yNeg (yBin oPow (yC (.int 10)) (yC (.int 9)))) (ylCons (yC (.int 0)) ylNil)))) ylNil))) (yVar 1)) (yNew (ynLst (ylCons (yTup (ylCons (yC (.str ("close" : Str))) (ylCons (yBin oPow (yC (.int 10)) (yC (.int 9))) (ylCons (yC (.int 0)) ylNil)))) ylNil)))) ylNil))))) 5)
  (ysSeq (ysIf (yBinT (oEq true) (yVar 4) (yNew (ynLst ylNil)))
  (ysSeq (ysPar 6 7 (yxE (yIx (yVar 4) (yCall φ_law_index Ξ (ylCons (yVar 0) (ylCons (yCB oLen (ylCons (yVar 4) ylNil)) ylNil))))) (yxE (yIx (yVar 3) (yCall φ_law_index Ξ (ylCons (yVar 0) (ylCons (yCB oLen (ylCons (yVar 3) ylNil)) ylNil))))))
  (ysSeq (ysApp 5 (yBin oAdd (yNew (ynSl (yVar 1) yoNone (yoSome (yVar 6)))) (yNew (ynSl (yVar 1) (yoSome (yBin oAdd (yVar 6) (yC (.int 1)))) yoNone))))
  (ysSeq (ysApp 5 (yBin oAdd (yNew (ynSl (yVar 1) yoNone (yoSome (yVar 7)))) (yNew (ynSl (yVar 1) (yoSome (yBin oAdd (yVar 7) (yC (.int 1)))) yoNone))))
  (ysSeq (ysApp 5 (yBin oAdd (yVar 1) (yNew (ynLst (ylCons (yTup (ylCons (yC (.str ("open" : Str))) (ylCons (yIx (yIx (yVar 1) (yVar 6)) (yC (.int 1))) (ylCons (yC (.int 2)) ylNil)))) (ylCons (yTup (ylCons (yC (.str ("close" : Str))) (ylCons (yIx (yIx (yVar 1) (yVar 6)) (yC (.int 1))) (ylCons (yC (.int 2)) ylNil)))) ylNil))))))
  (ysApp 5 (yBin oAdd (yBin oAdd (yNew (ynSl (yVar 1) yoNone (yoSome (yBin oAdd (yVar 7) (yC (.int 1)))))) (yNew (ynLst (ylCons (yIx (yVar 1) (yVar 7)) ylNil)))) (yNew (ynSl (yVar 1) (yoSome (yBin oAdd (yVar 7) (yC (.int 1)))) yoNone))))))))
  ysNext)
  (ysSeq (ysApp 5 (yBin oAdd (yVar 1) (yNew (ynLst (ylCons (yTup (ylCons (yC (.str ("open" : Str))) (ylCons (yBin oPow (yC (.int 10)) (yC (.int 9))) (ylCons (yC (.int 0)) ylNil)))) (ylCons (yTup (ylCons (yC (.str ("open" : Str))) (ylCons (yNeg (yBin oPow (yC (.int 10)) (yC (.int 9)))) (ylCons (yC (.int 1)) ylNil)))) (ylCons (yTup (ylCons (yC (.str ("close" : Str))) (ylCons (yBin oPow (yC (.int 10)) (yC (.int 9))) (ylCons (yC (.int 0)) ylNil)))) (ylCons (yTup (ylCons (yC (.str ("close" : Str))) (ylCons (yNeg (yBin oPow (yC (.int 10)) (yC (.int 9)))) (ylCons (yC (.int 0)) ylNil)))) ylNil))))))))
  (ysSeq (ysApp 5 (yBin oAdd (yVar 1) (yNew (ynLst (ylCons (yTup (ylCons (yC (.str ("open" : Str))) (ylCons (yBin oPow (yC (.int 10)) (yC (.int 9))) (ylCons (yC (.int 0)) ylNil)))) (ylCons (yTup (ylCons (yC (.str ("open" : Str))) (ylCons (yNeg (yBin oPow (yC (.int 10)) (yC (.int 9)))) (ylCons (yC (.int 1)) ylNil)))) (ylCons (yTup (ylCons (yC (.str ("close" : Str))) (ylCons (yBin oPow (yC (.int 10)) (yC (.int 9))) (ylCons (yC (.int 0)) ylNil)))) (ylCons (yTup (ylCons (yC (.str ("close" : Str))) (ylCons (yBin oPow (yC (.int 10)) (yC (.int 9))) (ylCons (yC (.int 0)) ylNil)))) ylNil))))))))
  (ysRet (yIx (yVar 5) (yCall φ_law_pick Ξ (ylCons (yVar 0) (ylCons (yCB oLen (ylCons (yVar 5) ylNil)) ylNil)))))))))))
theorem vc_law_unnested (ds : List D) (Q' : D → Prop) (E' : Nat → Prop) (h : φ_law_unnested ds Q' E') : r_law_unnested (fun c _ => E' c) { nx := fun _ => Q' .non, rt := fun d _ => Q' d } (startE N_law_unnested ds) := by
  unfold φ_law_unnested at h
  split at h
  · obtain ⟨ms, rfl, ok, h⟩ := h
    have hl := ok.len
    let s (d : D) : Option S := some (.v d)
    refine seq_post (fun ε => ∃ a, a ≤ ms.length ∧ ε = eU ms a (s (.lst ((intsAt isCl ms).map D.int))) none none none none) (fun K kk => ?_) ?_
    · refine par_ev (P := fun d => ∃ a : Nat, a ≤ ms.length ∧ d = .int (a : Int)) (d2 := .lst ((intsAt isCl ms).map D.int)) (fun Q k => ?_) (comp_ev word_cl hl) fun d ⟨a, ha, e⟩ => kk _ ⟨a, ha, by rw [e]; rfl⟩
      refine gd_of (show (0 : Int) < (((ms.map Mk.d).length : Nat) : Int) + 1 by omega) ?_
      intro r r0 r1
      obtain ⟨a, rfl⟩ := Int.eq_ofNat_of_zero_le r0
      rw [List.length_map] at r1
      exact k _ ⟨a, by omega, rfl⟩
    rintro _ ⟨a, ha, rfl⟩
    refine seq_step (eU ms a (s (.lst ((intsAt isCl ms).map D.int))) (s (.lst ((intsAt isOp ms).map D.int))) none none none) (fun K k => asg_ev (comp_ev word_op hl) k) ?_
    have hab : ms.take a ++ ms.drop a = ms := List.take_append_drop a ms
    have lt : (ms.take a).length ≤ 1000 := by rw [List.length_take]; omega
    have ld : (ms.drop a).length ≤ 1000 := by rw [List.length_drop]; omega
    refine seq_post (fun ε => ∃ fs, FsOk fs ∧ fs.length ≤ 4 ∧ ε = eU ms a (s (.lst ((intsAt isCl ms).map D.int))) (s (.lst ((intsAt isOp ms).map D.int))) (some (.o fs)) none none) (fun K kk => ?_) ?_
    · refine asgO4 (d1 := .lst ((ms.take a ++ [Mk.cl XN 1] ++ ms.drop a).map Mk.d)) (d2 := .lst ((ms.take a ++ [Mk.op XN 1] ++ ms.drop a).map Mk.d)) (d3 := .lst ((ms ++ [Mk.cl XN 0, Mk.op XN 0]).map Mk.d)) (d4 := .lst (([Mk.op (-XN) 0] ++ ms ++ [Mk.cl XN 0]).map Mk.d)) ?_ ?_ ?_ ?_ ?_
      · rw [List.map_append, List.map_append]
        exact Ev.add (Ev.add (Ev.lo rfl rfl ha) (lit1 "close" XN 1 ev_pow) (by simp; omega)) (Ev.hi rfl rfl ha) (by simp; omega)
      · rw [List.map_append, List.map_append]
        exact Ev.add (Ev.add (Ev.lo rfl rfl ha) (lit1 "open" XN 1 ev_pow) (by simp; omega)) (Ev.hi rfl rfl ha) (by simp; omega)
      · rw [List.map_append]
        exact Ev.add (Ev.marks rfl) (lit2 "close" "open" XN 0 XN 0 ev_pow ev_pow) (by simp; omega)
      · rw [List.map_append, List.map_append]
        exact Ev.add (Ev.add (lit1 "open" (-XN) 0 ev_npow) (Ev.marks rfl) (by simp; omega)) (lit1 "close" XN 0 ev_pow) (by simp; omega)
      · refine kk _ ⟨_, ⟨by simp, by simp, fun d hd => ?_⟩, by simp, rfl⟩
        simp only [List.mem_cons, List.not_mem_nil, or_false] at hd
        rcases hd with rfl | rfl | rfl | rfl
        · exact bad_of (B1 ok hab xn_le) (by simp; omega) rfl
        · exact bad_of (B2 ok hab xn_le) (by simp; omega) rfl
        · exact bad_of (B3 ok xn_le) (by simp; omega) rfl
        · exact bad_of (B4 ok xn_le nxn_lt) (by simp; omega) rfl
    rintro _ ⟨fs, hf, lf, rfl⟩
    refine seq_post (fun ε => ∃ fs k j, FsOk fs ∧ fs.length ≤ 8 ∧ ε = eU ms a (s (.lst ((intsAt isCl ms).map D.int))) (s (.lst ((intsAt isOp ms).map D.int))) (some (.o fs)) k j) (fun K kk => ?_) ?_
    · refine nil_ne (i := 4) (by exact rfl) ?_
      cases he : ((intsAt isOp ms).map D.int).isEmpty with
      | true => exact kk _ ⟨fs, none, none, hf, by omega, rfl⟩
      | false =>
        have hp : 0 < ((intsAt isOp ms).map D.int).length := by
          cases e : (intsAt isOp ms).map D.int with
          | nil => rw [e] at he; cases he
          | cons _ _ => exact Nat.succ_pos _
        have hpc : 0 < ((intsAt isCl ms).map D.int).length := by
          obtain ⟨d, hd⟩ := List.exists_mem_of_length_pos hp
          obtain ⟨k, m, _, em, hm⟩ := at_mem hd
          cases m with
          | op n u =>
            obtain ⟨j, v, _, ej⟩ := N4 ok.nest em
            exact mem_at ej rfl
          | _ => cases hm
        show ysSeq _ _ _ (eU ms a (s (.lst ((intsAt isCl ms).map D.int))) (s (.lst ((intsAt isOp ms).map D.int))) (some (.o fs)) none none)
        refine seq_post (fun ε => ∃ (k j : Nat) (n u n' u' : Int), ms[k]? = some (.op n u) ∧ ms[j]? = some (.cl n' u') ∧ ε = eU ms a (s (.lst ((intsAt isCl ms).map D.int))) (s (.lst ((intsAt isOp ms).map D.int))) (some (.o fs)) (s (.int (k : Int))) (s (.int (j : Int)))) (fun K2 k2 => ?_) ?_
        · refine par_evA (P := fun d => ∃ (k : Nat) (n u : Int), ms[k]? = some (.op n u) ∧ d = .int (k : Int)) (R := fun d => ∃ (k : Nat) (n u : Int), ms[k]? = some (.cl n u) ∧ d = .int (k : Int)) (fun Q q => ?_) (fun Q q => ?_) fun d e ⟨k, n, u, h1, h2⟩ ⟨j, n', u', h3, h4⟩ => ?_
          · refine gd_of (show (0 : Int) < ((((intsAt isOp ms).map D.int).length : Nat) : Int) by omega) ?_
            intro r r0 r1
            refine pick_of r0 r1 fun d hd => ?_
            obtain ⟨k, m, rfl, em, hm⟩ := at_mem hd
            cases m with
            | op n u => exact q _ ⟨k, n, u, em, rfl⟩
            | _ => cases hm
          · refine gd_of (show (0 : Int) < ((((intsAt isCl ms).map D.int).length : Nat) : Int) by omega) ?_
            intro r r0 r1
            refine pick_of r0 r1 fun d hd => ?_
            obtain ⟨k, m, rfl, em, hm⟩ := at_mem hd
            cases m with
            | cl n u => exact q _ ⟨k, n, u, em, rfl⟩
            | _ => cases hm
          · subst h2 h4
            exact k2 _ ⟨k, j, n, u, n', u', h1, h3, rfl⟩
        rintro _ ⟨k, j, n, u, n', u', ek, ej, rfl⟩
        have hk := (List.getElem?_eq_some_iff.mp ek).1
        have hj := (List.getElem?_eq_some_iff.mp ej).1
        have name : ∀ {c o f j : Option S}, Ev (yIx (yIx (yVar 1) (yVar 6)) (yC (.int 1))) (eU ms a c o f (s (.int (k : Int))) j) (.int n) := fun Q q => opt_of (mkD_at ek) q
        refine seq_post (fun ε => ∃ fs, FsOk fs ∧ fs.length ≤ 5 ∧ ε = eU ms a (s (.lst ((intsAt isCl ms).map D.int))) (s (.lst ((intsAt isOp ms).map D.int))) (some (.o fs)) (s (.int (k : Int))) (s (.int (j : Int)))) (fun K kk => ?_) ?_
        · refine app_bad (n := 4) (d := .lst ((ms.take k ++ ms.drop (k + 1)).map Mk.d)) (by decide) lf hf (bad_of (B5 ok ek) (by simp; omega) rfl) ?_ fun fs hf lf => kk _ ⟨fs, hf, lf, rfl⟩
          rw [List.map_append]
          exact Ev.add (Ev.lo rfl rfl (by omega)) (Ev.hi1 rfl rfl (by omega)) (by simp; omega)
        rintro _ ⟨fs, hf, lf, rfl⟩
        refine seq_post (fun ε => ∃ fs, FsOk fs ∧ fs.length ≤ 6 ∧ ε = eU ms a (s (.lst ((intsAt isCl ms).map D.int))) (s (.lst ((intsAt isOp ms).map D.int))) (some (.o fs)) (s (.int (k : Int))) (s (.int (j : Int)))) (fun K kk => ?_) ?_
        · refine app_bad (n := 5) (d := .lst ((ms.take j ++ ms.drop (j + 1)).map Mk.d)) (by decide) lf hf (bad_of (B6 ok ej) (by simp; omega) rfl) ?_ fun fs hf lf => kk _ ⟨fs, hf, lf, rfl⟩
          rw [List.map_append]
          exact Ev.add (Ev.lo rfl rfl (by omega)) (Ev.hi1 rfl rfl (by omega)) (by simp; omega)
        rintro _ ⟨fs, hf, lf, rfl⟩
        refine seq_post (fun ε => ∃ fs, FsOk fs ∧ fs.length ≤ 7 ∧ ε = eU ms a (s (.lst ((intsAt isCl ms).map D.int))) (s (.lst ((intsAt isOp ms).map D.int))) (some (.o fs)) (s (.int (k : Int))) (s (.int (j : Int)))) (fun K kk => ?_) ?_
        · refine app_bad (n := 6) (d := .lst ((ms ++ [Mk.op n 2, Mk.cl n 2]).map Mk.d)) (by decide) lf hf (bad_of (B7 ek) (by simp; omega) rfl) ?_ fun fs hf lf => kk _ ⟨fs, hf, lf, rfl⟩
          rw [List.map_append]
          exact Ev.add (Ev.marks rfl) (lit2 "open" "close" n 2 n 2 name name) (by simp; omega)
        rintro _ ⟨fs, hf, lf, rfl⟩
        refine app_bad (n := 7) (d := .lst ((ms.take (j + 1) ++ [Mk.cl n' u'] ++ ms.drop (j + 1)).map Mk.d)) (by decide) lf hf (bad_of (B8 ej) (by simp; omega) rfl) ?_ fun fs hf lf => kk _ ⟨fs, _, _, hf, lf, rfl⟩
        rw [List.map_append, List.map_append]
        have one : Ev (yNew (ynLst (ylCons (yIx (yVar 1) (yVar 7)) ylNil))) (eU ms a (s (.lst ((intsAt isCl ms).map D.int))) (s (.lst ((intsAt isOp ms).map D.int))) (some (.o fs)) (s (.int (k : Int))) (s (.int (j : Int)))) (.lst ([Mk.cl n' u'].map Mk.d)) := fun Q q => opt_of (mkD_at ej) q
        exact Ev.add (Ev.add (Ev.lo1 rfl rfl (by omega)) one (by simp; omega)) (Ev.hi1 rfl rfl (by omega)) (by simp; omega)
    rintro _ ⟨fs, k, j, hf, lf, rfl⟩
    refine seq_post (fun ε => ∃ fs, FsOk fs ∧ fs.length ≤ 9 ∧ ε = eU ms a (s (.lst ((intsAt isCl ms).map D.int))) (s (.lst ((intsAt isOp ms).map D.int))) (some (.o fs)) k j) (fun K kk => ?_) ?_
    · refine app_bad (n := 8) (d := .lst ((ms ++ [Mk.op XN 0, Mk.op (-XN) 1, Mk.cl XN 0, Mk.cl (-XN) 0]).map Mk.d)) (by decide) lf hf (bad_of B9 (by simp; omega) rfl) ?_ fun fs hf lf => kk _ ⟨fs, hf, lf, rfl⟩
      rw [List.map_append]
      exact Ev.add (Ev.marks rfl) (lit4 XN (-XN) XN (-XN) 0 1 0 0 ev_pow ev_npow ev_pow ev_npow) (by simp; omega)
    rintro _ ⟨fs, hf, lf, rfl⟩
    refine seq_post (fun ε => ∃ fs, FsOk fs ∧ ε = eU ms a (s (.lst ((intsAt isCl ms).map D.int))) (s (.lst ((intsAt isOp ms).map D.int))) (some (.o fs)) k j) (fun K kk => ?_) ?_
    · refine app_bad (n := 9) (d := .lst ((ms ++ [Mk.op XN 0, Mk.op (-XN) 1, Mk.cl XN 0, Mk.cl XN 0]).map Mk.d)) (by decide) lf hf (bad_of B10 (by simp; omega) rfl) ?_ fun fs hf lf => kk _ ⟨fs, hf, rfl⟩
      rw [List.map_append]
      exact Ev.add (Ev.marks rfl) (lit4 XN (-XN) XN XN 0 1 0 0 ev_pow ev_npow ev_pow ev_pow) (by simp; omega)
    rintro _ ⟨fs, hf, rfl⟩
    refine gd_of (show (0 : Int) < ((fs.length : Nat) : Int) by have := hf.pos; omega) ?_
    intro r r0 r1
    exact pick_of r0 r1 fun d hd => h d (hf.bad d hd)
  · exact h.elim

end PL.K48

set_option Elab.async false
set_option linter.all false
set_option autoImplicit false
set_option maxRecDepth 100000
set_option maxHeartbeats 1000000
namespace PL.K48
open PySem PySem.Spec PyProof.Rows L2
local macro_rules | `(tactic| walk_at "y") => `(tactic| conv => whnf)
mutual
theorem same_refl : ∀ {n : Nat} {d : D}, plainD n d = true → sameB n d d = true
  | 0, d, h => by unfold plainD at h; cases h
  | n + 1, .non, _ => by unfold sameB; rfl
  | n + 1, .bl _, _ => by unfold sameB; exact decide_eq_true rfl
  | n + 1, .int _, _ => by unfold sameB; exact decide_eq_true rfl
  | n + 1, .str _, _ => by unfold sameB; exact decide_eq_true rfl
  | n + 1, .tup ds, h => by
    unfold plainD at h
    unfold sameB
    exact same_refls (Bool.and_eq_true_iff.mp h).2
  | n + 1, .lst ds, h => by
    unfold plainD at h
    unfold sameB
    exact same_refls (Bool.and_eq_true_iff.mp h).2
  | n + 1, .dic _, h => by unfold plainD at h; cases h
  | n + 1, .frl _, h => by unfold plainD at h; cases h
  | n + 1, .vl _, h => by unfold plainD at h; cases h
  | n + 1, .pool, h => by unfold plainD at h; cases h
  | n + 1, .err _ _, h => by unfold plainD at h; cases h
theorem same_refls : ∀ {n : Nat} {ds : List D}, plainDs n ds = true → sameBs n ds ds = true
  | n, [], _ => by unfold sameBs; rfl
  | n, d :: ds, h => by
    unfold plainDs at h
    obtain ⟨h1, h2⟩ := Bool.and_eq_true_iff.mp h
    unfold sameBs
    rw [same_refl h1, same_refls h2]
    rfl
end
mutual
theorem any_plain : ∀ {n : Nat} {d : D}, plainD n d = true → anyD n d = true
  | 0, d, h => by unfold plainD at h; cases h
  | n + 1, .non, _ => by unfold anyD; rfl
  | n + 1, .bl _, _ => by unfold anyD; rfl
  | n + 1, .int _, _ => by unfold anyD; rfl
  | n + 1, .str _, _ => by unfold anyD; rfl
  | n + 1, .tup ds, h => by
    unfold plainD at h
    unfold anyD
    obtain ⟨h1, h2⟩ := Bool.and_eq_true_iff.mp h
    rw [h1, any_plains h2]
    rfl
  | n + 1, .lst ds, h => by
    unfold plainD at h
    unfold anyD
    obtain ⟨h1, h2⟩ := Bool.and_eq_true_iff.mp h
    rw [h1, any_plains h2]
    rfl
  | n + 1, .dic _, h => by unfold plainD at h; cases h
  | n + 1, .frl _, h => by unfold plainD at h; cases h
  | n + 1, .vl _, h => by unfold plainD at h; cases h
  | n + 1, .pool, h => by unfold plainD at h; cases h
  | n + 1, .err _ _, h => by unfold plainD at h; cases h
theorem any_plains : ∀ {n : Nat} {ds : List D}, plainDs n ds = true → anyDs n ds = true
  | n, [], _ => by unfold anyDs; rfl
  | n, d :: ds, h => by
    unfold plainDs at h
    obtain ⟨h1, h2⟩ := Bool.and_eq_true_iff.mp h
    unfold anyDs
    rw [any_plain h1, any_plains h2]
    rfl
end
def φ_law_same : Spec := sameN 4
theorem same_ok {d : D} (hp : plainD 4 d = true) {Q : D → Prop} {E : Nat → Prop} (h : Q (.bl true)) : φ_law_same [d, d] Q E := by
  refine ⟨d, d, rfl, any_plain hp, hp, ?_⟩
  rw [same_refl hp]
  exact h
theorem plain_ints : ∀ {n : Nat} (xs : List Int), plainDs (n + 1) (xs.map D.int) = true
  | n, [] => by rw [List.map_nil]; unfold plainDs; rfl
  | n, x :: xs => by
    rw [List.map_cons]
    unfold plainDs
    rw [plain_ints xs]
    unfold plainD
    rfl
theorem plain_told {ms : List Mk} (hl : ms.length ≤ 1000) : plainD 4 (saidD (runsD ms)) = true := by
  have h1 := places_len ms ms.length
  have p1 : plainD 2 (.lst ((placesTo ms ms.length).map D.int)) = true := by
    unfold plainD
    rw [plain_ints, List.length_map, decide_eq_true (by omega)]
    rfl
  have p2 : plainDs 2 [.int (totalI ms)] = true := by unfold plainDs plainD plainDs; rfl
  unfold saidD runsD plainD plainDs plainD plainDs plainDs plainD plainDs
  rw [p1, p2]
  rfl
theorem plain_gap {i : Int} : plainD 4 (saidD (.int i)) = true := by
  unfold saidD plainD plainDs plainD plainDs plainDs plainD
  rfl
theorem plain_mk {m : Mk} : plainD 3 m.d = true := by
  cases m with
  | op n v => unfold Mk.d plainD plainDs plainDs plainDs plainDs plainD; rfl
  | cl n v => unfold Mk.d plainD plainDs plainDs plainDs plainDs plainD; rfl
  | br r => unfold Mk.d plainD plainDs plainDs plainDs plainD; rfl
  | mv r => unfold Mk.d plainD plainDs plainDs plainDs plainD; rfl
theorem plain_mks {ms : List Mk} (hl : ms.length ≤ 1000) : plainD 4 (.lst (ms.map Mk.d)) = true := by
  have key : ∀ ms : List Mk, plainDs 3 (ms.map Mk.d) = true := by
    intro ms
    induction ms with
    | nil => rw [List.map_nil]; unfold plainDs; rfl
    | cons m ms ih =>
      rw [List.map_cons]
      unfold plainDs
      rw [plain_mk, ih]
      rfl
  unfold plainD
  rw [List.length_map, key, decide_eq_true (by omega)]
  rfl
theorem plain_refD : plainD 4 refD = true := by decide +kernel
theorem plain_refG : plainD 4 refG = true := by decide +kernel
/-! ### sorted margins -/
theorem maxL_perm {xs ys : List Int} (h : xs.Perm ys) : maxL 0 xs = maxL 0 ys := by
  obtain ⟨h1, h2, h3⟩ := maxL_spec xs 0
  refine maxL_is ?_ fun y hy => ?_
  · rcases h1 with e | e
    · rw [e]; exact List.mem_cons_self
    · exact List.mem_cons_of_mem _ (h.mem_iff.mp e)
  · rcases List.mem_cons.mp hy with rfl | hy
    · exact h2
    · exact h3 y (h.mem_iff.mpr hy)
theorem minL_perm {xs ys : List Int} (h : xs.Perm ys) : minL 0 xs = minL 0 ys := by
  obtain ⟨h1, h2, h3⟩ := minL_spec xs 0
  refine minL_is ?_ fun y hy => ?_
  · rcases h1 with e | e
    · rw [e]; exact List.mem_cons_self
    · exact List.mem_cons_of_mem _ (h.mem_iff.mp e)
  · rcases List.mem_cons.mp hy with rfl | hy
    · exact h2
    · exact h3 y (h.mem_iff.mpr hy)
theorem gap_perm {xs ys : List Int} (h : xs.Perm ys) : gapI xs = gapI ys := by
  unfold gapI
  rw [maxL_perm h, minL_perm h]
/-! ### what is refused -/
theorem bad_wrong {ms : List Mk} {a : Nat} {d : D} (hl : ms.length ≤ 1000) (h1 : okM d = true) (h2 : isMarkB d = false) : badRuns (.lst ((ms.take a).map Mk.d ++ [d] ++ (ms.drop a).map Mk.d)) := by
  refine .inr (.inl ⟨_, .inl rfl, by simp; omega, ?_, ?_⟩)
  · rw [List.all_append, List.all_append, all_okM, all_okM, List.all_cons, h1]
    rfl
  · rw [List.all_append, List.all_append, List.all_cons, h2]
    simp
theorem bad_nest {d : D} (h : BadL d) : badRuns d := by
  obtain ⟨ms, h1, h2, rfl⟩ := h
  exact .inr (.inr ⟨ms, .inl rfl, by omega, h1⟩)
theorem badGap_mid {xs ys : List Int} {d : D} (hl : xs.length + ys.length ≤ 1000) (h1 : regB d = true) (h2 : isWholeB d = false) : badGap (.lst (xs.map D.int ++ [d] ++ ys.map D.int)) = true := by
  have hr : ∀ zs : List Int, (zs.map D.int).all regB = true := fun zs => by
    rw [List.all_map, List.all_eq_true]
    intro _ _
    rfl
  show (decide ((xs.map D.int ++ [d] ++ ys.map D.int).length ≤ 1000000) && ((xs.map D.int ++ [d] ++ ys.map D.int).all regB && !(xs.map D.int ++ [d] ++ ys.map D.int).all isWholeB)) = true
  rw [List.all_append, List.all_append, hr, hr, List.all_cons, h1, List.all_append, List.all_append, List.all_cons, h2, decide_eq_true (by simp; omega)]
  simp
def φ_law_refused : Spec
  | [.pool, .lst ds], Q, _ => ∃ ms, ds = ms.map Mk.d ∧ MarksOk ms ∧ Q (.bl true)
  | _, _, _ => False
theorem same_told {d p : D} {w : Str} {Q : D → Prop} {E E2 : Nat → Prop} (hp : plainD 4 p = true) (hd : ∀ (K : D → Prop) (E : Nat → Prop), K p → φ_law_told [.str w, d] K E) (h : Q (.bl true)) : φ_law_told [.str w, d] (fun t => φ_law_same [t, p] Q E) E2 := hd _ _ (same_ok hp h)

end PL.K48

set_option Elab.async false
set_option linter.all false
set_option autoImplicit false
set_option maxRecDepth 100000
set_option maxHeartbeats 1000000
namespace PL.K48
open PySem PySem.Spec PyProof.Rows L2
local macro_rules | `(tactic| walk_at "y") => `(tactic| conv => whnf)
/-! ### _law_refused -/
theorem call_ev2 {φ : Spec} {Ξ : Xi} {r1 r2 : PTE} {ε : PEnv} {d1 d2 p : D} (h1 : Ev r1 ε d1) (h2 : Ev r2 ε d2) (h : ∀ (K : D → Prop) (E : Nat → Prop), K p → φ [d1, d2] K E) : Ev (yCall φ Ξ (ylCons r1 (ylCons r2 ylNil))) ε p := fun Q q => h1 _ (h2 _ (h _ _ q))
theorem call_ev1 {φ : Spec} {Ξ : Xi} {r1 : PTE} {ε : PEnv} {d1 p : D} (h1 : Ev r1 ε d1) (h : ∀ (K : D → Prop) (E : Nat → Prop), K p → φ [d1] K E) : Ev (yCall φ Ξ (ylCons r1 ylNil)) ε p := fun Q q => h1 _ (h _ _ q)
theorem Ev.c {ε : PEnv} {d : D} : Ev (yC d) ε d := fun _ q => q
theorem Ev.var {ε : PEnv} {i : Nat} {d : D} (h : ε[i]? = some (some (.v d))) : Ev (yVar i) ε d := fun Q q => by
  unfold yVar
  rw [h]
  exact q
theorem yes_ev {re : PTE} {ε : PEnv} {d : D} {K : T → PEnv → Prop} {N : PEnv → Prop} (h : Ev re ε d) (k : K (.d d) ε) : yYes ε (fun k ε3 => match k with
    | true => re ε3 K
    | false => N ε3) := h _ k
theorem ifn {r : PTE} {A B : PTS} {Δ : PEnds} {ε : PEnv} (h : Ev r ε (.bl true)) (k : B Δ ε) : ysIf (yNot (yTru r)) A B Δ ε := h _ k
theorem ifnn {r1 r2 : PTE} {A B : PTS} {Δ : PEnds} {ε : PEnv} (h1 : Ev r1 ε (.bl true)) (h2 : Ev r2 ε (.bl true)) (k : B Δ ε) : ysIf (yOr (yNot (yTru r1)) (yNot (yTru r2))) A B Δ ε := h1 _ (h2 _ k)
theorem ret_ev {r : PTE} {Δ : PEnds} {ε : PEnv} {d : D} (h : Ev r ε d) (k : Δ.rt d ε) : ysRet r Δ ε := h _ k
theorem told_ev {x0 x1 x2 x4 x5 x6 x7 x8 : Option S} {rows : List D} {w : Str} {due : PTE} {p : D} (hl : rows.length ≤ 100) (hdue : ∀ ε, Ev due ε p) (hp : plainD 4 p = true) (hr : ∀ d ∈ rows, ∀ (K : D → Prop) (E : Nat → Prop), K p → φ_law_told [.str w, d] K E) : Ev (yCB oAll (ylCons (yNew (ynLc (yiSeq (yVar 3)) (gN 9) yYes (yCall φ_law_same Ξ0 (ylCons (yCall φ_law_told Ξ0 (ylCons (yC (.str w)) (ylCons (yVar 9) ylNil))) (ylCons due ylNil))) [9])) ylNil)) [x0, x1, x2, some (.v (.lst rows)), x4, x5, x6, x7, x8, none] (.bl true) := fun Q k => by
  refine ⟨⟨trivial, trivial⟩, by omega, ?_⟩
  refine lc_map (Q := fun acc ε' => oAll [.lst acc] fun d => Q (.d d) ε') (boolD fun _ => true) (fun i d hd K N hk => ?_) ?_
  · refine gn_of ?_
    have e1 : Ev (yCall φ_law_told Ξ0 (ylCons (yC (.str w)) (ylCons (yVar 9) ylNil))) [x0, x1, x2, some (.v (.lst rows)), x4, x5, x6, x7, x8, some (.v d)] p := call_ev2 Ev.c (Ev.var rfl) (hr d (List.mem_of_getElem? hd))
    have e2 : Ev (yCall φ_law_same Ξ0 (ylCons (yCall φ_law_told Ξ0 (ylCons (yC (.str w)) (ylCons (yVar 9) ylNil))) (ylCons due ylNil))) [x0, x1, x2, some (.v (.lst rows)), x4, x5, x6, x7, x8, some (.v d)] (.bl true) := call_ev2 e1 (hdue _) (fun K E k => same_ok hp k)
    exact yes_ev e2 ⟨rfl, hk⟩
  · rw [map_bool]
    refine opt_of (toBls_map _) ?_
    rw [List.all_map, show rows.all (id ∘ fun _ => true) = true from List.all_eq_true.mpr fun _ _ => rfl]
    exact k
theorem ev_refD (ε : PEnv) : Ev (yTup (ylCons (yC (.str ("refused" : Str))) (ylCons (yC (.bl true)) (ylCons (yC (.bl false)) ylNil)))) ε refD := fun Q q => q
theorem ev_refG (ε : PEnv) : Ev (yTup (ylCons (yC (.str ("refused" : Str))) (ylCons (yC (.bl false)) (ylCons (yC (.bl true)) ylNil)))) ε refG := fun Q q => q
theorem asg_evA {i : Nat} {r : PTE} {Δ : PEnds} {ε : PEnv} {P : D → Prop} (h : EvA r ε P) (k : ∀ d, P d → Δ.nx (ε.set i (some (.v d)))) : ysAsg r i Δ ε := h _ k
theorem lst3_evA {r1 r2 r3 : PTE} {ε : PEnv} {P1 P2 P3 : D → Prop} (h1 : EvA r1 ε P1) (h2 : EvA r2 ε P2) (h3 : EvA r3 ε P3) : EvA (yNew (ynLst (ylCons r1 (ylCons r2 (ylCons r3 ylNil))))) ε fun d => ∃ d1 d2 d3, P1 d1 ∧ P2 d2 ∧ P3 d3 ∧ d = .lst [d1, d2, d3] := fun Q k => h1 _ fun d1 p1 => h2 _ fun d2 p2 => h3 _ fun d3 p3 => k _ ⟨d1, d2, d3, p1, p2, p3, rfl⟩
theorem ins_evA {lo r hi : PTE} {ε : PEnv} {A B : List D} {P : D → Prop} (h1 : Ev lo ε (.lst A)) (h2 : EvA r ε P) (h3 : Ev hi ε (.lst B)) (hl : A.length + B.length ≤ 1000000) : EvA (yBin oAdd (yBin oAdd lo (yNew (ynLst (ylCons r ylNil)))) hi) ε fun d => ∃ x, P x ∧ d = .lst (A ++ [x] ++ B) := fun Q k => by
  refine h1 _ (h2 _ fun x hx => ?_)
  refine gd_of (show A.length + [x].length ≤ 16777216 by rw [List.length_singleton]; omega) ?_
  refine h3 _ ?_
  refine gd_of (show (A ++ [x]).length + B.length ≤ 16777216 by rw [List.length_append, List.length_singleton]; omega) ?_
  exact k _ ⟨x, hx, rfl⟩
theorem app1_evA {ra r : PTE} {ε : PEnv} {A : List D} {P : D → Prop} (h1 : Ev ra ε (.lst A)) (h2 : EvA r ε P) (hl : A.length ≤ 1000000) : EvA (yBin oAdd ra (yNew (ynLst (ylCons r ylNil)))) ε fun d => ∃ x, P x ∧ d = .lst (A ++ [x]) := fun Q k => by
  refine h1 _ (h2 _ fun x hx => ?_)
  refine gd_of (show A.length + [x].length ≤ 16777216 by rw [List.length_singleton]; omega) ?_
  exact k _ ⟨x, hx, rfl⟩
theorem Ev.any {r : PTE} {ε : PEnv} {d : D} {P : D → Prop} (h : Ev r ε d) (hp : P d) : EvA r ε P := fun Q k => h _ (k d hp)
theorem cutG_lo {A : List D} {b : Nat} (h : b ≤ A.length) : cutD A none (some (b : Int)) = A.take b := by
  unfold cutD
  rw [HT.sIx_nat, HT.sIx_none, Nat.min_eq_left h, List.drop_zero, Nat.sub_zero]
theorem cutG_hi {A : List D} {b : Nat} (h : b ≤ A.length) : cutD A (some (b : Int)) none = A.drop b := by
  unfold cutD
  rw [HT.sIx_nat, HT.sIx_none, Nat.min_eq_left h, List.take_of_length_le (by rw [List.length_drop]; omega)]
theorem Ev.loG {ε : PEnv} {A : List D} {i j b : Nat} (h : ε[i]? = some (some (.v (.lst A)))) (hj : ε[j]? = some (some (.v (.int (b : Int))))) (hb : b ≤ A.length) : Ev (yNew (ynSl (yVar i) yoNone (yoSome (yVar j)))) ε (.lst (A.take b)) := fun Q q => by
  rw [← cutG_lo hb] at q
  unfold yNew ynSl yoSome yoNone yVar
  simp only [h, hj]
  exact q
theorem Ev.hiG {ε : PEnv} {A : List D} {i j b : Nat} (h : ε[i]? = some (some (.v (.lst A)))) (hj : ε[j]? = some (some (.v (.int (b : Int))))) (hb : b ≤ A.length) : Ev (yNew (ynSl (yVar i) (yoSome (yVar j)) yoNone)) ε (.lst (A.drop b)) := fun Q q => by
  rw [← cutG_hi hb] at q
  unfold yNew ynSl yoSome yoNone yVar
  simp only [h, hj]
  exact q
def kindsR : List D := [.non, .dic [], .str "open", .int 0, .bl true, .tup [.str "break", .int 1]]
def kindsS : List D := [.bl true, .non, .str "1", .lst [.int 1], .tup [.int 1], .dic [], .bl false]
def kindsG : List D := [.non, .dic [], .str "12", .int 4, .bl true]
theorem kindsR_ok : kindsR.all notL = true := rfl
theorem kindsS_ok : (kindsS.all fun d => regB d && !isWholeB d) = true := rfl
theorem kindsG_ok : kindsG.all badGap = true := rfl
theorem nums_ev {n : Int} (hn : 0 < n ∧ n < 100) {x1 x2 x3 x4 x5 x6 x7 x9 : Option S} : EvA (yNew (ynLc (yiRg1 (ylCons (yCall φ_law_pick Ξ0 (ylCons (yVar 0) (ylCons (yC (.int n)) ylNil))) ylNil)) (gN 8) yYes (yCall φ_law_number Ξ0 (ylCons (yVar 0) ylNil)) [8])) [some (.v .pool), x1, x2, x3, x4, x5, x6, x7, none, x9] fun d => ∃ xs : List Int, xs.length ≤ 100 ∧ d = .lst (xs.map D.int) := fun Q k => by
  refine gd_of hn.1 ?_
  intro r r0 r1
  refine gd_of (small_any (by omega) (by omega)) ?_
  refine ⟨⟨trivial, trivial⟩, by rw [rangeD_len]; omega, fun i acc => ∃ xs : List Int, xs.length = i ∧ acc = xs.map D.int, ⟨[], rfl, rfl⟩, fun i d acc hi hd hl ⟨xs, h1, h2⟩ => ?_, fun acc hl ⟨xs, h1, h2⟩ => ?_⟩
  · intro v
    subst h2
    exact ⟨rfl, xs ++ [v], by rw [List.length_append, h1]; rfl, by rw [List.map_append]; rfl⟩
  · subst h2
    rw [rangeD_len] at h1
    exact k _ ⟨xs, by omega, rfl⟩
abbrev N_law_refused : List Str := ["pool", "marks", "at", "rows", "margins", "shuffled", "due", "strange", "k", "one"]
def r_law_refused (Ξ : Xi) : PTS :=
  (ysSeq (ysAsg (yCall φ_law_index Ξ (ylCons (yVar 0) (ylCons (yBin oAdd (yCB oLen (ylCons (yVar 1) ylNil)) (yC (.int 1))) ylNil))) 2)
  (ysSeq (ysAsg (yNew (ynLst (ylCons (yBin oAdd (yBin oAdd (yNew (ynSl (yVar 1) yoNone (yoSome (yVar 2)))) (yNew (ynLst (ylCons (yCall φ_law_wrong_mark Ξ (ylCons (yVar 0) ylNil)) ylNil)))) (yNew (ynSl (yVar 1) (yoSome (yVar 2)) yoNone))) (ylCons (yCall φ_law_unnested Ξ (ylCons (yVar 0) (ylCons (yVar 1) ylNil))) (ylCons (yCB oTupleOf (ylCons (yVar 1) ylNil)) ylNil))))) 3)
  (ysSeq (ysAsg (yBin oAdd (yVar 3) (yNew (ynLst (ylCons (yIx (yNew (ynLst (ylCons (yC .non) (ylCons yDic0 (ylCons (yC (.str ("open" : Str))) (ylCons (yC (.int 0)) (ylCons (yC (.bl true)) (ylCons (yTup (ylCons (yC (.str ("break" : Str))) (ylCons (yC (.int 1)) ylNil))) ylNil)))))))) (yCall φ_law_pick Ξ (ylCons (yVar 0) (ylCons (yC (.int 6)) ylNil)))) ylNil)))) 3)
  (ysSeq (ysIf (yNot (yTru (yCB oAll (ylCons (yNew (ynLc (yiSeq (yVar 3)) (gN 9) yYes (yCall φ_law_same Ξ0 (ylCons (yCall φ_law_told Ξ0 (ylCons (yC (.str ("runs" : Str))) (ylCons (yVar 9) ylNil))) (ylCons (yTup (ylCons (yC (.str ("refused" : Str))) (ylCons (yC (.bl true)) (ylCons (yC (.bl false)) ylNil)))) ylNil))) [9])) ylNil))))
  (ysRet (yC (.bl false)))
  ysNext)
  (ysSeq (ysAsg (yNew (ynLc (yiRg1 (ylCons (yCall φ_law_pick Ξ (ylCons (yVar 0) (ylCons (yC (.int 13)) ylNil))) ylNil)) (gN 8) yYes (yCall φ_law_number Ξ0 (ylCons (yVar 0) ylNil)) [8])) 4)
  (ysSeq (ysPar 5 6 (yxE (yNew (ynCB oSorted (ylCons (yVar 4) ylNil)))) (yxE (yTup (ylCons (yC (.str ("told" : Str))) (ylCons (yCall φ_law_gap Ξ (ylCons (yVar 4) ylNil)) ylNil)))))
  (ysSeq (ysIf (yOr (yNot (yTru (yCall φ_law_same Ξ (ylCons (yCall φ_law_told Ξ (ylCons (yC (.str ("gap" : Str))) (ylCons (yVar 4) ylNil))) (ylCons (yVar 6) ylNil))))) (yNot (yTru (yCall φ_law_same Ξ (ylCons (yCall φ_law_told Ξ (ylCons (yC (.str ("gap" : Str))) (ylCons (yVar 5) ylNil))) (ylCons (yVar 6) ylNil))))))
  (ysRet (yC (.bl false)))
  ysNext)
  (ysSeq (ysAsg (yCall φ_law_index Ξ (ylCons (yVar 0) (ylCons (yBin oAdd (yCB oLen (ylCons (yVar 4) ylNil)) (yC (.int 1))) ylNil))) 2)
  (ysSeq (ysAsg (yIx (yNew (ynLst (ylCons (yC (.bl true)) (ylCons (yC .non) (ylCons (yC (.str ("1" : Str))) (ylCons (yNew (ynLst (ylCons (yC (.int 1)) ylNil))) (ylCons (yTup (ylCons (yC (.int 1)) ylNil)) (ylCons yDic0 (ylCons (yC (.bl false)) ylNil))))))))) (yCall φ_law_pick Ξ (ylCons (yVar 0) (ylCons (yC (.int 7)) ylNil)))) 7)
  (ysSeq (ysAsg (yNew (ynLst (ylCons (yBin oAdd (yBin oAdd (yNew (ynSl (yVar 4) yoNone (yoSome (yVar 2)))) (yNew (ynLst (ylCons (yVar 7) ylNil)))) (yNew (ynSl (yVar 4) (yoSome (yVar 2)) yoNone))) (ylCons (yCB oTupleOf (ylCons (yVar 4) ylNil)) (ylCons (yIx (yNew (ynLst (ylCons (yC .non) (ylCons yDic0 (ylCons (yC (.str ("12" : Str))) (ylCons (yC (.int 4)) (ylCons (yC (.bl true)) ylNil))))))) (yCall φ_law_pick Ξ (ylCons (yVar 0) (ylCons (yC (.int 5)) ylNil)))) ylNil))))) 3)
  (ysRet (yCB oAll (ylCons (yNew (ynLc (yiSeq (yVar 3)) (gN 9) yYes (yCall φ_law_same Ξ0 (ylCons (yCall φ_law_told Ξ0 (ylCons (yC (.str ("gap" : Str))) (ylCons (yVar 9) ylNil))) (ylCons (yTup (ylCons (yC (.str ("refused" : Str))) (ylCons (yC (.bl false)) (ylCons (yC (.bl true)) ylNil)))) ylNil))) [9])) ylNil)))))))))))))
theorem vc_law_refused (ds : List D) (Q' : D → Prop) (E' : Nat → Prop) (h : φ_law_refused ds Q' E') : r_law_refused (fun c _ => E' c) { nx := fun _ => Q' .non, rt := fun d _ => Q' d } (startE N_law_refused ds) := by
  unfold φ_law_refused at h
  split at h
  · obtain ⟨ms, rfl, ok, h⟩ := h
    have hl := ok.len
    let s (d : D) : Option S := some (.v d)
    have hpos : (0 : Int) < (((ms.map Mk.d).length : Nat) : Int) + 1 := by omega
    refine seq_post (fun ε => ∃ a, a ≤ ms.length ∧ ε = [s .pool, s (.lst (ms.map Mk.d)), s (.int ((a : Nat) : Int)), none, none, none, none, none, none, none]) (fun K kk => ?_) ?_
    · refine gd_of hpos ?_
      intro r r0 r1
      obtain ⟨a, rfl⟩ := Int.eq_ofNat_of_zero_le r0
      rw [List.length_map] at r1
      exact kk _ ⟨a, by omega, rfl⟩
    rintro _ ⟨a, ha, rfl⟩
    refine seq_post (fun ε => ∃ rs : List D, rs.length = 3 ∧ (∀ d ∈ rs, badRuns d) ∧ ε = [s .pool, s (.lst (ms.map Mk.d)), s (.int ((a : Nat) : Int)), s (.lst rs), none, none, none, none, none, none]) (fun K kk => ?_) ?_
    · refine asg_evA (lst3_evA (ins_evA (P := fun d => okM d = true ∧ isMarkB d = false) (Ev.lo rfl rfl ha) (fun Q k => fun d h1 h2 => k d ⟨h1, h2⟩) (Ev.hi rfl rfl ha) (by simp; omega)) (P2 := BadL) (fun Q k => ⟨ms, rfl, ok, k⟩) (P3 := fun d => d = .tup (ms.map Mk.d)) (fun Q k => k _ rfl)) fun d ⟨d1, d2, d3, ⟨x, ⟨x1, x2⟩, e1⟩, p2, p3, e⟩ => ?_
      subst e1 p3 e
      refine kk _ ⟨_, rfl, fun d hd => ?_, rfl⟩
      simp only [List.mem_cons, List.not_mem_nil, or_false] at hd
      rcases hd with rfl | rfl | rfl
      · exact bad_wrong hl x1 x2
      · exact bad_nest p2
      · exact .inl rfl
    rintro _ ⟨rs, hrl, hrs, rfl⟩
    refine seq_post (fun ε => ∃ rs : List D, rs.length = 4 ∧ (∀ d ∈ rs, badRuns d) ∧ ε = [s .pool, s (.lst (ms.map Mk.d)), s (.int ((a : Nat) : Int)), s (.lst rs), none, none, none, none, none, none]) (fun K kk => ?_) ?_
    · refine asg_evA (app1_evA (P := fun d => d ∈ kindsR) (Ev.var rfl) (fun Q k => fun r r0 r1 => pick_of (xs := kindsR) r0 r1 k) (by omega)) fun d ⟨x, hx, e⟩ => ?_
      subst e
      refine kk _ ⟨_, by rw [List.length_append, hrl]; rfl, fun d hd => ?_, rfl⟩
      rcases List.mem_append.mp hd with hd | hd
      · exact hrs d hd
      · rw [List.mem_singleton.mp hd]
        exact .inl (List.all_eq_true.mp kindsR_ok x hx)
    rintro _ ⟨rs, hrl, hrs, rfl⟩
    refine seq_step [s .pool, s (.lst (ms.map Mk.d)), s (.int ((a : Nat) : Int)), s (.lst rs), none, none, none, none, none, none] (fun K kk => ?_) ?_
    · exact ifn (told_ev (w := "runs") (p := refD) (by omega) ev_refD plain_refD (fun d hd K E k => .inr ⟨rfl, .inl ⟨hrs d hd, k⟩⟩)) kk
    refine seq_post (fun ε => ∃ xs : List Int, xs.length ≤ 100 ∧ ε = [s .pool, s (.lst (ms.map Mk.d)), s (.int ((a : Nat) : Int)), s (.lst rs), s (.lst (xs.map D.int)), none, none, none, none, none]) (fun K kk => ?_) ?_
    · exact asg_evA (nums_ev ⟨by decide, by decide⟩) fun d ⟨xs, hx, e⟩ => kk _ ⟨xs, hx, by rw [e]; rfl⟩
    rintro _ ⟨xs, hx, rfl⟩
    refine seq_post (fun ε => ∃ ys : List Int, ys.Perm xs ∧ ε = [s .pool, s (.lst (ms.map Mk.d)), s (.int ((a : Nat) : Int)), s (.lst rs), s (.lst (xs.map D.int)), s (.lst (ys.map D.int)), s (saidD (.int (gapI xs))), none, none, none]) (fun K kk => ?_) ?_
    · exact par_ev (P := fun d => ∃ ys : List Int, ys.Perm xs ∧ d = .lst (ys.map D.int)) (d2 := saidD (.int (gapI xs))) (fun Q k => opt_of (toInts_map xs) fun ns' hp _ => k _ ⟨ns', hp, rfl⟩) (fun Q q => ⟨xs, rfl, by omega, q⟩) fun d ⟨ys, hy, e⟩ => kk _ ⟨ys, hy, by rw [e]; rfl⟩
    rintro _ ⟨ys, hy, rfl⟩
    refine seq_step [s .pool, s (.lst (ms.map Mk.d)), s (.int ((a : Nat) : Int)), s (.lst rs), s (.lst (xs.map D.int)), s (.lst (ys.map D.int)), s (saidD (.int (gapI xs))), none, none, none] (fun K kk => ?_) ?_
    · have e1 : ∀ zs : List Int, zs.Perm xs → ∀ i : Nat, i = 4 ∨ i = 5 → ([s .pool, s (.lst (ms.map Mk.d)), s (.int ((a : Nat) : Int)), s (.lst rs), s (.lst (xs.map D.int)), s (.lst (ys.map D.int)), s (saidD (.int (gapI xs))), none, none, none] : PEnv)[i]? = some (s (.lst (zs.map D.int))) → Ev (yCall φ_law_same (fun c _ => E' c) (ylCons (yCall φ_law_told (fun c _ => E' c) (ylCons (yC (.str ("gap" : Str))) (ylCons (yVar i) ylNil))) (ylCons (yVar 6) ylNil))) [s .pool, s (.lst (ms.map Mk.d)), s (.int ((a : Nat) : Int)), s (.lst rs), s (.lst (xs.map D.int)), s (.lst (ys.map D.int)), s (saidD (.int (gapI xs))), none, none, none] (.bl true) := fun zs hz i _ hi => by
        refine call_ev2 (d1 := saidD (.int (gapI xs))) (d2 := saidD (.int (gapI xs))) (call_ev2 Ev.c (Ev.var hi) fun K E k => .inl ⟨rfl, .inr ⟨zs, rfl, by rw [hz.length_eq]; omega, by rw [gap_perm hz]; exact k⟩⟩) (Ev.var rfl) fun K E k => same_ok plain_gap k
      exact ifnn (e1 xs (List.Perm.refl _) 4 (.inl rfl) rfl) (e1 ys hy 5 (.inr rfl) rfl) kk
    refine seq_post (fun ε => ∃ b, b ≤ xs.length ∧ ε = [s .pool, s (.lst (ms.map Mk.d)), s (.int ((b : Nat) : Int)), s (.lst rs), s (.lst (xs.map D.int)), s (.lst (ys.map D.int)), s (saidD (.int (gapI xs))), none, none, none]) (fun K kk => ?_) ?_
    · refine gd_of (show (0 : Int) < (((xs.map D.int).length : Nat) : Int) + 1 by omega) ?_
      intro r r0 r1
      obtain ⟨b, rfl⟩ := Int.eq_ofNat_of_zero_le r0
      rw [List.length_map] at r1
      exact kk _ ⟨b, by omega, rfl⟩
    rintro _ ⟨b, hb, rfl⟩
    refine seq_post (fun ε => ∃ d, regB d = true ∧ isWholeB d = false ∧ ε = [s .pool, s (.lst (ms.map Mk.d)), s (.int ((b : Nat) : Int)), s (.lst rs), s (.lst (xs.map D.int)), s (.lst (ys.map D.int)), s (saidD (.int (gapI xs))), s d, none, none]) (fun K kk => ?_) ?_
    · refine asg_evA (P := fun d => d ∈ kindsS) (fun Q k => fun r r0 r1 => pick_of (xs := kindsS) r0 r1 k) fun d hd => ?_
      obtain ⟨h1, h2⟩ := Bool.and_eq_true_iff.mp (List.all_eq_true.mp kindsS_ok d hd)
      exact kk _ ⟨d, h1, by cases e : isWholeB d <;> simp [e] at h2 ⊢, rfl⟩
    rintro _ ⟨d, hd1, hd2, rfl⟩
    refine seq_post (fun ε => ∃ rs : List D, rs.length ≤ 100 ∧ (∀ d ∈ rs, badGap d = true) ∧ ε = [s .pool, s (.lst (ms.map Mk.d)), s (.int ((b : Nat) : Int)), s (.lst rs), s (.lst (xs.map D.int)), s (.lst (ys.map D.int)), s (saidD (.int (gapI xs))), s d, none, none]) (fun K kk => ?_) ?_
    · have hxl : (xs.map D.int).length = xs.length := List.length_map _
      refine asg_evA (lst3_evA (ins_evA (P := fun x => x = d) (Ev.loG rfl rfl (by omega)) (fun Q k => k _ rfl) (Ev.hiG rfl rfl (by omega)) (by simp; omega)) (P2 := fun x => x = .tup (xs.map D.int)) (fun Q k => k _ rfl) (P3 := fun d => d ∈ kindsG) (fun Q k => fun r r0 r1 => pick_of (xs := kindsG) r0 r1 k)) fun d' ⟨d1, d2, d3, ⟨x, x1, e1⟩, p2, p3, e⟩ => ?_
      subst x1 e1 p2 e
      refine kk _ ⟨_, by simp, fun y hd => ?_, rfl⟩
      simp only [List.mem_cons, List.not_mem_nil, or_false] at hd
      rcases hd with rfl | rfl | rfl
      · rw [← List.map_take, ← List.map_drop]
        exact badGap_mid (by simp; omega) hd1 hd2
      · rfl
      · exact List.all_eq_true.mp kindsG_ok _ p3
    rintro _ ⟨rs, hrl, hrs, rfl⟩
    exact ret_ev (told_ev (w := "gap") (p := refG) (by omega) ev_refG plain_refG (fun d hd K E k => .inl ⟨rfl, .inl ⟨hrs d hd, k⟩⟩)) h
  · exact h.elim

end PL.K48

set_option Elab.async false
set_option linter.all false
set_option autoImplicit false
set_option maxRecDepth 100000
set_option maxHeartbeats 1000000
namespace PL.K48
open PySem PySem.Spec PyProof.Rows L2
local macro_rules | `(tactic| walk_at "y") => `(tactic| conv => whnf)
def φ_law_is_right : Spec
  | [.lst ds], Q, _ => ∃ ms, ds = ms.map Mk.d ∧ MarksOk ms ∧ Q (.bl true)
  | _, _, _ => False
def φ_law : Spec := φLaw
theorem asg_call3 {φ : Spec} {Ξ : Xi} {r1 r2 r3 : PTE} {i : Nat} {Δ : PEnds} {ε : PEnv} {d1 : D} {P2 P3 : D → Prop} (h1 : Ev r1 ε d1) (h2 : EvA r2 ε P2) (h3 : EvA r3 ε P3) (k : ∀ d2 d3, P2 d2 → P3 d3 → φ [d1, d2, d3] (fun d => Δ.nx (ε.set i (some (.v d)))) (fun c => Ξ c ε)) : ysAsg (yCall φ Ξ (ylCons r1 (ylCons r2 (ylCons r3 ylNil)))) i Δ ε := h1 _ (h2 _ fun d2 p2 => h3 _ fun d3 p3 => k d2 d3 p2 p3)
abbrev N_law : List Str := ["script", "pool", "great", "turn", "many", "marks"]
def r_law (Ξ : Xi) : PTS :=
  (ysSeq (ysAsg (yCall φ_law_stream Ξ (ylCons (yVar 0) ylNil)) 1)
  (ysSeq (ysAsg (yBin (oEq false) (yCall φ_law_pick Ξ (ylCons (yVar 1) (ylCons (yC (.int 30)) ylNil))) (yC (.int 11))) 2)
  (ysSeq (ysFor (yiRg1 (ylCons (yC (.int 6)) ylNil)) (gN 3)
  (ysSeq (ysAsg (yIx (yNew (ynLst (ylCons (yBin oAdd (yC (.int 3)) (yCall φ_law_pick Ξ (ylCons (yVar 1) (ylCons (yC (.int 38)) ylNil)))) (ylCons (yC (.int 250)) ylNil)))) (yCB oInt (ylCons (yAndV (yVar 2) (yBin (oEq false) (yVar 3) (yC (.int 2)))) ylNil))) 4)
  (ysSeq (ysAsg (yCall φ_law_marks Ξ (ylCons (yVar 1) (ylCons (yIx (yNew (ynLst (ylCons (yVar 4) (ylCons (yC (.int 0)) ylNil)))) (yCB oInt (ylCons (yAndV (yBin (oEq false) (yVar 3) (yC (.int 5))) (yBin (oEq false) (yCall φ_law_pick Ξ (ylCons (yVar 1) (ylCons (yC (.int 9)) ylNil))) (yC (.int 0)))) ylNil))) (ylCons (yBin oAdd (yC (.int 1)) (yCall φ_law_pick Ξ (ylCons (yVar 1) (ylCons (yC (.int 25)) ylNil)))) ylNil)))) 5)
  (ysIf (yOr (yNot (yTru (yCall φ_law_is_right Ξ (ylCons (yVar 5) ylNil)))) (yNot (yTru (yCall φ_law_refused Ξ (ylCons (yVar 1) (ylCons (yVar 5) ylNil))))))
  (ysRet (yC (.bl false)))
  ysNext))))
  (ysRet (yC (.bl true))))))
theorem vc_law (ds : List D) (Q' : D → Prop) (E' : Nat → Prop) (h : φ_law ds Q' E') : r_law (fun c _ => E' c) { nx := fun _ => Q' .non, rt := fun d _ => Q' d } (startE N_law ds) := by
  unfold φ_law φLaw at h
  split at h
  · obtain ⟨xs, rfl, hx, h⟩ := h
    let I (i : Int) : Option S := some (.v (.int i))
    let e (g : Bool) (t m k : Option S) : PEnv := [some (.v (.frl (xs.map D.int))), some (.v .pool), some (.v (.bl g)), t, m, k]
    refine seq_step [some (.v (.frl (xs.map D.int))), some (.v .pool), none, none, none, none] (fun K k => ⟨⟨xs, rfl, hx⟩, k⟩) ?_
    refine seq_post (fun ε => ∃ g, ε = e g none none none) (fun K kk => fun q q0 q1 => kk _ ⟨decide (q = 11), rfl⟩) ?_
    rintro _ ⟨g, rfl⟩
    refine seq_post (fun ε => True) (fun K kk => ?_) (fun _ _ => h)
    refine ⟨fun i ε => ∃ t m k, ε = e g t m k, ⟨none, none, none, rfl⟩, fun i d ε hi hd ⟨t, m, k, q⟩ => ?_, fun ε _ => kk ε trivial⟩
    subst q
    obtain ⟨hi, rfl⟩ := rangeD_get hd
    show ysSeq _ _ _ (e g (I (0 + (i : Int))) m k)
    refine seq_post (fun ε => ∃ m, 0 ≤ m ∧ m ≤ 250 ∧ ε = e g (I (0 + (i : Int))) (I m) k) (fun K kk => ?_) ?_
    · intro q q0 q1
      cases g with
      | false =>
        exact kk _ ⟨3 + q, by omega, by omega, rfl⟩
      | true =>
        have two : ∀ c : Bool, opt (atI [D.int (3 + q), D.int 250] (if c = true then 1 else 0)) fun d => K (e true (I (0 + (i : Int))) (some (.v d)) k) := fun c => by
          cases c with
          | false => exact opt_of (a := D.int (3 + q)) rfl (kk _ ⟨3 + q, by omega, by omega, rfl⟩)
          | true => exact opt_of (a := D.int 250) rfl (kk _ ⟨250, by omega, by omega, rfl⟩)
        exact two _
    rintro _ ⟨m, m0, m1, rfl⟩
    refine seq_post (fun ε => ∃ ms, MarksOk ms ∧ ε = e g (I (0 + (i : Int))) (I m) (some (.v (.lst (ms.map Mk.d))))) (fun K kk => ?_) ?_
    · refine asg_call3 (P2 := fun d => ∃ m' : Int, 0 ≤ m' ∧ m' ≤ 250 ∧ d = .int m') (P3 := fun d => ∃ m' : Int, d = .int m') (Ev.var rfl) (fun Q k2 => ?_) (fun Q k2 => fun q q0 q1 => k2 _ ⟨1 + q, rfl⟩) fun d2 d3 ⟨m', h0, h1, e2⟩ ⟨m'', e3⟩ => ?_
      · have two : ∀ c : Bool, opt (atI [D.int m, D.int 0] (if c = true then 1 else 0)) fun d => Q (.d d) (e g (I (0 + (i : Int))) (I m) k) := fun c => by
          cases c with
          | false => exact opt_of (a := D.int m) rfl (k2 _ ⟨m, m0, m1, rfl⟩)
          | true => exact opt_of (a := D.int 0) rfl (k2 _ ⟨0, by omega, by omega, rfl⟩)
        show (match decide ((0 + (i : Int)) = 5) with
          | true => _
          | false => _)
        generalize decide ((0 + (i : Int)) = 5) = b
        cases b with
        | false => exact two false
        | true => exact fun q q0 q1 => two _
      · subst e2 e3
        exact gd_of ⟨h0, h1⟩ fun ms ok => kk _ ⟨ms, ok, rfl⟩
    rintro _ ⟨ms, ok, rfl⟩
    have e1 : Ev (yCall φ_law_is_right (fun c _ => E' c) (ylCons (yVar 5) ylNil)) (e g (I (0 + (i : Int))) (I m) (some (.v (.lst (ms.map Mk.d))))) (.bl true) := call_ev1 (Ev.var rfl) fun K E k => ⟨ms, rfl, ok, k⟩
    have e2 : Ev (yCall φ_law_refused (fun c _ => E' c) (ylCons (yVar 1) (ylCons (yVar 5) ylNil))) (e g (I (0 + (i : Int))) (I m) (some (.v (.lst (ms.map Mk.d))))) (.bl true) := call_ev2 (Ev.var rfl) (Ev.var rfl) fun K E k => ⟨ms, rfl, ok, k⟩
    exact ifnn e1 e2 ⟨_, _, _, rfl⟩
  · exact h.elim
theorem len_law_gap (ds : List D) (Q : D → Prop) (E : Nat → Prop) (h : φ_law_gap ds Q E) : ds.length = 1 := by
  unfold φ_law_gap φ_gap at h
  split at h <;> first | rfl | exact h.elim

end PL.K48

set_option Elab.async false
set_option linter.all false
set_option autoImplicit false
set_option maxRecDepth 100000
set_option maxHeartbeats 2000000
namespace PL.K48
open PySem PySem.Spec PyProof.Rows L2
open Evl (Ex)
def topS (i : Nat) : Stmt := PySem.Challenge.pw_pageseen_k48_whole_runs_of_margins.main.body.getD i (.Pass ⟨0, 0, 0, 0⟩)
abbrev s_is_whole : Stmt := topS 1
abbrev s_gap : Stmt := topS 12
abbrev s_gap_of : Stmt := topS 13
abbrev s_is_mark : Stmt := topS 14
abbrev s_are_nested : Stmt := topS 15
abbrev s_runs_of : Stmt := topS 16
abbrev s_last_closes : Stmt := topS 17
abbrev s_runs_in : Stmt := topS 18
abbrev s_law_stream : Stmt := topS 20
abbrev s_law_pick : Stmt := topS 21
abbrev s_law_index : Stmt := topS 22
abbrev s_law_same : Stmt := topS 23
abbrev s_law_number : Stmt := topS 24
abbrev s_law_rows : Stmt := topS 25
abbrev s_law_marks : Stmt := topS 26
abbrev s_law_gap : Stmt := topS 27
abbrev s_law_spans : Stmt := topS 28
abbrev s_law_places : Stmt := topS 29
abbrev s_law_are_level : Stmt := topS 30
abbrev s_law_told : Stmt := topS 31
abbrev s_law_is_right : Stmt := topS 32
abbrev s_law_wrong_mark : Stmt := topS 33
abbrev s_law_unnested : Stmt := topS 34
abbrev s_law_refused : Stmt := topS 35
abbrev s_law : Stmt := topS 36
/-- what the head tells -/
structure Txt (w : World) (K : PySem.W.Frag) (mg : Str → Option Value) : Prop where
  g_is_whole : mg "is_whole" = some (.ref (He.ga K "is_whole"))
  d_is_whole : ∃ fd, FunD K "is_whole" "is_whole" (defArgs s_is_whole) (defBody s_is_whole) (defScope s_is_whole) [] [] (He.ga K "is_whole") fd
  g_gap : mg "gap" = some (.ref (He.ga K "gap"))
  d_gap : ∃ fd, FunD K "gap" "gap" (defArgs s_gap) (defBody s_gap) (defScope s_gap) [] [] (He.ga K "gap") fd
  g_gap_of : mg "gap_of" = some (.ref (He.ga K "gap_of"))
  d_gap_of : ∃ fd, FunD K "gap_of" "gap_of" (defArgs s_gap_of) (defBody s_gap_of) (defScope s_gap_of) [] [] (He.ga K "gap_of") fd
  g_is_mark : mg "is_mark" = some (.ref (He.ga K "is_mark"))
  d_is_mark : ∃ fd, FunD K "is_mark" "is_mark" (defArgs s_is_mark) (defBody s_is_mark) (defScope s_is_mark) [] [] (He.ga K "is_mark") fd
  g_are_nested : mg "are_nested" = some (.ref (He.ga K "are_nested"))
  d_are_nested : ∃ fd, FunD K "are_nested" "are_nested" (defArgs s_are_nested) (defBody s_are_nested) (defScope s_are_nested) [] [] (He.ga K "are_nested") fd
  g_runs_of : mg "runs_of" = some (.ref (He.ga K "runs_of"))
  d_runs_of : ∃ fd, FunD K "runs_of" "runs_of" (defArgs s_runs_of) (defBody s_runs_of) (defScope s_runs_of) [] [] (He.ga K "runs_of") fd
  g_last_closes : mg "last_closes" = some (.ref (He.ga K "last_closes"))
  d_last_closes : ∃ fd, FunD K "last_closes" "last_closes" (defArgs s_last_closes) (defBody s_last_closes) (defScope s_last_closes) [] [] (He.ga K "last_closes") fd
  g_runs_in : mg "runs_in" = some (.ref (He.ga K "runs_in"))
  d_runs_in : ∃ fd, FunD K "runs_in" "runs_in" (defArgs s_runs_in) (defBody s_runs_in) (defScope s_runs_in) [] [] (He.ga K "runs_in") fd
  g_law_stream : mg "_law_stream" = some (.ref (He.ga K "_law_stream"))
  d_law_stream : ∃ fd, FunD K "_law_stream" "_law_stream" (defArgs s_law_stream) (defBody s_law_stream) (defScope s_law_stream) [] [] (He.ga K "_law_stream") fd
  g_law_pick : mg "_law_pick" = some (.ref (He.ga K "_law_pick"))
  d_law_pick : ∃ fd, FunD K "_law_pick" "_law_pick" (defArgs s_law_pick) (defBody s_law_pick) (defScope s_law_pick) [] [] (He.ga K "_law_pick") fd
  g_law_index : mg "_law_index" = some (.ref (He.ga K "_law_index"))
  d_law_index : ∃ fd, FunD K "_law_index" "_law_index" (defArgs s_law_index) (defBody s_law_index) (defScope s_law_index) [] [] (He.ga K "_law_index") fd
  g_law_same : mg "_law_same" = some (.ref (He.ga K "_law_same"))
  d_law_same : ∃ fd, FunD K "_law_same" "_law_same" (defArgs s_law_same) (defBody s_law_same) (defScope s_law_same) [] [] (He.ga K "_law_same") fd
  g_law_number : mg "_law_number" = some (.ref (He.ga K "_law_number"))
  d_law_number : ∃ fd, FunD K "_law_number" "_law_number" (defArgs s_law_number) (defBody s_law_number) (defScope s_law_number) [] [] (He.ga K "_law_number") fd
  g_law_rows : mg "_law_rows" = some (.ref (He.ga K "_law_rows"))
  d_law_rows : ∃ fd, FunD K "_law_rows" "_law_rows" (defArgs s_law_rows) (defBody s_law_rows) (defScope s_law_rows) [] [] (He.ga K "_law_rows") fd
  g_law_marks : mg "_law_marks" = some (.ref (He.ga K "_law_marks"))
  d_law_marks : ∃ fd, FunD K "_law_marks" "_law_marks" (defArgs s_law_marks) (defBody s_law_marks) (defScope s_law_marks) [] [] (He.ga K "_law_marks") fd
  g_law_gap : mg "_law_gap" = some (.ref (He.ga K "_law_gap"))
  d_law_gap : ∃ fd, FunD K "_law_gap" "_law_gap" (defArgs s_law_gap) (defBody s_law_gap) (defScope s_law_gap) [] [] (He.ga K "_law_gap") fd
  g_law_spans : mg "_law_spans" = some (.ref (He.ga K "_law_spans"))
  d_law_spans : ∃ fd, FunD K "_law_spans" "_law_spans" (defArgs s_law_spans) (defBody s_law_spans) (defScope s_law_spans) [] [] (He.ga K "_law_spans") fd
  g_law_places : mg "_law_places" = some (.ref (He.ga K "_law_places"))
  d_law_places : ∃ fd, FunD K "_law_places" "_law_places" (defArgs s_law_places) (defBody s_law_places) (defScope s_law_places) [] [] (He.ga K "_law_places") fd
  g_law_are_level : mg "_law_are_level" = some (.ref (He.ga K "_law_are_level"))
  d_law_are_level : ∃ fd, FunD K "_law_are_level" "_law_are_level" (defArgs s_law_are_level) (defBody s_law_are_level) (defScope s_law_are_level) [] [] (He.ga K "_law_are_level") fd
  g_law_told : mg "_law_told" = some (.ref (He.ga K "_law_told"))
  d_law_told : ∃ fd, FunD K "_law_told" "_law_told" (defArgs s_law_told) (defBody s_law_told) (defScope s_law_told) [] [] (He.ga K "_law_told") fd
  g_law_is_right : mg "_law_is_right" = some (.ref (He.ga K "_law_is_right"))
  d_law_is_right : ∃ fd, FunD K "_law_is_right" "_law_is_right" (defArgs s_law_is_right) (defBody s_law_is_right) (defScope s_law_is_right) [] [] (He.ga K "_law_is_right") fd
  g_law_wrong_mark : mg "_law_wrong_mark" = some (.ref (He.ga K "_law_wrong_mark"))
  d_law_wrong_mark : ∃ fd, FunD K "_law_wrong_mark" "_law_wrong_mark" (defArgs s_law_wrong_mark) (defBody s_law_wrong_mark) (defScope s_law_wrong_mark) [] [] (He.ga K "_law_wrong_mark") fd
  g_law_unnested : mg "_law_unnested" = some (.ref (He.ga K "_law_unnested"))
  d_law_unnested : ∃ fd, FunD K "_law_unnested" "_law_unnested" (defArgs s_law_unnested) (defBody s_law_unnested) (defScope s_law_unnested) [] [] (He.ga K "_law_unnested") fd
  g_law_refused : mg "_law_refused" = some (.ref (He.ga K "_law_refused"))
  d_law_refused : ∃ fd, FunD K "_law_refused" "_law_refused" (defArgs s_law_refused) (defBody s_law_refused) (defScope s_law_refused) [] [] (He.ga K "_law_refused") fd
  g_law : mg "law" = some (.ref (He.ga K "law"))
  d_law : ∃ fd, FunD K "law" "law" (defArgs s_law) (defBody s_law) (defScope s_law) [] [] (He.ga K "law") fd
  g_LENGTHS : mg "LENGTHS" = some (.ref (He.ga K "LENGTHS"))
  t_LENGTHS : TabOk K w (He.ga K "LENGTHS") tab_LENGTHS
  n_all : mg "all" = none
  n_any : mg "any" = none
  n_bool : mg "bool" = none
  n_dict : mg "dict" = none
  n_enumerate : mg "enumerate" = none
  n_int : mg "int" = none
  n_isinstance : mg "isinstance" = none
  n_len : mg "len" = none
  n_list : mg "list" = none
  n_max : mg "max" = none
  n_min : mg "min" = none
  n_range : mg "range" = none
  n_sorted : mg "sorted" = none
  n_str : mg "str" = none
  n_tuple : mg "tuple" = none
  c_BREAK : GlS mg "BREAK" ("break" : Str)
  c_CLOSE : GlS mg "CLOSE" ("close" : Str)
  c_MOVE : GlS mg "MOVE" ("move" : Str)
  c_OPEN : GlS mg "OPEN" ("open" : Str)
  g_PageError : mg "PageError" = some (.ref (He.ga K "PageError"))
  g_BadList : mg "BadList" = some (.ref (He.ga K "BadList"))
  g_BadMarks : mg "BadMarks" = some (.ref (He.ga K "BadMarks"))
  x_PageError : PySem.W.excIn K (He.ga K "PageError") exBase "Exception.__new__" = true
  k_PageError : PySem.W.keepIn K (.ref (He.ga K "PageError")) = true
  s_PageError : PySem.W.subIn K (.ref (He.ga K "PageError")) (.type "BaseException") = some true
  t_PageError : PySem.W.typeIn K (.ref (He.ga K "PageError")) = some (.type "type")
  x_BadList : PySem.W.excIn K (He.ga K "BadList") exBase "Exception.__new__" = true
  k_BadList : PySem.W.keepIn K (.ref (He.ga K "BadList")) = true
  s_BadList : PySem.W.subIn K (.ref (He.ga K "BadList")) (.type "BaseException") = some true
  t_BadList : PySem.W.typeIn K (.ref (He.ga K "BadList")) = some (.type "type")
  x_BadMarks : PySem.W.excIn K (He.ga K "BadMarks") exBase "Exception.__new__" = true
  k_BadMarks : PySem.W.keepIn K (.ref (He.ga K "BadMarks")) = true
  s_BadMarks : PySem.W.subIn K (.ref (He.ga K "BadMarks")) (.type "BaseException") = some true
  t_BadMarks : PySem.W.typeIn K (.ref (He.ga K "BadMarks")) = some (.type "type")
  xk : ExK K exCs

section
variable {P : Program} {w : World} {K : PySem.W.Frag} {mg : Str → Option Value} {base : Heap}

abbrev P_is_whole : List Str := ["value"]
abbrev P_gap : List Str := ["margins"]
abbrev P_gap_of : List Str := ["margins"]
abbrev P_is_mark : List Str := ["value"]
abbrev P_are_nested : List Str := ["marks"]
abbrev P_last_closes : List Str := ["marks", "numbers"]
abbrev P_runs_in : List Str := ["marks"]
abbrev P_law_stream : List Str := ["script"]
abbrev P_law_index : List Str := ["pool", "many"]
abbrev P_law_same : List Str := ["one", "due"]
abbrev P_law_number : List Str := ["pool"]
abbrev P_law_rows : List Str := ["pool"]
abbrev P_law_marks : List Str := ["pool", "many", "deep"]
abbrev P_law_gap : List Str := ["margins"]
abbrev P_law_spans : List Str := ["marks"]
abbrev P_law_places : List Str := ["marks"]
abbrev P_law_are_level : List Str := ["marks", "places"]
abbrev P_law_told : List Str := ["word", "one"]
abbrev P_law_wrong_mark : List Str := ["pool"]
abbrev P_law_unnested : List Str := ["pool", "marks"]
abbrev P_law_refused : List Str := ["pool", "marks"]
abbrev P_law : List Str := ["script"]
abbrev P_law_pick : List Str := ["pool", "many"]
abbrev N_law_pick : List Str := ["pool", "many", "place"]
theorem sc_law_pick : FnScope N_law_pick P_law_pick (defScope s_law_pick) := ⟨rfl, rfl, rfl, by decide +kernel, rfl, by decide +kernel, by decide +kernel⟩
theorem ok_law_pick (T : Txt w K mg) : CallOk P w K mg base 1 "_law_pick" P_law_pick φ_law_pick := by
  obtain ⟨fd, F⟩ := T.d_law_pick
  refine ⟨⟨fd, pick_close (F.ok sc_law_pick (fun vs H Q E h => ?_) (fun cdv A outer s H vs Q E hr h => ?_)), funLook F, F.bindsA fun _ _ _ _ _ _ us hl => match us, hl with | [_, _], _ => rfl⟩, F.kp, T.g_law_pick⟩
  · obtain ⟨p, n, ns, rfl, _⟩ := h
    rfl
  · refine ⟨_, PSs.nox (pss_cons (ps_set (i := 2) sc_law_pick.nd rfl (Or.inl rfl) (pe_ix ix_list (pv 0) pe_int (fun _ _ => rfl)))
      (pss_cons (ps_asg (pe_op op_add (pv 2) pe_int) (pg_sub (pv 0) pe_int set_list))
      (pss_cons (ps_if (pt_cmpR op_eq (pe_ix ix_list (pv 0) pe_int (fun _ _ => rfl)) (pe_callB call_len rfl T.n_len PySem.boot_len (pa_cons (pv 0) pa_nil)) (nomark _))
        (pss_one (ps_asg pe_int (pg_sub (pv 0) pe_int set_list))) pss_nil)
      (pss_one (ps_ret (pe_op op_mod (pe_callTy call_int1 rfl T.n_int boot_int (pa_cons (pe_ix ix_list (pv 0) (pv 2) (fun _ _ => rfl)) pa_nil)) (pv 1))))))), ?_⟩
    exact pick_pure h

/-! ### runs_of, by hand: a list of lists whose last one is open -/
abbrev N_runs_of : List Str := ["marks", "numbers", "margins", "mark", "row"]
abbrev P_runs_of : List Str := ["marks"]
theorem sc_runs_of : FnScope N_runs_of P_runs_of (defScope s_runs_of) := ⟨rfl, rfl, rfl, by decide +kernel, rfl, by decide +kernel, by decide +kernel⟩
/-- the names' data: the closed runs, the open one at p -/
def eRun (M : D) (num : List D) (ds : List D) (v : V) (mk : Option S) : PEnv := [some (.v M), some (.o num), some (.o (ds ++ [.vl v])), mk, none]
/-- what the names hold: the open run's list lies at p, lent -/
structure RunAt (K : PySem.W.Frag) (F Hs : Hp) (σ : St) (H : Hp) (M : D) (num ds xs : List D) (mk : Option S) (p : Addr) (vs : List V) : Prop where
  fp : F p = none
  rel : RelS K (upd F p (.lst vs)) Hs σ H (eRun M num ds (.ref p) mk)
  its : Reps K Hs vs xs
/-- a list that is lent may be changed -/
theorem RelS.turn {K : PySem.W.Frag} {F Hs H : Hp} {σ : St} {ε : PEnv} {p : Addr} {o o' : HO} (hF : F p = none) (R : RelS K (upd F p o) Hs σ H ε) : RelS K (upd F p o') Hs σ (upd H p o') ε := by
  obtain ⟨hH, hp⟩ := R.fr p o upd_same
  refine ⟨fun a u q => ?_, fun a u q => ?_, R.len, fun j t q => ?_, R.ds⟩
  · rw [upd_ne (ne_of_none q hp)]
    exact R.ex a u q
  · by_cases ha : a = p
    · subst ha
      rw [upd_same] at q ⊢
      cases q
      exact ⟨rfl, hp⟩
    · rw [upd_ne ha] at q ⊢
      exact R.fr a u (by rw [upd_ne ha]; exact q)
  · have z := R.sl j t q
    have nF : ∀ b, upd F p o b = none → b ≠ p ∧ upd F p o' b = none := fun b e => by
      by_cases hb : b = p
      · subst hb
        rw [upd_same] at e
        cases e
      · rw [upd_ne hb] at e
        exact ⟨hb, by rw [upd_ne hb]; exact e⟩
    cases t with
    | v d' => exact z
    | o ds =>
      obtain ⟨b, vs, h1, h2, h3, h4, h5⟩ := z
      obtain ⟨n1, n2⟩ := nF b h3
      exact ⟨b, vs, h1, h2, n2, by rw [upd_ne n1]; exact h4, h5⟩
    | od ds =>
      obtain ⟨b, vs, h1, h2, h3, h4, h5, h6⟩ := z
      obtain ⟨n1, n2⟩ := nF b h3
      exact ⟨b, vs, h1, h2, n2, by rw [upd_ne n1]; exact h4, h5, h6⟩
theorem dropLast_snoc {α : Type} : ∀ {l : List α} {a : α}, l[l.length - 1]? = some a → l.dropLast ++ [a] = l
  | [], _, h => by simp at h
  | [x], a, h => by
    have : x = a := by simpa using h
    rw [this] <;> rfl
  | x :: y :: r, a, h => by
    have h2 : (y :: r)[(y :: r).length - 1]? = some a := by
      simp only [List.length_cons, Nat.add_sub_cancel] at h ⊢
      rw [List.getElem?_cons_succ] at h
      exact h
    show x :: ((y :: r).dropLast ++ [a]) = _
    rw [dropLast_snoc h2]
/-- the open list is closed: it stands still from now on -/
theorem RelS.shut {K : PySem.W.Frag} {F Hs H : Hp} {σ : St} {ε : PEnv} {p : Addr} {i : Nat} {vs : List V} {xs ds : List D} (hF : F p = none) (R : RelS K (upd F p (.lst vs)) Hs σ H ε) (r : Reps K Hs vs xs) (e : ε[i]? = some (some (.o (ds ++ [.vl (.ref p)])))) :
    RelS K F (upd Hs p (.lst vs)) σ H (ε.set i (some (.o (ds ++ [.lst xs])))) := by
  obtain ⟨R1, hH, hp, nb⟩ := R.back hF
  have R2 := R1.adopt hH hp hF nb
  have ex : Ex Hs (upd Hs p (.lst vs)) := ex_upd hp
  obtain ⟨q, ws, h1, h2, h3, h4, h5⟩ := R2.sl i _ e
  have r2 : Reps K (upd Hs p (.lst vs)) ws (ds ++ [.lst xs]) := by
    obtain ⟨v, l1, l2, l3⟩ := h5.last
    cases l2
    have ew : ws.dropLast ++ [V.ref p] = ws := dropLast_snoc l1
    rw [← ew]
    exact l3.append (.cons (.lst upd_same (r.mono ex)) .nil)
  have z := R2.change (o' := .lst ws) (s' := .o (ds ++ [.lst xs])) e rfl rfl h1 h2 h3 ⟨q, ws, h1, h2, h3, upd_same, r2⟩
  have eu : upd H q (.lst ws) = H := by
    funext b
    by_cases hb : b = q
    · rw [hb, upd_same, h4]
    · rw [upd_ne hb]
  rw [eu] at z
  exact z
/-- the names behind some turns: what is closed, what is open -/
def RunI (K : PySem.W.Frag) (F Hs0 : Hp) (M : D) (s : RS) (σ : St) (H : Hp) : Prop := ∃ (Hc : Hp) (p : Addr) (vs : List V) (mk : Option S), Ex Hs0 Hc ∧ F p = none ∧
  RelS K (upd F p (.lst vs)) Hc σ H (eRun M (s.1.map D.int) (s.2.1.map fun r : List Int => D.lst (r.map D.int)) (.ref p) mk) ∧ Reps K Hc vs (s.2.2.map D.int)
def retRuns : PTS := (ysRet (yTup (ylCons (yVar 1) (ylCons (yNew (ynLc (yiSeq (yVar 2)) (gN 4) yYes (yCall φ_gap Ξ0 (ylCons (yVar 4) ylNil)) [4])) ylNil))))
/-- what runs_of gives back -/
def rsD (ms : List Mk) : D := .tup [.lst ((rsOf ms).1.map D.int), .lst (((rsOf ms).2.1 ++ [(rsOf ms).2.2]).map fun r => .int (gapI r))]
def r_runs_of (Ξ : Xi) : PTS := fun Δ ε => ∃ M ms, isL M (ms.map Mk.d) ∧ ms.length ≤ 1000000 ∧ ε = [some (.v M), none, none, none, none] ∧ ∀ ε', Δ.rt (rsD ms) ε'
theorem rs_len (ms : List Mk) : (rsOf ms).1.length = ms.length ∧ (rsOf ms).2.1.length ≤ ms.length ∧ (∀ r ∈ (rsOf ms).2.1, r.length ≤ ms.length) ∧ (rsOf ms).2.2.length ≤ ms.length := by
  have key : ∀ (ms : List Mk) (s : RS) (k : Nat), s.1.length = k → s.2.1.length ≤ k → (∀ r ∈ s.2.1, r.length ≤ k) → s.2.2.length ≤ k →
      (ms.foldl rsStep s).1.length = k + ms.length ∧ (ms.foldl rsStep s).2.1.length ≤ k + ms.length ∧ (∀ r ∈ (ms.foldl rsStep s).2.1, r.length ≤ k + ms.length) ∧ (ms.foldl rsStep s).2.2.length ≤ k + ms.length := by
    intro ms
    induction ms with
    | nil => intro s k a b c d; exact ⟨a, b, c, d⟩
    | cons m r ih =>
      intro s k a b c d
      obtain ⟨n, cl, op⟩ := s
      dsimp only at a b c d
      have z := ih (rsStep (n, cl, op) m) (k + 1) (by show (n ++ [_]).length = _; rw [List.length_append, a] <;> rfl) (by cases m <;> simp only [rsStep, List.length_append, List.length_singleton] <;> omega)
        (fun x hx => by
          cases m with
          | br _ =>
            rcases List.mem_append.mp (show x ∈ cl ++ [op] from hx) with hx | hx
            · have := c x hx; omega
            · have : x = op := by simpa using hx
              rw [this]; omega
          | op _ _ => have := c x hx; omega
          | cl _ _ => have := c x hx; omega
          | mv _ => have := c x hx; omega) (by cases m <;> simp only [rsStep, List.length_append, List.length_singleton, List.length_nil] <;> omega)
      rw [List.length_cons, show k + (r.length + 1) = k + 1 + r.length by omega]
      exact z
  have z := key ms ([], [], []) 0 rfl (Nat.le_refl _) (fun _ h => by cases h) (Nat.le_refl _)
  rw [Nat.zero_add] at z
  exact z
theorem rs_snoc (ms : List Mk) (m : Mk) : rsOf (ms ++ [m]) = rsStep (rsOf ms) m := by
  unfold rsOf
  rw [List.foldl_append] <;> rfl
theorem row_at {rows : List (List Int)} {i : Nat} {d : D} (h : (rows.map fun r : List Int => D.lst (r.map D.int))[i]? = some d) : ∃ r, rows[i]? = some r ∧ d = .lst (r.map D.int) := by
  rw [List.getElem?_map] at h
  cases e : rows[i]? with
  | none => rw [e] at h; cases h
  | some r => rw [e] at h; exact ⟨r, rfl, (Option.some.inj h).symm⟩
theorem ret_runs {M : D} {v0 : V} {ms : List Mk} {mk : Option S} {Δ : PEnds} (hml : ms.length ≤ 1000000) (hrt : ∀ ε', Δ.rt (rsD ms) ε') :
    retRuns Δ ((eRun M ((rsOf ms).1.map D.int) ((rsOf ms).2.1.map fun r : List Int => D.lst (r.map D.int)) v0 mk).set 2 (some (.o (((rsOf ms).2.1.map fun r : List Int => D.lst (r.map D.int)) ++ [.lst ((rsOf ms).2.2.map D.int)])))) := by
  obtain ⟨b1, b2, b3, b4⟩ := rs_len ms
  unfold rsD at hrt
  generalize rsOf ms = s at *
  obtain ⟨num, cl, op⟩ := s
  dsimp only at *
  have er : (cl.map fun r : List Int => D.lst (r.map D.int)) ++ [.lst (op.map D.int)] = (cl ++ [op]).map fun r : List Int => D.lst (r.map D.int) := by rw [List.map_append] <;> rfl
  rw [er]
  have hr : ∀ r ∈ cl ++ [op], r.length ≤ 1000000 := fun r hr => by
    rcases List.mem_append.mp hr with hr | hr
    · have := b3 r hr; omega
    · have : r = op := by simpa using hr
      rw [this]; omega
  have hl : (cl ++ [op]).length ≤ 1000001 := by rw [List.length_append]; show cl.length + 1 ≤ _; omega
  generalize cl ++ [op] = rows at *
  refine ⟨⟨trivial, trivial⟩, by rw [List.length_map]; omega, fun i acc => acc = (rows.take i).map fun r => .int (gapI r), rfl, fun i d acc hi hd hla w => ?_, fun acc hla w => ?_⟩
  · obtain ⟨r, hri, rfl⟩ := row_at hd
    subst w
    refine ⟨r, rfl, hr r (List.mem_of_getElem? hri), rfl, ?_⟩
    show _ = (rows.take (i + 1)).map fun r => D.int (gapI r)
    rw [List.take_add_one, hri, List.map_append] <;> rfl
  · rw [List.length_map, List.take_length] at w
    subst w
    exact gd_of (show 2 ≤ 16777216 from Nat.le_of_ble_eq_true rfl) (hrt _)
section
variable {X : Cx} {W : WX} {Ξ : Xi} {s0 s1 sa sb1 sb2 sR : Stmt} {tg it c1 c2 eM eA : Expr} {sl : List Nat} {pi1 pi2 pf : Pos}
theorem yss_runs (hp : PassesOwn (model X.prog X.w) X.A X.env X.xe) (hc : X.calm = true) (h0 : YS X W Ξ s0 (ysAsgO (ynLst ylNil) 1)) (h1 : PS X s1 (tAsg (tLst (tCons (tLst tNil) tNil)) (gName 2)))
    (hi : YI X W Ξ tg it (yiSeq (yVar 0))) (hg : YG X tg (gN 3) sl) (ha : YS X W Ξ sa (ysApp 1 (yBin oSub (yCB oLen (ylCons (yVar 2) ylNil)) (yC (.int 1)))))
    (hc1 : YT X W Ξ c1 (yBinT (oEq false) (yIx (yVar 3) (yC (.int 0))) (yC (.str ("break" : Str))))) (hb1 : PS X sb1 (tDrop (tBM X.K "list" rAppend (tVar 2) (tCons (tLst tNil) tNil))))
    (hc2 : YT X W Ξ c2 (yBinT (oEq true) (yIx (yVar 3) (yC (.int 0))) (yC (.str ("move" : Str))))) (hM : YE X W Ξ eM (yIx (yVar 2) (yNeg (yC (.int 1))))) (hA : YE X W Ξ eA (yIx (yVar 3) (yC (.int 2))))
    (hb2 : ∀ to ta, PE X eM to → PA X [eA] ta → PS X sb2 (tDrop (tBM X.K "list" rAppend to ta))) (hA1 : ∀ t, PE X eA t → PA X [eA] (tCons t tNil)) (hr : YS X W Ξ sR retRuns) (hs : ∀ x, foldedSetIterable it X.env x = pure x) :
    YSs X W Ξ [s0, s1, .For tg it [sa, .If c1 [sb1] [.If c2 [sb2] [] pi2] pi1] [] pf, sR] (r_runs_of Ξ) := by
  obtain ⟨t0, p0, k0⟩ := h0.ex
  obtain ⟨wi, pit, ki⟩ := hi.ex
  obtain ⟨tg', pg, kg⟩ := hg.ex
  obtain ⟨ta, pa, ka⟩ := ha.ex
  obtain ⟨tc1, pc1, kc1⟩ := hc1.ex
  obtain ⟨tc2, pc2, kc2⟩ := hc2.ex
  obtain ⟨tM, pM, kM⟩ := hM.ex
  obtain ⟨tA, pA, kA⟩ := hA.ex
  obtain ⟨tR, pR, kR⟩ := hr.ex
  refine ⟨_, pss_cons p0 (pss_cons h1 (pss_cons (ps_for hp hc pit pg (pss_cons pa (pss_one (ps_if pc1 (pss_one hb1) (pss_one (ps_if pc2 (pss_one (hb2 _ _ pM (hA1 _ pA))) pss_nil))))) hs) (pss_one pR))), fun F Hs σ H ε Δ Dd R L q kk => ?_⟩
  obtain ⟨M, ms, hM, hml, rfl, hrt⟩ := q
  -- numbers = []
  refine k0 F Hs σ H _ { nx := fun ε' => ε' = [some (.v M), some (.o []), none, none, none], rt := fun _ _ => False } _ R L rfl ⟨fun σ1 H1 Hs1 ε1 e1 R1 q1 => ?_, fun _ _ _ _ _ _ _ _ _ z => z.elim, fun _ _ _ _ _ _ z => z.elim, fun _ _ _ _ _ _ z => z.elim⟩
  subst q1
  -- margins = [[]]
  refine ⟨by rw [sizeLine_eq]; exact Nat.zero_le _, fun q hq => ⟨show 1 ≤ sizeLine by rw [sizeLine_eq]; decide, fun p2 hp2 => ?_⟩⟩
  obtain ⟨n1, n2, n3⟩ := R1.nobody hq
  have R2 := ((R1.lay (o := .lst []) hq).lend upd_same n1 n3)
  obtain ⟨m1, m2, m3⟩ := R2.nobody hp2
  have R3 := storeO_of (R2.lay (o := .lst [.ref q]) hp2) 2 upd_same m1 m2 m3 (.cons (.vl _) .nil)
  have lent : ∀ {q : Addr} {o : HO} {Hx : Hp}, F q = none → Ex Hs Hx → Lk X.K (upd F q o) Hx W Ξ := fun {q o Hx} hF ex c σ' H' Hs' ε' xc e' R' => L c σ' H' Hs' ε' xc (ex.trans e') (R'.back hF).1
  refine ki _ Hs1 _ _ _ (fun ds ε' => ds = ms.map Mk.d ∧ ε' = eRun M [] [] (.ref q) none) _ R3 (lent n2 e1) ?_ fun J H4 Hs4 ds4 ε4 e4 R4 sq q4 => ?_
  · rcases hM with rfl | rfl
    · exact ⟨rfl, rfl⟩
    · exact ⟨rfl, rfl⟩
  obtain ⟨rfl, rfl⟩ := q4
  have e14 : Ex Hs Hs4 := e1.trans e4
  refine ⟨fun i m σ H => m = ms.length - i ∧ i ≤ ms.length ∧ RunI X.K F Hs4 M (rsOf (ms.take i)) σ H, ⟨ms.length, rfl, Nat.zero_le _, Hs4, q, [], none, Evl.Ex.refl _, n2, R4, .nil⟩, ?_⟩
  rintro i m σ5 H5 ⟨rfl, hil, Hc, p, vs, mk, ec, fp, R5, rs5⟩
  have sl := sq.stop
  have sg := sq.go
  have sy := sq.yld
  rw [List.length_map] at sl sg sy
  by_cases hlt : i < ms.length
  · refine .inr ⟨sg i H5 (ec.trans R5.ex) hlt, fun σ' H' => RunI X.K F Hs4 M (rsOf (ms.take (i + 1))) σ' H', fun σ' H' n' => ⟨ms.length - (i + 1), by omega, rfl, hlt, n'⟩, fun x H6 y => ?_⟩
    obtain ⟨Hc6, d, e6, R6, hd, rx⟩ := sy i _ Hc σ5 H5 _ x H6 ec R5 hlt y
    obtain ⟨mk', hmk, rfl⟩ : ∃ mk', ms[i]? = some mk' ∧ d = mk'.d := by
      rw [List.getElem?_map] at hd
      cases z : ms[i]? with
      | none => rw [z] at hd; cases hd
      | some a => rw [z] at hd; exact ⟨a, rfl, (Option.some.inj hd).symm⟩
    have tk : ms.take (i + 1) = ms.take i ++ [mk'] := by rw [List.take_add_one, hmk] <;> rfl
    rw [tk, rs_snoc]
    obtain ⟨b1, b2, b3, b4⟩ := rs_len (ms.take i)
    have bt : (ms.take i).length ≤ ms.length := by rw [List.length_take]; omega
    generalize rsOf (ms.take i) = s at *
    obtain ⟨num, cl, op⟩ := s
    dsimp only at b1 b2 b3 b4 R5 R6 rs5
    refine kg _ Hc6 σ5 H6 _ x mk'.d (fun ε' => ε' = eRun M (num.map D.int) (cl.map fun r : List Int => D.lst (r.map D.int)) (.ref p) (some (.v mk'.d))) _ R6 rx rfl fun σ7 H7 Hc7 ε7 e7 _ R7 q7 => ?_
    subst q7
    have e37 : Ex Hs Hc7 := ((e14.trans ec).trans e6).trans e7
    have ex7 : Ex Hs4 Hc7 := (ec.trans e6).trans e7
    -- numbers.append(len(margins) - 1)
    refine ka _ Hc7 σ7 H7 _ { nx := fun ε' => ε' = eRun M ((num ++ [(cl.length : Int)]).map D.int) (cl.map fun r : List Int => D.lst (r.map D.int)) (.ref p) (some (.v mk'.d)), rt := fun _ _ => False } _ R7 (lent fp e37) ?_ ⟨fun σ8 H8 Hc8 ε8 e8 R8 q8 => ?_, fun _ _ _ _ _ _ _ _ _ z => z.elim, fun _ _ _ _ _ _ z => z.elim, fun _ _ _ _ _ _ z => z.elim⟩
    · refine gd_of (show (num.map D.int).length < 16777216 by rw [List.length_map]; omega) ?_
      have el : (((cl.map fun r : List Int => D.lst (r.map D.int)) ++ [D.vl (.ref p)]).length : Int) - 1 = (cl.length : Int) := by
        rw [List.length_append, List.length_map]
        show ((cl.length + 1 : Nat) : Int) - 1 = _
        omega
      show [some (S.v M), some (S.o (num.map D.int ++ [.int ((((cl.map fun r : List Int => D.lst (r.map D.int)) ++ [D.vl (.ref p)]).length : Int) - 1)])), _, _, _] = _
      rw [el]
      show _ = eRun _ _ _ _ _
      rw [List.map_append] <;> rfl
    subst q8
    have e38 : Ex Hs Hc8 := e37.trans e8
    have ex8 : Ex Hs4 Hc8 := ex7.trans e8
    have r8 : Reps X.K Hc8 vs (op.map D.int) := rs5.mono ((e6.trans e7).trans e8)
    refine kc1 _ Hc8 σ8 H8 _ (fun b ε' => b = isBr mk' ∧ ε' = eRun M ((num ++ [(cl.length : Int)]).map D.int) (cl.map fun r : List Int => D.lst (r.map D.int)) (.ref p) (some (.v mk'.d))) _ R8 (lent fp e38) ?_ fun b H9 Hc9 ε9 e9 R9 q9 => ?_
    · cases mk' with
      | op _ _ => exact ⟨w_open_break, rfl⟩
      | cl _ _ => exact ⟨w_close_break, rfl⟩
      | br _ => exact ⟨w_break_break, rfl⟩
      | mv _ => exact ⟨w_move_break, rfl⟩
    obtain ⟨rfl, rfl⟩ := q9
    have e39 : Ex Hs Hc9 := e38.trans e9
    have ex9 : Ex Hs4 Hc9 := ex8.trans e9
    have r9 := r8.mono e9
    have hbr : ∀ m : Mk, isBr m = true → ∃ r, m = .br r := fun m h => by cases m <;> first | cases h; done | exact ⟨_, rfl⟩
    cases hb : isBr mk' with
    | true =>
      obtain ⟨r, rfl⟩ := hbr mk' hb
      rw [if_pos rfl]
      obtain ⟨p0, ws, g1, g2, g3, g4, g5⟩ := R9.sl 2 _ rfl
      have nw := g5.len
      rw [List.length_append, List.length_map] at nw
      refine ⟨_, g1, .inl ⟨rfl, _, SqL.of g4⟩, by rw [sizeLine_eq]; exact Nat.zero_le _, fun q2 hq2 => ?_⟩
      have R10 := RelS.shut (ds := cl.map fun r : List Int => D.lst (r.map D.int)) (i := 2) fp R9 r9 rfl
      have e10 : Ex Hc9 (upd Hc9 p (.lst vs)) := ex_upd (R9.fr p _ upd_same).2
      obtain ⟨n10, n11, n12⟩ := R10.nobody hq2
      have R11 := (R10.lay (o := .lst []) hq2).lend upd_same n10 n12
      obtain ⟨p1, ws1, h1, h2, h3, h4, h5⟩ := R11.sl 2 _ rfl
      have h4' := h4
      rw [h1] at g1
      cases g1
      have ne : p0 ≠ q2 := fun z => by
        rw [z, upd_same] at h3
        cases h3
      rw [upd_ne ne, g4] at h4
      cases h4
      refine ⟨p0, ws, .ref q2, rfl, rfl, h4', by rw [sizeLine_eq]; show ws.length < _; have : [D.vl (V.ref p)].length = 1 := rfl; omega, ?_⟩
      refine ⟨_, q2, [], some (.v (Mk.br r).d), ex9.trans e10, n11, ?_, .nil⟩
      have z := R11.change (o' := .lst (ws ++ [.ref q2])) (s' := .o (((cl.map fun r : List Int => D.lst (r.map D.int)) ++ [.lst (op.map D.int)]) ++ [.vl (.ref q2)])) (i := 2) rfl rfl rfl h1 h2 h3 ⟨p0, _, h1, h2, h3, upd_same, h5.append (.cons (.vl _) .nil)⟩
      have eE : (cl ++ [op]).map (fun r : List Int => D.lst (r.map D.int)) = (cl.map fun r : List Int => D.lst (r.map D.int)) ++ [.lst (op.map D.int)] := by rw [List.map_append] <;> rfl
      show RelS _ _ _ _ _ (eRun M ((num ++ [(cl.length : Int)]).map D.int) ((cl ++ [op]).map fun r : List Int => D.lst (r.map D.int)) (.ref q2) _)
      rw [eE]
      exact z
    | false =>
      rw [if_neg Bool.false_ne_true]
      refine kc2 _ Hc9 σ8 H9 _ (fun b ε' => b = !(isMv mk') ∧ ε' = eRun M ((num ++ [(cl.length : Int)]).map D.int) (cl.map fun r : List Int => D.lst (r.map D.int)) (.ref p) (some (.v mk'.d))) _ R9 (lent fp e39) ?_ fun b H10 Hc10 ε10 e10 R10 q10 => ?_
      · cases mk' with
        | op _ _ => exact ⟨congrArg (!·) w_open_move, rfl⟩
        | cl _ _ => exact ⟨congrArg (!·) w_close_move, rfl⟩
        | br _ => cases hb
        | mv _ => exact ⟨congrArg (!·) w_move_move, rfl⟩
      obtain ⟨rfl, rfl⟩ := q10
      have e310 : Ex Hs Hc10 := e39.trans e10
      have ex10 : Ex Hs4 Hc10 := ex9.trans e10
      have r10 := r9.mono e10
      have last : ∀ m : Mk, isBr m = false → isMv m = true → rsStep (num, cl, op) m = (num ++ [(cl.length : Int)], cl, op) := fun m h h2 => by cases m <;> first | cases h2; done | rfl
      have grow : ∀ m : Mk, isBr m = false → isMv m = false → ∃ n x, rsStep (num, cl, op) m = (num ++ [(cl.length : Int)], cl, op ++ [x]) ∧ ∃ w, m.d = .tup [w, n, .int x] := fun m h h2 => by cases m <;> first | cases h; done | cases h2; done | exact ⟨_, _, rfl, _, rfl⟩
      cases hm : isMv mk' with
      | true =>
        rw [last mk' hb hm, if_neg (show ¬ ((!true) = true) by decide)]
        exact ⟨Hc10, p, vs, _, ex10, fp, R10, r10⟩
      | false =>
        obtain ⟨nD, x, es, w, ed⟩ := grow mk' hb hm
        rw [es, if_pos (show (!false) = true from rfl)]
        have hat : atI ((cl.map fun r : List Int => D.lst (r.map D.int)) ++ [D.vl (.ref p)]) (-1) = some (.vl (.ref p)) := atI_m1 _ _
        refine kM _ Hc10 σ8 H10 _ (fun t ε' => t = .d (.vl (.ref p)) ∧ ε' = eRun M ((num ++ [(cl.length : Int)]).map D.int) (cl.map fun r : List Int => D.lst (r.map D.int)) (.ref p) (some (.v mk'.d))) _ R10 (lent fp e310) (opt_of hat ⟨rfl, rfl⟩) fun v1 H11 Hc11 t1 ε11 e11 R11 p11 q11 => ?_
        obtain ⟨rfl, rfl⟩ := q11
        have ev : v1 = .ref p := by cases (show Rep X.K Hc11 v1 (.vl (.ref p)) from p11); rfl
        subst ev
        have hp11 := (R11.fr p _ upd_same).1
        refine ⟨.inl ⟨rfl, _, SqL.of hp11⟩, ?_⟩
        have e311 : Ex Hs Hc11 := e310.trans e11
        refine kA _ Hc11 σ8 H11 _ (fun t ε' => t = .d (.int x) ∧ ε' = eRun M ((num ++ [(cl.length : Int)]).map D.int) (cl.map fun r : List Int => D.lst (r.map D.int)) (.ref p) (some (.v mk'.d))) _ R11 (lent fp e311) ?_ fun v2 H12 Hc12 t2 ε12 e12 R12 p12 q12 => ?_
        · rw [ed]
          exact ⟨rfl, rfl⟩
        obtain ⟨rfl, rfl⟩ := q12
        have ev : v2 = .int x := by cases (show Rep X.K Hc12 v2 (.int x) from p12); rfl
        subst ev
        have r12 := r10.mono (e11.trans e12)
        have nv := r12.len
        rw [List.length_map] at nv
        refine ⟨p, vs, .int x, rfl, rfl, (R12.fr p _ upd_same).1, by rw [sizeLine_eq]; show vs.length < _; omega, ?_⟩
        refine ⟨Hc12, p, vs ++ [.int x], _, (ex10.trans e11).trans e12, fp, RelS.turn fp R12, ?_⟩
        show Reps _ _ _ ((op ++ [x]).map D.int)
        rw [List.map_append]
        exact r12.append (.cons (.int x) .nil)
  · have ei : i = ms.length := by omega
    subst ei
    rw [List.take_length] at R5 rs5
    refine .inl ⟨sl _ H5 (ec.trans R5.ex) (Nat.le_refl _), ?_⟩
    have R6 := RelS.shut (ds := (rsOf ms).2.1.map fun r : List Int => D.lst (r.map D.int)) (i := 2) fp R5 rs5 rfl
    have e6 : Ex Hs (upd Hc p (.lst vs)) := (e14.trans ec).trans (ex_upd (R5.fr p _ upd_same).2)
    refine kR F _ σ5 H5 _ Δ Dd R6 (L.mono e6) ?_ (kk.mono e6)
    exact ret_runs (M := M) (mk := mk) hml hrt
end
theorem len_runs_of (ds : List D) (Q : D → Prop) (E : Nat → Prop) (h : φ_runs_of ds Q E) : ds.length = 1 := by
  unfold φ_runs_of at h
  split at h <;> first | rfl | exact h.elim
theorem ok_runs_of (T : Txt w K mg) (C_gap : CallOk P w K mg base 1 "gap" P_gap φ_gap) : CallOk P w K mg base 2 "runs_of" P_runs_of φ_runs_of := by
  obtain ⟨fd, F⟩ := T.d_runs_of
  refine ⟨⟨fd, fun_ok F sc_runs_of len_runs_of r_runs_of (fun cdv A outer s H E Ξ hr => ?_) (fun ds Q' E' h => ?_), funLook F, F.bindsA fun _ _ _ _ _ _ us hl => match us, hl with | [_], _ => rfl⟩, F.kp, T.g_runs_of⟩
  · exact yss_runs (passes_of rfl) rfl (ysSetO 1 sc_runs_of.nd (yn_lst yl_nil)) (ps_set (i := 2) sc_runs_of.nd rfl (by first | exact Or.inl rfl | exact Or.inr rfl) (pe_lst (pa_cons (pe_lst pa_nil) pa_nil)))
      (yi_seq (ye_var 0)) (ygN 3 sc_runs_of.nd) (ysApp' 1 (ye_bin oy_sub (ye_callB cy_len (by rfl) T.n_len PySem.boot_len (yl_cons (ye_var 2) yl_nil)) ye_int))
      (yt_cmp (oy_eq hr.units) (ye_ix (ye_var 3) ye_int) (yeGlS T.c_BREAK)) (ps_expr (pe_bm PySem.F.plainAttrs_list PySem.F.slot_list_append PySem.F.type_list_append mt_append (pe_var (i := 2) rfl (by first | exact Or.inl rfl | exact Or.inr (Or.inl rfl) | exact Or.inr (Or.inr rfl))) (pa_cons (pe_lst pa_nil) pa_nil)))
      (yt_cmp (oy_ne hr.units) (ye_ix (ye_var 3) ye_int) (yeGlS T.c_MOVE)) (ye_ix (ye_var 2) (ye_neg ye_int)) (ye_ix (ye_var 3) ye_int)
      (fun to ta ho ha => ps_expr (pe_bm PySem.F.plainAttrs_list PySem.F.slot_list_append PySem.F.type_list_append mt_append ho ha)) (fun t ha => pa_cons ha pa_nil)
      (ys_ret (ye_tup (yl_cons (ye_var 1) (yl_cons (yn_lc (own := [(("row" : Str), 4)]) rfl sc_runs_of.nd (yi_seq (ye_var 2)) (blkOk_by (by rfl)) (fun _ _ _ _ _ => (ygN 4 sc_runs_of.nd)) (fun _ _ _ _ _ => yts_nil) (fun _ _ _ _ _ => (yeCall C_gap takes0 (hr.mono (by decide)) (yl_cons (ye_var 4) yl_nil)))).ye yl_nil)))) (by intro _; rfl)
  · unfold φ_runs_of at h
    split at h
    · obtain ⟨ms, h1, h2, h3⟩ := h
      exact ⟨_, ms, h1, h2, rfl, fun _ => h3⟩
    · exact h.elim

/-! ### _law_is_right, by hand: what is told is changed, and nobody sees it -/
/-- nothing of the names' own: another heap, that holds what stands still -/
theorem RelS.regrow {K : PySem.W.Frag} {F Hs Ht H H' : Hp} {σ : St} {ε : PEnv} (R : RelS K F Hs σ H ε) (hv : ∀ (i : Nat) (s : S), ε[i]? = some (some s) → s.own = false) (e1 : Ex Hs Ht) (e2 : Ex Ht H') (hf : ∀ p o, F p = some o → H' p = some o ∧ Ht p = none) : RelS K F Ht σ H' ε := by
  refine ⟨e2, hf, R.len, fun i s e => ?_, R.ds⟩
  have z := R.sl i s e
  cases s with
  | v d =>
    obtain ⟨v, h1, h2⟩ := z
    exact ⟨v, h1, h2.mono e1⟩
  | o ds => have := hv i _ e; cases this
  | od ds => have := hv i _ e; cases this
abbrev rIns : V → List V → Hp → VK → Prop := fun x vs H Q => ∃ (l : Addr) (xs : List V) (i : Int) (y : V), x = .ref l ∧ vs = [.int i, y] ∧ H l = some (.lst xs) ∧ xs.length < sizeLine ∧ 0 ≤ i ∧ i < 2 ^ 63 ∧ Q .non (upd H l (.lst (xs.take i.toNat ++ [y] ++ xs.drop i.toNat)))
def eRt (M due hd : D) (tn tl : Option S) : PEnv := [some (.v M), some (.v due), some (.v hd), tn, tl]
def toldD (pl : List D) (tot : Int) : D := .tup [.str "told", .tup [.lst pl, .int tot]]
/-- where what is told lies -/
structure ToldAt (K : PySem.W.Frag) (H : Hp) (v : V) (p : Addr) (pv : List V) : Prop where
  ex : ∃ b1 b2 w1 w2 u, v = .ref b1 ∧ SqT K H b1 [u, .ref b2] ∧ SqT K H b2 [w1, w2] ∧ w1 = .ref p
  at_ : H p = some (.lst pv)
theorem ToldAt.change {K : PySem.W.Frag} {H : Hp} {v : V} {p : Addr} {pv qv : List V} (h : ToldAt K H v p pv) : ToldAt K (upd H p (.lst qv)) v p qv := by
  obtain ⟨⟨b1, b2, w1, w2, u, e1, s1, s2, e2⟩, hp⟩ := h
  have up : ∀ {b : Addr} {xs : List V}, SqT K H b xs → SqT K (upd H p (.lst qv)) b xs := fun {b xs} s => by
    rcases s with (s | ⟨o, s⟩) | s
    · exact .inl (.inl (by rw [upd_ne (fun z => by rw [z, hp] at s; cases s)]; exact s))
    · exact .inl (.inr ⟨o, by rw [upd_ne (fun z => by rw [z, hp] at s; cases s)]; exact s⟩)
    · exact .inr s
  exact ⟨⟨b1, b2, w1, w2, u, e1, up s1, up s2, e2⟩, upd_same⟩
theorem told_at {K : PySem.W.Frag} {Hs : Hp} {v : V} {pl : List D} {tot : Int} (rp : Rep K Hs v (toldD pl tot)) : ∃ p pv, ToldAt K Hs v p pv ∧ Reps K Hs pv pl := by
  cases rp with
  | tup s1 r1 =>
    cases r1 with
    | cons r1 r2 =>
      cases r2 with
      | cons r2 r3 =>
        cases r3
        cases r2 with
        | tup s2 r2 =>
          cases r2 with
          | cons w1 r4 =>
            cases r4 with
            | cons w2 r5 =>
              cases r5
              cases w1 with
              | lst hp rs => exact ⟨_, _, ⟨⟨_, _, _, _, _, rfl, s1, s2, rfl⟩, hp⟩, rs⟩
theorem ToldAt.up {K : PySem.W.Frag} {H H' : Hp} {v : V} {p : Addr} {pv : List V} (h : ToldAt K H v p pv) (e : Ex H H') : ToldAt K H' v p pv := by
  obtain ⟨⟨b1, b2, w1, w2, u, e1, s1, s2, e2⟩, hp⟩ := h
  exact ⟨⟨b1, b2, w1, w2, u, e1, Evl.ex_t e s1, Evl.ex_t e s2, e2⟩, e _ _ hp⟩
/-- without the locked list -/
theorem told_less {K : PySem.W.Frag} {Hs : Hp} {a : Addr} {o : Obj} {xs : List V} {v : V} {pl : List D} {tot : Int} (ha : Hs a = some (.frz o (.lst xs))) (hn : noLsts pl = true) (rp : Rep K Hs v (toldD pl tot)) : Rep K (fun b => if b = a then none else Hs b) v (toldD pl tot) := by
  have tl : ∀ {b : Addr} {ys : List V}, SqT K Hs b ys → SqT K (fun b => if b = a then none else Hs b) b ys := fun {b ys} s => by
    rcases s with (s | ⟨o, s⟩) | s
    · exact .inl (.inl (by show (if b = a then none else Hs b) = _; rw [if_neg (fun z => by rw [z, ha] at s; cases s)]; exact s))
    · exact .inl (.inr ⟨o, by show (if b = a then none else Hs b) = _; rw [if_neg (fun z => by rw [z, ha] at s; cases s)]; exact s⟩)
    · exact .inr s
  have nl : Ex (noL Hs) (fun b => if b = a then none else Hs b) := fun b u e => by
    show (if b = a then none else Hs b) = _
    have e2 := noL_ex b u e
    rw [if_neg]
    · exact e2
    · intro z
      subst z
      unfold noL at e
      rw [ha] at e
      cases e
  cases rp with
  | tup s1 r1 =>
    cases r1 with
    | cons r1 r2 =>
      cases r2 with
      | cons r2 r3 =>
        cases r3
        cases r1
        cases r2 with
        | tup s2 r2 =>
          cases r2 with
          | cons w1 r4 =>
            cases r4 with
            | cons w2 r5 =>
              cases r5
              cases w2
              cases w1 with
              | lst hp rs =>
                refine .tup (tl s1) (.cons (.str _) (.cons (.tup (tl s2) (.cons (.lst ?_ ((reps_noL rs hn).mono nl)) (.cons (.int _) .nil))) .nil))
                show (if _ = a then none else Hs _) = _
                rw [if_neg (fun z => by rw [z, ha] at hp; cases hp)]
                exact hp
def r_right (φp φs φl φt : Spec) (Ξ : Xi) : PTS := fun Δ ε => ∃ (M pl : List D) (tot : Int) (due : D), noLsts M = true ∧ noLsts pl = true ∧ pl.length < 1000000 ∧ M.length ≤ 16777216 ∧ ε = [some (.v (.lst M)), none, none, none, none] ∧
  (∀ Q E, Q due → φp [.lst M] Q E) ∧ φt [.str "runs", .frl M] (fun d => d = toldD pl tot) (fun _ => False) ∧ (∀ Q E, Q (.bl true) → φs [toldD pl tot, .tup [.str "told", due]] Q E) ∧
  (∀ Q E, Q (.bl true) → φl [.lst M, .lst pl] Q E) ∧ (∀ Q E, Q (.bl true) → φs [.lst M, .lst M] Q E) ∧ ∀ ε', Δ.rt (.bl true) ε'
section
variable {X : Cx} {W : WX} {Ξ : Xi} {φp φs φl φt : Spec} {s0 sT sF sA sB sR : Stmt} {tg it ec : Expr} {sl : List Nat} {pi pf : Pos} {Et : St → XK}
theorem yss_right (hp : PassesOwn (model X.prog X.w) X.A X.env X.xe) (hc : X.calm = true) (h0 : YS X W Ξ s0 (ysPar 1 2 (yxE (yCall φp Ξ (ylCons (yVar 0) ylNil))) (yxE (yNew (ynCB oListOf (ylCons (yVar 0) ylNil))))))
    (hi : YI X W Ξ tg it (yiRg1 (ylCons (yC (.int 2)) ylNil))) (hg : YG X tg (gN 3) sl) (hT : PS X sT (tAsg (tCallS (spLock X.K φt) Et (tCons (tC (.str "runs")) (tCons (tVar 2) tNil))) (gName 4)))
    (hI : YT X W Ξ ec (yOr (yNot (yTru (yCall φs Ξ (ylCons (yVar 4) (ylCons (yTup (ylCons (yC (.str ("told" : Str))) (ylCons (yVar 1) ylNil))) ylNil))))) (yNot (yTru (yCall φl Ξ (ylCons (yVar 0) (ylCons (yIx (yIx (yVar 4) (yC (.int 1))) (yC (.int 0))) ylNil))))))) (tF : TS) (hF : PS X sF tF)
    (hA : PS X sA (tDrop (tBM X.K "list" rAppend (tOp (rIxT X.K) (tOp (rIxT X.K) (tVar 4) (tC (.int 1))) (tC (.int 0))) (tCons (tC (.int 7)) tNil))))
    (hB : PS X sB (tDrop (tBM X.K "list" rIns (tOp (rIxT X.K) (tOp (rIxT X.K) (tVar 4) (tC (.int 1))) (tC (.int 0))) (tCons (tC (.int 0)) (tCons (tC (.int 8)) tNil)))))
    (hR : YS X W Ξ sR (ysRet (yCall φs Ξ (ylCons (yVar 2) (ylCons (yVar 0) ylNil))))) (hs : ∀ x, foldedSetIterable it X.env x = pure x) :
    YSs X W Ξ [s0, .For tg it [sT, .If ec [sF] [] pi, sA, sB] [] pf, sR] (r_right φp φs φl φt Ξ) := by
  obtain ⟨t0, p0, k0⟩ := h0.ex
  obtain ⟨wi, pit, ki⟩ := hi.ex
  obtain ⟨tg', pg, kg⟩ := hg.ex
  obtain ⟨tI, pI, kI⟩ := hI.ex
  obtain ⟨tR, pR, kR⟩ := hR.ex
  refine ⟨_, pss_cons p0 (pss_cons (ps_for hp hc pit pg (pss_cons hT (pss_cons (ps_if pI (pss_one hF) pss_nil) (pss_cons hA (pss_one hB)))) hs) (pss_one pR)), fun F Hs σ H ε Δ Dd R L q kk => ?_⟩
  obtain ⟨M, pl, tot, due, hM, hpl, hl, hMl, rfl, qp, qt, qs, ql, q2, hrt⟩ := q
  refine k0 F Hs σ H _ { nx := fun ε' => ε' = eRt (.lst M) due (.lst M) none none, rt := fun _ _ => False } _ R L ?_ ⟨fun σ1 H1 Hs1 ε1 e1 R1 q1 => ?_, fun _ _ _ _ _ _ _ _ _ z => z.elim, fun _ _ _ _ _ _ z => z.elim, fun _ _ _ _ _ _ z => z.elim⟩
  · exact qp _ _ rfl
  subst q1
  refine ki F Hs1 _ _ _ (fun ds ε' => ds = rangeD 0 2 ∧ ε' = eRt (.lst M) due (.lst M) none none) _ R1 (L.mono e1) ?_ fun J H4 Hs4 ds4 ε4 e4 R4 sq q4 => ?_
  · exact gd_of (show smallB 2 = true from rfl) ⟨rfl, rfl⟩
  obtain ⟨rfl, rfl⟩ := q4
  have e14 : Ex Hs Hs4 := e1.trans e4
  refine ⟨fun i m σ H => m = 2 - i ∧ i ≤ 2 ∧ ∃ Hc tn, Ex Hs4 Hc ∧ RelS X.K F Hc σ H (eRt (.lst M) due (.lst M) tn none) ∧ (tn = none ∨ ∃ d, tn = some (.v d)), ⟨2, rfl, Nat.zero_le _, Hs4, none, Evl.Ex.refl _, R4, .inl rfl⟩, ?_⟩
  rintro i m σ5 H5 ⟨rfl, hil, Hc, tn, ec, R5, htn⟩
  have sl := sq.stop
  have sg := sq.go
  have sy := sq.yld
  rw [rangeD_len] at sl sg sy
  by_cases hlt : i < 2
  · refine .inr ⟨sg i H5 (ec.trans R5.ex) hlt, fun σ' H' => ∃ Hc tn, Ex Hs4 Hc ∧ RelS X.K F Hc σ' H' (eRt (.lst M) due (.lst M) tn none) ∧ (tn = none ∨ ∃ d, tn = some (.v d)), fun σ' H' n' => ⟨2 - (i + 1), by omega, rfl, hlt, n'⟩, fun x H6 y => ?_⟩
    obtain ⟨Hc6, d, e6, R6, hd, rx⟩ := sy i _ Hc σ5 H5 _ x H6 ec R5 hlt y
    refine kg F Hc6 σ5 H6 _ x d (fun ε' => ε' = eRt (.lst M) due (.lst M) (some (.v d)) none) _ R6 rx rfl fun σ7 H7 Hc7 ε7 e7 _ R7 q7 => ?_
    subst q7
    have e37 : Ex Hs Hc7 := ((e14.trans ec).trans e6).trans e7
    have ex7 : Ex Hs4 Hc7 := (ec.trans e6).trans e7
    clear R5 R6 sl sg sy sq R4 R1 R
    -- told = _law_told('runs', handed)
    obtain ⟨vh, hs2, rh⟩ := R7.sl 2 _ rfl
    cases rh with
    | lst ha rsh =>
      rename_i a xs
      refine ⟨_, hs2, noL Hc7, a, xs, [.str "runs", .frl M], _, noL_ex.trans R7.ex, ?_, R7.ex _ _ ha, fun o => ?_, qt, fun d4 v H8 Hs8 o qd keep exc hsa hnew rp => ?_⟩
      · unfold noL
        rw [ha]
      · refine .cons (.str _) (.cons (.frl (.inl ⟨o, upd_same⟩) ((reps_noL rsh hM).mono (ex_upd ?_))) .nil)
        unfold noL
        rw [ha]
      subst qd
      have rp2 := told_less hsa hpl rp
      -- what stands still from now on
      let Ht : Hp := fun b => match Hc7 b with
        | some u => some u
        | none => Hs8 b
      have ht1 : Ex Hc7 Ht := fun b u e => by show (match Hc7 b with | some u => some u | none => Hs8 b) = _; rw [e]
      have hta : ∀ b, Hc7 b = none → b ≠ a := fun b e z => by rw [z, ha] at e; cases e
      have hnc : ∀ b u, Hc7 b = none → Hs8 b = some u → H7 b = none ∧ H8 b = some u := fun b u e e2 => by
        rcases hnew b u (hta b e) e2 with z | z
        · rw [noL_ex b u z] at e
          cases e
        · exact z
      have ht2 : Ex Ht H8 := fun b u e => by
        cases z : Hc7 b with
        | some u' =>
          rw [ht1 b u' z] at e
          cases e
          exact keep b u (R7.ex b u z)
        | none =>
          have e2 : Hs8 b = some u := by
            have e3 : (match Hc7 b with | some u => some u | none => Hs8 b) = some u := e
            rw [z] at e3
            exact e3
          exact (hnc b u z e2).2
      have htF : ∀ p o, F p = some o → H8 p = some o ∧ Ht p = none := fun p o e => by
        obtain ⟨f1, f2⟩ := R7.fr p o e
        refine ⟨keep p o f1, ?_⟩
        show (match Hc7 p with | some u => some u | none => Hs8 p) = none
        rw [f2]
        cases z : Hs8 p with
        | none => rfl
        | some u =>
          have := (hnc p u f2 z).1
          rw [f1] at this
          cases this
      have ex8 : Ex (fun b => if b = a then none else Hs8 b) Ht := fun b u e => by
        have e1 : (if b = a then none else Hs8 b) = some u := e
        by_cases hb : b = a
        · rw [if_pos hb] at e1; cases e1
        · rw [if_neg hb] at e1
          cases z : Hc7 b with
          | none =>
            show (match Hc7 b with | some u => some u | none => Hs8 b) = _
            rw [z]
            exact e1
          | some u' =>
            rw [ht1 b u' z]
            rcases hnew b u hb e1 with y | ⟨y, _⟩
            · rw [noL_ex b u y] at z
              exact z.symm
            · rw [R7.ex b u' z] at y
              cases y
      obtain ⟨p, pv, ta, rpl⟩ := told_at rp2
      have hp8 : Ht p = some (.lst pv) := ex8 _ _ ta.at_
      have hp7 : Hc7 p = none := by
        cases z : Hc7 p with
        | none => rfl
        | some u =>
          have y1 : Hs8 p = some (.lst pv) := by
            have y := ta.at_
            by_cases hb : p = a
            · have y2 : (if p = a then none else Hs8 p) = some (.lst pv) := y
              rw [if_pos hb] at y2; cases y2
            · have y2 : (if p = a then none else Hs8 p) = some (.lst pv) := y
              rw [if_neg hb] at y2; exact y2
          have hb : p ≠ a := fun q => by rw [q, hsa] at y1; cases y1
          rcases hnew p _ hb y1 with y | ⟨y, _⟩
          · unfold noL at y
            split at y <;> cases y
          · rw [R7.ex p u z] at y
            cases y
      have hv : ∀ (i : Nat) (s : S), (eRt (.lst M) due (.lst M) (some (.v d)) none)[i]? = some (some s) → s.own = false := fun i s e => by
        rcases i with _ | _ | _ | _ | _ | i <;> first | (cases e; rfl) | (cases e; done) | simp [eRt] at e
      have R8 : RelS X.K F Ht σ7 H8 _ := RelS.regrow R7 hv ht1 ht2 htF
      have R9 := R8.store (rp2.mono ex8) 4
      have e38 : Ex Hs Ht := e37.trans ht1
      -- the test
      refine kI F Ht _ H8 _ (fun b ε' => b = false ∧ ε' = eRt (.lst M) due (.lst M) (some (.v d)) (some (.v (toldD pl tot)))) _ R9 (L.mono e38) ?_ fun b H10 Ht10 ε10 e10 R10 q10 => ?_
      · refine gd_of (show 2 ≤ 16777216 from Nat.le_of_ble_eq_true rfl) (qs _ _ ?_)
        exact ql _ _ ⟨rfl, rfl⟩
      obtain ⟨rfl, rfl⟩ := q10
      rw [if_neg Bool.false_ne_true]
      -- told[1][0].append(7); told[1][0].insert(0, 8)
      have hlen7 : σ7.length = 5 := R7.len
      have h4σ : (σ7.set 4 (some v))[4]? = some (some v) := List.getElem?_set_self (by omega)
      have ta10 : ToldAt X.K H10 v p pv := ((ta.up ex8).up e10).up R10.ex
      have lpv : pv.length < 1000000 := by rw [rpl.len]; exact hl
      have look : ∀ {Hq : Hp} {qv : List V} {Q : VK}, ToldAt X.K Hq v p qv → Q (.ref p) Hq → tOp (rIxT X.K) (tOp (rIxT X.K) (tVar 4) (tC (.int 1))) (tC (.int 0)) (σ7.set 4 (some v)) Hq Q := fun {Hq qv Q} t q => by
        obtain ⟨⟨b1, b2, w1, w2, u, e1, s1, s2, e2⟩, _⟩ := t
        subst e2
        exact ⟨v, h4σ, b1, _, 1, .ref b2, e1, rfl, s1, rfl, b2, _, 0, .ref p, rfl, rfl, s2, rfl, q⟩
      refine look ta10 ⟨.inl ⟨rfl, _, SqL.of ta10.at_⟩, p, pv, .int 7, rfl, rfl, ta10.at_, by rw [sizeLine_eq]; show pv.length < _; omega, ?_⟩
      have ta11 := ta10.change (qv := pv ++ [.int 7])
      refine look ta11 ⟨.inl ⟨rfl, _, SqL.of ta11.at_⟩, p, pv ++ [.int 7], 0, .int 8, rfl, rfl, ta11.at_, by rw [sizeLine_eq, List.length_append]; show pv.length + 1 < _; omega, Int.le_refl _, by decide, ?_⟩
      refine ⟨Hc7, some (.v d), ex7, ?_, .inr ⟨d, rfl⟩⟩
      rw [upd_upd]
      have ex710 : Ex Hc7 H10 := (ht1.trans e10).trans R10.ex
      refine ⟨fun b u e => ?_, fun q o e => ?_, by rw [List.length_set]; exact R7.len, fun i s e => ?_, fun i j s t hij h1 h2 h3 h4 => ?_⟩
      · rw [upd_ne (fun z => by rw [z, hp7] at e; cases e)]
        exact ex710 b u e
      · obtain ⟨f1, f2⟩ := R10.fr q o e
        obtain ⟨f3, f4⟩ := R7.fr q o e
        refine ⟨?_, f4⟩
        rw [upd_ne (fun z => by rw [z, e10 _ _ hp8] at f2; cases f2)]
        exact f1
      · have hi : i ≠ 4 := fun z => by
          rw [z] at e
          cases e
        have z := R7.sl i s e
        have so := hv i s e
        cases s with
        | v dd =>
          obtain ⟨v', y1, y2⟩ := z
          exact ⟨v', by rw [List.getElem?_set_ne (Ne.symm hi)]; exact y1, y2⟩
        | o ds => cases so
        | od ds => cases so
      · have so := hv i s h1
        rw [h3] at so
        cases so
  · have ei : i = 2 := by omega
    subst ei
    refine .inl ⟨sl _ H5 (ec.trans R5.ex) (Nat.le_refl _), ?_⟩
    exact kR F Hc σ5 H5 _ Δ Dd R5 (L.mono (e14.trans ec)) (q2 _ _ (hrt _)) (kk.mono (e14.trans ec))
end

abbrev N_law_is_right : List Str := ["marks", "due", "handed", "turn", "told"]
abbrev P_law_is_right : List Str := ["marks"]
theorem sc_law_is_right : FnScope N_law_is_right P_law_is_right (defScope s_law_is_right) := ⟨rfl, rfl, rfl, by decide +kernel, rfl, by decide +kernel, by decide +kernel⟩
theorem len_law_is_right (ds : List D) (Q : D → Prop) (E : Nat → Prop) (h : φ_law_is_right ds Q E) : ds.length = 1 := by
  unfold φ_law_is_right at h
  split at h <;> first | rfl | exact h.elim
theorem noL_mks (ms : List Mk) : noLsts (ms.map Mk.d) = true := by
  induction ms with
  | nil => rfl
  | cons m ms ih =>
    rw [List.map_cons]
    unfold noLsts
    rw [ih]
    cases m <;> rfl
theorem noL_ints (xs : List Int) : noLsts (xs.map D.int) = true := by
  induction xs with
  | nil => rfl
  | cons m ms ih =>
    rw [List.map_cons]
    unfold noLsts
    rw [ih]
    rfl
theorem ok_law_is_right (T : Txt w K mg) (C_law_places : CallOk P w K mg base 2 "_law_places" P_law_places φ_law_places) (C_law_told : CallOk P w K mg base 4 "_law_told" P_law_told φ_law_told) (C_law_same : CallOk P w K mg base 4 "_law_same" P_law_same φ_law_same) (C_law_are_level : CallOk P w K mg base 2 "_law_are_level" P_law_are_level φ_law_are_level) : CallOk P w K mg base 6 "_law_is_right" P_law_is_right φ_law_is_right := by
  obtain ⟨fd, F⟩ := T.d_law_is_right
  obtain ⟨⟨fdt, Ft, lkt, bt⟩, kpt, glt⟩ := C_law_told
  refine ⟨⟨fd, fun_ok F sc_law_is_right len_law_is_right (r_right φ_law_places φ_law_same φ_law_are_level φ_law_told) (fun cdv A outer s H E Ξ hr => ?_) (fun ds Q' E' h => ?_), funLook F, F.bindsA fun _ _ _ _ _ _ us hl => match us, hl with | [_], _ => rfl⟩, F.kp, T.g_law_is_right⟩
  · exact yss_right (passes_of rfl) rfl (ys_par 1 2 rfl sc_law_is_right.nd (by rfl) (by rfl) (by decide) rfl rfl (yx_e (yeCall C_law_places (takes_of rfl rfl rfl rfl) (hr.mono (by decide)) (yl_cons (ye_var 0) yl_nil))) (yx_e (yn_callTy cn_list (by rfl) T.n_list boot_list (yl_cons (ye_var 0) yl_nil)).ye))
      (yi_range1 (by rfl) T.n_range (yl_cons ye_int yl_nil)) (ygN 3 sc_law_is_right.nd)
      (ps_set (i := 4) sc_law_is_right.nd rfl (by first | exact Or.inl rfl | exact Or.inr rfl) (pe_callS (lock_fn Ft) (hr.mono (by decide)) rfl glt kpt (fun s us _ hl => by rw [List.append_nil] at hl ⊢; exact bt s us hl) (fun σ => passAt (takes_of rfl rfl rfl rfl) σ) (pa_cons pe_str (pa_cons (pe_var (i := 2) rfl (by first | exact Or.inl rfl | exact Or.inr (Or.inl rfl) | exact Or.inr (Or.inr rfl))) pa_nil))))
      (YW.yt (yw_or (yt_not (yt_tru (yeCall C_law_same (takes_of rfl rfl rfl rfl) (hr.mono (by decide)) (yl_cons (ye_var 4) (yl_cons (ye_tup (yl_cons ye_str (yl_cons (ye_var 1) yl_nil))) yl_nil))))) (yw_or1 (yt_not (yt_tru (yeCall C_law_are_level (takes_of rfl rfl rfl rfl) (hr.mono (by decide)) (yl_cons (ye_var 0) (yl_cons (ye_ix (ye_ix (ye_var 4) ye_int) ye_int) yl_nil))))))))
      _ (ps_ret pe_bl)
      (ps_expr (pe_bm PySem.F.plainAttrs_list PySem.F.slot_list_append PySem.F.type_list_append mt_append (pe_ix ix_tup (pe_ix ix_tup (pe_var (i := 4) rfl (by first | exact Or.inl rfl | exact Or.inr (Or.inl rfl) | exact Or.inr (Or.inr rfl))) pe_int (fun _ _ => rfl)) pe_int (fun _ _ => rfl)) (pa_cons pe_int pa_nil)))
      (ps_expr (pe_bm PySem.F.plainAttrs_list PySem.F.slot_list_insert PySem.F.type_list_insert mt_insert (pe_ix ix_tup (pe_ix ix_tup (pe_var (i := 4) rfl (by first | exact Or.inl rfl | exact Or.inr (Or.inl rfl) | exact Or.inr (Or.inr rfl))) pe_int (fun _ _ => rfl)) pe_int (fun _ _ => rfl)) (pa_cons pe_int (pa_cons pe_int pa_nil))))
      (ys_ret (yeCall C_law_same (takes_of rfl rfl rfl rfl) (hr.mono (by decide)) (yl_cons (ye_var 2) (yl_cons (ye_var 0) yl_nil)))) (by intro _; rfl)
  · unfold φ_law_is_right at h
    split at h
    · obtain ⟨ms, rfl, ok, h⟩ := h
      have hl := ok.len
      have hp := places_len ms ms.length
      refine ⟨ms.map Mk.d, (placesTo ms ms.length).map D.int, totalI ms, runsD ms, noL_mks ms, noL_ints _, by rw [List.length_map]; omega, by rw [List.length_map]; omega, rfl, fun Q E q => ⟨ms, rfl, ok, q⟩, ?_, fun Q E q => same_ok (plain_told hl) q, fun Q E q => ⟨ms, rfl, rfl, ok, q⟩, fun Q E q => same_ok (plain_mks hl) q, fun _ => h⟩
      exact .inr ⟨rfl, .inr ⟨ms, .inr rfl, by omega, ok.nest, rfl⟩⟩
    · exact h.elim

theorem sc_is_whole : FnScope N_is_whole P_is_whole (defScope s_is_whole) := ⟨rfl, rfl, rfl, by decide +kernel, rfl, by decide +kernel, by decide +kernel⟩
theorem ok_is_whole (T : Txt w K mg) (vc : ∀ (ds : List D) (Q' : D → Prop) (E' : Nat → Prop), φ_is_whole ds Q' E' → r_is_whole (fun c _ => E' c) { nx := fun _ => Q' .non, rt := fun d _ => Q' d } (startE N_is_whole ds)) (len : ∀ ds Q E, φ_is_whole ds Q E → ds.length = 1) :
    CallOk P w K mg base 1 "is_whole" P_is_whole φ_is_whole := by
  obtain ⟨fd, F⟩ := T.d_is_whole
  refine ⟨⟨fd, fun_ok F sc_is_whole len r_is_whole (fun cdv A outer s H E Ξ hr => ?_) vc, funLook F, F.bindsA fun _ _ _ _ _ _ us hl => match us, hl with | [_], _ => rfl⟩, F.kp, T.g_is_whole⟩
  exact (yss_one (ys_ret (ye_and (ye_isA .int (ye_var 0) (peTy T.n_int boot_int) (by rfl) T.n_isinstance) (ye_one (ye_not (ye_isA .bool (ye_var 0) (peTy T.n_bool boot_bool) (by rfl) T.n_isinstance))))))
theorem sc_gap : FnScope N_gap P_gap (defScope s_gap) := ⟨rfl, rfl, rfl, by decide +kernel, rfl, by decide +kernel, by decide +kernel⟩
theorem ok_gap (T : Txt w K mg) (vc : ∀ (ds : List D) (Q' : D → Prop) (E' : Nat → Prop), φ_gap ds Q' E' → r_gap (fun c _ => E' c) { nx := fun _ => Q' .non, rt := fun d _ => Q' d } (startE N_gap ds)) (len : ∀ ds Q E, φ_gap ds Q E → ds.length = 1) :
    CallOk P w K mg base 1 "gap" P_gap φ_gap := by
  obtain ⟨fd, F⟩ := T.d_gap
  refine ⟨⟨fd, fun_ok F sc_gap len r_gap (fun cdv A outer s H E Ξ hr => ?_) vc, funLook F, F.bindsA fun _ _ _ _ _ _ us hl => match us, hl with | [_], _ => rfl⟩, F.kp, T.g_gap⟩
  exact (yss_one (ys_ret (ye_bin oy_add (ye_callB (cy_maxL rfl) (by rfl) T.n_max boot_max (yl_cons (ye_bin oy_add (yn_lst (yl_cons ye_int yl_nil)).ye (ye_var 0)) yl_nil)) (ye_callB (cy_minL rfl) (by rfl) T.n_min boot_min (yl_cons (ye_bin oy_add (yn_lst (yl_cons ye_int yl_nil)).ye (ye_var 0)) yl_nil)))))
theorem sc_gap_of : FnScope N_gap_of P_gap_of (defScope s_gap_of) := ⟨rfl, rfl, rfl, by decide +kernel, rfl, by decide +kernel, by decide +kernel⟩
theorem ok_gap_of (T : Txt w K mg) (C_is_whole : CallOk P w K mg base 1 "is_whole" P_is_whole φ_is_whole) (C_gap : CallOk P w K mg base 1 "gap" P_gap φ_gap) (vc : ∀ (ds : List D) (Q' : D → Prop) (E' : Nat → Prop), φ_gap_of ds Q' E' → r_gap_of (fun c _ => E' c) { nx := fun _ => Q' .non, rt := fun d _ => Q' d } (startE N_gap_of ds)) (len : ∀ ds Q E, φ_gap_of ds Q E → ds.length = 1) :
    CallOk P w K mg base 2 "gap_of" P_gap_of φ_gap_of := by
  obtain ⟨fd, F⟩ := T.d_gap_of
  refine ⟨⟨fd, fun_ok F sc_gap_of len r_gap_of (fun cdv A outer s H E Ξ hr => ?_) vc, funLook F, F.bindsA fun _ _ _ _ _ _ us hl => match us, hl with | [_], _ => rfl⟩, F.kp, T.g_gap_of⟩
  exact (yss_cons (ys_if (YW.yt (yw_or (yt_not (yt_tru (ye_isA .list (ye_var 0) (peTy T.n_list boot_list) (by rfl) T.n_isinstance))) (yw_or1 (yt_not (yt_tru (ye_callB (cy_all rfl) (by rfl) T.n_all boot_all (yl_cons (yn_lc (own := [(("margin" : Str), 1)]) rfl sc_gap_of.nd (yi_seq (ye_var 0)) (blkOk_by (by rfl)) (fun _ _ _ _ _ => (ygN 1 sc_gap_of.nd)) (fun _ _ _ _ _ => yts_nil) (fun _ _ _ _ _ => (yeCall C_is_whole takes0 (hr.mono (by decide)) (yl_cons (ye_var 1) yl_nil)))).ye yl_nil)))))))
  (yss_one (ys_raise 10 rfl (takes_of rfl rfl rfl rfl) PySem.F.excBase_Exception T.x_BadList T.g_BadList T.k_BadList (raises_own T.s_BadList T.t_BadList) rfl (by rfl)))
  yss_nil)
  (yss_one (ys_ret (yeCall C_gap (takes_of rfl rfl rfl rfl) (hr.mono (by decide)) (yl_cons (ye_var 0) yl_nil)))))
theorem sc_is_mark : FnScope N_is_mark P_is_mark (defScope s_is_mark) := ⟨rfl, rfl, rfl, by decide +kernel, rfl, by decide +kernel, by decide +kernel⟩
theorem ok_is_mark (T : Txt w K mg) (C_is_whole : CallOk P w K mg base 1 "is_whole" P_is_whole φ_is_whole) (vc : ∀ (ds : List D) (Q' : D → Prop) (E' : Nat → Prop), φ_is_mark ds Q' E' → r_is_mark (fun c _ => E' c) { nx := fun _ => Q' .non, rt := fun d _ => Q' d } (startE N_is_mark ds)) (len : ∀ ds Q E, φ_is_mark ds Q E → ds.length = 1) :
    CallOk P w K mg base 2 "is_mark" P_is_mark φ_is_mark := by
  obtain ⟨fd, F⟩ := T.d_is_mark
  refine ⟨⟨fd, fun_ok F sc_is_mark len r_is_mark (fun cdv A outer s H E Ξ hr => ?_) vc, funLook F, F.bindsA fun _ _ _ _ _ _ us hl => match us, hl with | [_], _ => rfl⟩, F.kp, T.g_is_mark⟩
  exact (yss_cons (ys_if (YW.yt (yw_or (yt_not (yt_tru (ye_isA .tuple (ye_var 0) (peTy T.n_tuple boot_tuple) (by rfl) T.n_isinstance))) (yw_or (yt_cmp (oy_eq hr.units) (ye_var 0) (ye_tup yl_nil)) (yw_or1 (yt_not (yt_tru (ye_isA .str (ye_ix (ye_var 0) ye_int) (peTy T.n_str boot_str) (by rfl) T.n_isinstance)))))))
  (yss_one (ys_ret ye_bl))
  yss_nil)
  (yss_cons (ys_if (yt_cmp (oy_ne hr.units) (ye_getK T.t_LENGTHS T.g_LENGTHS (ye_ix (ye_var 0) ye_int)) (ye_callB cy_len (by rfl) T.n_len PySem.boot_len (yl_cons (ye_var 0) yl_nil)))
  (yss_one (ys_ret ye_bl))
  yss_nil)
  (yss_one (ys_ret (ye_callB (cy_all rfl) (by rfl) T.n_all boot_all (yl_cons (yn_lc (own := [(("number" : Str), 1)]) rfl sc_is_mark.nd (yi_seq (ye_slT (ye_var 0) (yo_some ye_int) yo_none)) (blkOk_by (by rfl)) (fun _ _ _ _ _ => (ygN 1 sc_is_mark.nd)) (fun _ _ _ _ _ => yts_nil) (fun _ _ _ _ _ => (yeCall C_is_whole takes0 (hr.mono (by decide)) (yl_cons (ye_var 1) yl_nil)))).ye yl_nil))))))
theorem sc_are_nested : FnScope N_are_nested P_are_nested (defScope s_are_nested) := ⟨rfl, rfl, rfl, by decide +kernel, rfl, by decide +kernel, by decide +kernel⟩
theorem ok_are_nested (T : Txt w K mg) (vc : ∀ (ds : List D) (Q' : D → Prop) (E' : Nat → Prop), φ_are_nested ds Q' E' → r_are_nested (fun c _ => E' c) { nx := fun _ => Q' .non, rt := fun d _ => Q' d } (startE N_are_nested ds)) (len : ∀ ds Q E, φ_are_nested ds Q E → ds.length = 1) :
    CallOk P w K mg base 1 "are_nested" P_are_nested φ_are_nested := by
  obtain ⟨fd, F⟩ := T.d_are_nested
  refine ⟨⟨fd, fun_ok F sc_are_nested len r_are_nested (fun cdv A outer s H E Ξ hr => ?_) vc, funLook F, F.bindsA fun _ _ _ _ _ _ us hl => match us, hl with | [_], _ => rfl⟩, F.kp, T.g_are_nested⟩
  exact (yss_cons (ysSetO 1 sc_are_nested.nd (yn_lst yl_nil))
  (yss_cons (ysSetD 2 sc_are_nested.nd)
  (yss_cons (ys_for (passes_of rfl) rfl (yi_seq (ye_var 0)) (ygN 3 sc_are_nested.nd)
  (yss_one (ys_if (yt_cmp (oy_eq hr.units) (ye_ix (ye_var 3) ye_int) (yeGlS T.c_OPEN))
  (yss_cons (ys_if (yt_cmp (oy_inD hr.units) (ye_ix (ye_var 3) ye_int) (ye_var 2))
  (yss_one (ys_ret ye_bl))
  yss_nil)
  (yss_cons (ys_putD 2 hr.units (ye_ix (ye_var 3) ye_int) ye_bl)
  (yss_one (ysApp' 1 (ye_ix (ye_var 3) ye_int)))))
  (yss_one (ys_if (yt_cmp (oy_eq hr.units) (ye_ix (ye_var 3) ye_int) (yeGlS T.c_CLOSE))
  (yss_cons (ys_if (YW.yt (yw_or (yt_cmp (oy_eq hr.units) (ye_var 1) (yn_lst yl_nil).ye) (yw_or1 (yt_cmp (oy_ne hr.units) (ye_ix (ye_var 1) (ye_neg ye_int)) (ye_ix (ye_var 3) ye_int)))))
  (yss_one (ys_ret ye_bl))
  yss_nil)
  (yss_one (ys_expr (yePop' 1))))
  yss_nil)))))
  (yss_one (ys_ret (ye_cmp (oy_eq hr.units) (ye_var 1) (yn_lst yl_nil).ye))))))
theorem sc_last_closes : FnScope N_last_closes P_last_closes (defScope s_last_closes) := ⟨rfl, rfl, rfl, by decide +kernel, rfl, by decide +kernel, by decide +kernel⟩
theorem ok_last_closes (T : Txt w K mg) (vc : ∀ (ds : List D) (Q' : D → Prop) (E' : Nat → Prop), φ_last_closes ds Q' E' → r_last_closes (fun c _ => E' c) { nx := fun _ => Q' .non, rt := fun d _ => Q' d } (startE N_last_closes ds)) (len : ∀ ds Q E, φ_last_closes ds Q E → ds.length = 2) :
    CallOk P w K mg base 1 "last_closes" P_last_closes φ_last_closes := by
  obtain ⟨fd, F⟩ := T.d_last_closes
  refine ⟨⟨fd, fun_ok F sc_last_closes len r_last_closes (fun cdv A outer s H E Ξ hr => ?_) vc, funLook F, F.bindsA fun _ _ _ _ _ _ us hl => match us, hl with | [_, _], _ => rfl⟩, F.kp, T.g_last_closes⟩
  exact (yss_cons (ys_setLc (own := [(("k" : Str), 6)]) 2 true rfl sc_last_closes.nd rfl rfl (sw_true rfl rfl rfl (by decide +kernel)) (yi_range1 (by rfl) T.n_range (yl_cons (ye_bin oy_add (ye_callB (cy_maxL rfl) (by rfl) T.n_max boot_max (yl_cons (ye_bin oy_add (yn_lst (yl_cons ye_int yl_nil)).ye (ye_var 1)) yl_nil)) ye_int) yl_nil)) (blkOk_by (by rfl)) (fun _ _ _ _ _ => (ygN 6 sc_last_closes.nd)) (fun _ _ _ _ _ => yts_nil) (fun _ _ _ _ _ => (ye_neg ye_int)))
  (yss_cons (ysSetD 3 sc_last_closes.nd)
  (yss_cons (ys_for (passes_of rfl) rfl (yi_enum (ye_var 0) (by rfl) T.n_enumerate) (yg_tup rfl (ygs_cons (ygN 4 sc_last_closes.nd) (ygs_cons (ygN 5 sc_last_closes.nd) ygs_nil)))
  (yss_one (ys_if (yt_cmp (oy_eq hr.units) (ye_ix (ye_var 5) ye_int) (yeGlS T.c_OPEN))
  (yss_one (ys_putD 3 hr.units (ye_ix (ye_var 5) ye_int) (ye_ix (ye_var 1) (ye_var 4))))
  (yss_one (ys_if (YW.yt (yw_and (yt_cmp (oy_eq hr.units) (ye_ix (ye_var 5) ye_int) (yeGlS T.c_CLOSE)) (yw_and1 (yt_cmp oy_lt (ye_getD hr.units (ye_var 3) (ye_ix (ye_var 5) ye_int)) (ye_ix (ye_var 1) (ye_var 4))))))
  (yss_one (ys_setIx 2 (by rfl) (by first | exact Or.inl rfl | exact Or.inr (Or.inl rfl)) (ye_ix (ye_var 1) (ye_var 4)) (ye_var 4)))
  yss_nil)))))
  (yss_one (ys_ret (ye_var 2))))))
theorem sc_runs_in : FnScope N_runs_in P_runs_in (defScope s_runs_in) := ⟨rfl, rfl, rfl, by decide +kernel, rfl, by decide +kernel, by decide +kernel⟩
theorem ok_runs_in (T : Txt w K mg) (C_is_mark : CallOk P w K mg base 2 "is_mark" P_is_mark φ_is_mark) (C_are_nested : CallOk P w K mg base 1 "are_nested" P_are_nested φ_are_nested) (C_runs_of : CallOk P w K mg base 2 "runs_of" P_runs_of φ_runs_of) (C_last_closes : CallOk P w K mg base 1 "last_closes" P_last_closes φ_last_closes) (vc : ∀ (ds : List D) (Q' : D → Prop) (E' : Nat → Prop), φ_runs_in ds Q' E' → r_runs_in (fun c _ => E' c) { nx := fun _ => Q' .non, rt := fun d _ => Q' d } (startE N_runs_in ds)) (len : ∀ ds Q E, φ_runs_in ds Q E → ds.length = 1) :
    CallOk P w K mg base 3 "runs_in" P_runs_in φ_runs_in := by
  obtain ⟨fd, F⟩ := T.d_runs_in
  refine ⟨⟨fd, fun_ok F sc_runs_in len r_runs_in (fun cdv A outer s H E Ξ hr => ?_) vc, funLook F, F.bindsA fun _ _ _ _ _ _ us hl => match us, hl with | [_], _ => rfl⟩, F.kp, T.g_runs_in⟩
  exact (yss_cons (ys_if (YW.yt (yw_or (yt_not (yt_tru (ye_isA .list (ye_var 0) (peTy T.n_list boot_list) (by rfl) T.n_isinstance))) (yw_or (yt_not (yt_tru (ye_callB (cy_all rfl) (by rfl) T.n_all boot_all (yl_cons (yn_lc (own := [(("mark" : Str), 7)]) rfl sc_runs_in.nd (yi_seq (ye_var 0)) (blkOk_by (by rfl)) (fun _ _ _ _ _ => (ygN 7 sc_runs_in.nd)) (fun _ _ _ _ _ => yts_nil) (fun _ _ _ _ _ => (yeCall C_is_mark takes0 (hr.mono (by decide)) (yl_cons (ye_var 7) yl_nil)))).ye yl_nil)))) (yw_or1 (yt_not (yt_tru (yeCall C_are_nested (takes_of rfl rfl rfl rfl) (hr.mono (by decide)) (yl_cons (ye_var 0) yl_nil))))))))
  (yss_one (ys_raise 11 rfl (takes_of rfl rfl rfl rfl) PySem.F.excBase_Exception T.x_BadMarks T.g_BadMarks T.k_BadMarks (raises_own T.s_BadMarks T.t_BadMarks) rfl (by rfl)))
  yss_nil)
  (yss_cons (ys_asg (yeCall C_runs_of (takes_of rfl rfl rfl rfl) (hr.mono (by decide)) (yl_cons (ye_var 0) yl_nil)) (yg_tup rfl (ygs_cons (ygN 1 sc_runs_in.nd) (ygs_cons (ygN 2 sc_runs_in.nd) ygs_nil))))
  (yss_cons (ysSet 3 sc_runs_in.nd (yeCall C_last_closes (takes_of rfl rfl rfl rfl) (hr.mono (by decide)) (yl_cons (ye_var 0) (yl_cons (ye_var 1) yl_nil))))
  (yss_cons (ysSet 4 sc_runs_in.nd ye_int)
  (yss_cons (ysSetO 5 sc_runs_in.nd (yn_lst yl_nil))
  (yss_cons (ys_for (passes_of rfl) rfl (yi_enum (ye_var 0) (by rfl) T.n_enumerate) (yg_tup rfl (ygs_cons (ygN 6 sc_runs_in.nd) (ygs_cons (ygN 7 sc_runs_in.nd) ygs_nil)))
  (yss_cons (ysSet 8 sc_runs_in.nd (ye_ix (ye_var 1) (ye_var 6)))
  (yss_one (ys_if (yt_cmp (oy_eq hr.units) (ye_ix (ye_var 7) ye_int) (yeGlS T.c_BREAK))
  (yss_one (ysSet 4 sc_runs_in.nd (ye_bin oy_add (ye_bin oy_add (ye_var 4) (ye_ix (ye_var 2) (ye_var 8))) (ye_ix (ye_var 7) ye_int))))
  (yss_one (ys_if (yt_cmp (oy_eq hr.units) (ye_ix (ye_var 7) ye_int) (yeGlS T.c_MOVE))
  (yss_one (ysSet 4 sc_runs_in.nd (ye_bin oy_add (ye_var 4) (ye_ix (ye_var 7) ye_int))))
  (yss_one (ys_if (yt_cmp oy_leA (ye_var 6) (ye_ix (ye_var 3) (ye_var 8)))
  (yss_one (ysApp' 5 (ye_var 4)))
  (yss_one (ysApp' 5 (ye_bin oy_add (ye_var 4) (ye_ix (ye_var 2) (ye_var 8)))))))))))))
  (yss_one (ys_ret (ye_tup (yl_cons (ye_var 5) (yl_cons (ye_bin oy_add (ye_var 4) (ye_ix (ye_var 2) (ye_neg ye_int))) yl_nil)))))))))))
theorem sc_law_stream : FnScope N_law_stream P_law_stream (defScope s_law_stream) := ⟨rfl, rfl, rfl, by decide +kernel, rfl, by decide +kernel, by decide +kernel⟩
theorem ok_law_stream (T : Txt w K mg) (vc : ∀ (ds : List D) (Q' : D → Prop) (E' : Nat → Prop), φList ds Q' E' → r_law_stream (fun c _ => E' c) { nx := fun _ => Q' .non, rt := fun d _ => Q' d } (startE N_law_stream ds)) (len : ∀ ds Q E, φList ds Q E → ds.length = 1) :
    CallOk P w K mg base 1 "_law_stream" P_law_stream φList := by
  obtain ⟨fd, F⟩ := T.d_law_stream
  refine ⟨⟨fd, fun_ok F sc_law_stream len r_law_stream (fun cdv A outer s H E Ξ hr => ?_) vc, funLook F, F.bindsA fun _ _ _ _ _ _ us hl => match us, hl with | [_], _ => rfl⟩, F.kp, T.g_law_stream⟩
  exact (yss_cons (ys_par 1 2 rfl sc_law_stream.nd (by rfl) (by rfl) (by decide) rfl rfl (yx_n (yn_lst (yl_cons ye_int yl_nil))) (yx_e ye_int))
  (yss_cons (ys_for (passes_of rfl) rfl (yi_frl (ye_var 0)) (ygN 3 sc_law_stream.nd)
  (yss_cons (ysSet 4 sc_law_stream.nd (ye_bin oy_mod (ye_callTy cy_int (by rfl) T.n_int boot_int (yl_cons (ye_var 3) yl_nil)) (ye_bin oy_pow ye_int ye_int)))
  (yss_cons (ysSet 2 sc_law_stream.nd (ye_bin oy_mod (ye_callTy cy_int (by rfl) T.n_int boot_int (yl_cons (ye_bin oy_add (ye_bin oy_mulA (ye_var 2) ye_int) (ye_callTy cy_int (by rfl) T.n_int boot_int (yl_cons (ye_var 4) yl_nil))) yl_nil)) ye_int))
  (yss_one (ys_for (passes_of rfl) rfl (yi_range1 (by rfl) T.n_range (yl_cons (ye_ix (yn_lst (yl_cons ye_int (yl_cons ye_int yl_nil))).ye (ye_callTy cy_int (by rfl) T.n_int boot_int (yl_cons (ye_cmp oy_ge (ye_callTy cy_int (by rfl) T.n_int boot_int (yl_cons (ye_var 3) yl_nil)) (ye_bin oy_pow ye_int ye_int)) yl_nil))) yl_nil)) (ygN 5 sc_law_stream.nd)
  (yss_cons (ysApp' 1 (ye_bin oy_mod (ye_callTy cy_int (by rfl) T.n_int boot_int (yl_cons (ye_var 4) yl_nil)) ye_int))
  (yss_cons (ysSet 4 sc_law_stream.nd (ye_callTy cy_int (by rfl) T.n_int boot_int (yl_cons (ye_bin oy_fdiv (ye_var 4) ye_int) yl_nil)))
  (yss_one (ys_if (yt_cmp (oy_eq hr.units) (ye_var 4) ye_int)
  (yss_one ys_break)
  yss_nil)))))))))
  (yss_cons (ys_for (passes_of rfl) rfl (yi_range1 (by rfl) T.n_range (yl_cons ye_int yl_nil)) (ygN 5 sc_law_stream.nd)
  (yss_cons (ysSet 2 sc_law_stream.nd (ye_bin oy_mod (ye_callTy cy_int (by rfl) T.n_int boot_int (yl_cons (ye_bin oy_add (ye_bin oy_mulA (ye_var 2) ye_int) ye_int) yl_nil)) ye_int))
  (yss_one (ysApp' 1 (ye_bin oy_mod (ye_callTy cy_int (by rfl) T.n_int boot_int (yl_cons (ye_bin oy_fdiv (ye_var 2) ye_int) yl_nil)) ye_int)))))
  (yss_one (ys_ret (ye_var 1))))))
theorem sc_law_index : FnScope N_law_index P_law_index (defScope s_law_index) := ⟨rfl, rfl, rfl, by decide +kernel, rfl, by decide +kernel, by decide +kernel⟩
theorem ok_law_index (T : Txt w K mg) (C_law_pick : CallOk P w K mg base 1 "_law_pick" P_law_pick φ_law_pick) (vc : ∀ (ds : List D) (Q' : D → Prop) (E' : Nat → Prop), φ_law_index ds Q' E' → r_law_index (fun c _ => E' c) { nx := fun _ => Q' .non, rt := fun d _ => Q' d } (startE N_law_index ds)) (len : ∀ ds Q E, φ_law_index ds Q E → ds.length = 2) :
    CallOk P w K mg base 2 "_law_index" P_law_index φ_law_index := by
  obtain ⟨fd, F⟩ := T.d_law_index
  refine ⟨⟨fd, fun_ok F sc_law_index len r_law_index (fun cdv A outer s H E Ξ hr => ?_) vc, funLook F, F.bindsA fun _ _ _ _ _ _ us hl => match us, hl with | [_, _], _ => rfl⟩, F.kp, T.g_law_index⟩
  exact (yss_cons (ysSet 2 sc_law_index.nd (yeCall C_law_pick (takes_of rfl rfl rfl rfl) (hr.mono (by decide)) (yl_cons (ye_var 0) (yl_cons ye_int yl_nil))))
  (yss_one (ys_ret (ye_bin oy_mod (ye_callTy cy_int (by rfl) T.n_int boot_int (yl_cons (ye_bin oy_add (ye_bin oy_mulA (ye_var 2) ye_int) (yeCall C_law_pick (takes_of rfl rfl rfl rfl) (hr.mono (by decide)) (yl_cons (ye_var 0) (yl_cons ye_int yl_nil)))) yl_nil)) (ye_var 1)))))
theorem sc_law_same : FnScope N_law_same P_law_same (defScope s_law_same) := ⟨rfl, rfl, rfl, by decide +kernel, rfl, by decide +kernel, by decide +kernel⟩
theorem ok_law_same {k0 : Nat} {ψ φ : Spec} (T : Txt w K mg) (C_law_same : CallOk P w K mg base k0 "_law_same" P_law_same ψ) (vc : ∀ (ds : List D) (Q' : D → Prop) (E' : Nat → Prop), φ ds Q' E' → r_law_same ψ (fun c _ => E' c) { nx := fun _ => Q' .non, rt := fun d _ => Q' d } (startE N_law_same ds)) (len : ∀ ds Q E, φ ds Q E → ds.length = 2) :
    CallOk P w K mg base (k0 + 1) "_law_same" P_law_same φ := by
  obtain ⟨fd, F⟩ := T.d_law_same
  refine ⟨⟨fd, fun_ok F sc_law_same len (r_law_same ψ) (fun cdv A outer s H E Ξ hr => ?_) vc, funLook F, F.bindsA fun _ _ _ _ _ _ us hl => match us, hl with | [_, _], _ => rfl⟩, F.kp, T.g_law_same⟩
  exact (yss_cons (ys_if (yt_cmp oy_isN (ye_var 1) ye_non)
  (yss_one (ys_ret (ye_cmp oy_isN (ye_var 0) ye_non)))
  yss_nil)
  (yss_cons (ys_if (yt_tru (ye_isA .bool (ye_var 1) (peTy T.n_bool boot_bool) (by rfl) T.n_isinstance))
  (yss_one (ys_ret (ye_and (ye_isA .bool (ye_var 0) (peTy T.n_bool boot_bool) (by rfl) T.n_isinstance) (ye_one (ye_cmp (oy_eq hr.units) (ye_var 0) (ye_var 1))))))
  yss_nil)
  (yss_cons (ys_if (yt_tru (ye_isA .int (ye_var 1) (peTy T.n_int boot_int) (by rfl) T.n_isinstance))
  (yss_one (ys_ret (ye_and (ye_isA .int (ye_var 0) (peTy T.n_int boot_int) (by rfl) T.n_isinstance) (ye_and (ye_not (ye_isA .bool (ye_var 0) (peTy T.n_bool boot_bool) (by rfl) T.n_isinstance)) (ye_one (ye_cmp (oy_eq hr.units) (ye_var 0) (ye_var 1)))))))
  yss_nil)
  (yss_cons (ys_if (yt_tru (ye_isA .str (ye_var 1) (peTy T.n_str boot_str) (by rfl) T.n_isinstance))
  (yss_one (ys_ret (ye_and (ye_isA .str (ye_var 0) (peTy T.n_str boot_str) (by rfl) T.n_isinstance) (ye_one (ye_cmp (oy_eq hr.units) (ye_var 0) (ye_var 1))))))
  yss_nil)
  (yss_cons (ys_if (yt_tru (ye_isA .dict (ye_var 1) (peTy T.n_dict boot_dict) (by rfl) T.n_isinstance))
  (yss_cons (ys_if (YW.yt (yw_or (yt_not (yt_tru (ye_isA .dict (ye_var 0) (peTy T.n_dict boot_dict) (by rfl) T.n_isinstance))) (yw_or1 (yt_cmp (oy_ne hr.units) (ye_callB cy_len (by rfl) T.n_len PySem.boot_len (yl_cons (ye_var 0) yl_nil)) (ye_callB cy_len (by rfl) T.n_len PySem.boot_len (yl_cons (ye_var 1) yl_nil))))))
  (yss_one (ys_ret ye_bl))
  yss_nil)
  (yss_one (ys_ret (ye_callB (cy_all rfl) (by rfl) T.n_all boot_all (yl_cons (yn_lc (own := [(("key" : Str), 3)]) rfl sc_law_same.nd (yi_seq (ye_var 1)) (blkOk_by (by rfl)) (fun _ _ _ _ _ => (ygN 3 sc_law_same.nd)) (fun _ _ _ _ _ => yts_nil) (fun _ _ _ _ _ => (ye_and (ye_cmp oy_in (ye_var 3) (ye_var 0)) (ye_one (yeCall C_law_same takes0 hr (yl_cons (ye_ix (ye_var 0) (ye_var 3)) (yl_cons (ye_ix (ye_var 1) (ye_var 3)) yl_nil))))))).ye yl_nil)))))
  yss_nil)
  (yss_cons (ys_if (YW.yt (yw_or (yt_cmp (oy_ne hr.units) (ye_isA .list (ye_var 0) (peTy T.n_list boot_list) (by rfl) T.n_isinstance) (ye_isA .list (ye_var 1) (peTy T.n_list boot_list) (by rfl) T.n_isinstance)) (yw_or (yt_not (yt_tru (ye_isA2 .list .tuple (ye_var 0) (peTy T.n_list boot_list) (peTy T.n_tuple boot_tuple) (by rfl) T.n_isinstance))) (yw_or1 (yt_cmp (oy_ne hr.units) (ye_callB cy_len (by rfl) T.n_len PySem.boot_len (yl_cons (ye_var 0) yl_nil)) (ye_callB cy_len (by rfl) T.n_len PySem.boot_len (yl_cons (ye_var 1) yl_nil)))))))
  (yss_one (ys_ret ye_bl))
  yss_nil)
  (yss_one (ys_ret (ye_callB (cy_all rfl) (by rfl) T.n_all boot_all (yl_cons (yn_lc (own := [(("k" : Str), 2)]) rfl sc_law_same.nd (yi_range1 (by rfl) T.n_range (yl_cons (ye_callB cy_len (by rfl) T.n_len PySem.boot_len (yl_cons (ye_var 1) yl_nil)) yl_nil)) (blkOk_by (by rfl)) (fun _ _ _ _ _ => (ygN 2 sc_law_same.nd)) (fun _ _ _ _ _ => yts_nil) (fun _ _ _ _ _ => (yeCall C_law_same takes0 hr (yl_cons (ye_ix (ye_var 0) (ye_var 2)) (yl_cons (ye_ix (ye_var 1) (ye_var 2)) yl_nil))))).ye yl_nil))))))))))
theorem sc_law_number : FnScope N_law_number P_law_number (defScope s_law_number) := ⟨rfl, rfl, rfl, by decide +kernel, rfl, by decide +kernel, by decide +kernel⟩
theorem ok_law_number (T : Txt w K mg) (C_law_pick : CallOk P w K mg base 1 "_law_pick" P_law_pick φ_law_pick) (vc : ∀ (ds : List D) (Q' : D → Prop) (E' : Nat → Prop), φ_law_number ds Q' E' → r_law_number (fun c _ => E' c) { nx := fun _ => Q' .non, rt := fun d _ => Q' d } (startE N_law_number ds)) (len : ∀ ds Q E, φ_law_number ds Q E → ds.length = 1) :
    CallOk P w K mg base 2 "_law_number" P_law_number φ_law_number := by
  obtain ⟨fd, F⟩ := T.d_law_number
  refine ⟨⟨fd, fun_ok F sc_law_number len r_law_number (fun cdv A outer s H E Ξ hr => ?_) vc, funLook F, F.bindsA fun _ _ _ _ _ _ us hl => match us, hl with | [_], _ => rfl⟩, F.kp, T.g_law_number⟩
  exact (yss_cons (ysSet 1 sc_law_number.nd (yeCall C_law_pick (takes_of rfl rfl rfl rfl) (hr.mono (by decide)) (yl_cons (ye_var 0) (yl_cons ye_int yl_nil))))
  (yss_cons (ys_if (yt_cmp (oy_eq hr.units) (ye_var 1) ye_int)
  (yss_one (ys_ret (ye_bin oy_mulA (ye_bin oy_sub (yeCall C_law_pick (takes_of rfl rfl rfl rfl) (hr.mono (by decide)) (yl_cons (ye_var 0) (yl_cons ye_int yl_nil))) ye_int) (ye_bin oy_pow ye_int ye_int))))
  yss_nil)
  (yss_cons (ys_if (yt_cmp oy_lt (ye_var 1) ye_int)
  (yss_one (ys_ret ye_int))
  yss_nil)
  (yss_one (ys_ret (ye_bin oy_sub (yeCall C_law_pick (takes_of rfl rfl rfl rfl) (hr.mono (by decide)) (yl_cons (ye_var 0) (yl_cons ye_int yl_nil))) ye_int))))))
theorem sc_law_rows : FnScope N_law_rows P_law_rows (defScope s_law_rows) := ⟨rfl, rfl, rfl, by decide +kernel, rfl, by decide +kernel, by decide +kernel⟩
theorem ok_law_rows (T : Txt w K mg) (C_law_pick : CallOk P w K mg base 1 "_law_pick" P_law_pick φ_law_pick) (vc : ∀ (ds : List D) (Q' : D → Prop) (E' : Nat → Prop), φ_law_rows ds Q' E' → r_law_rows (fun c _ => E' c) { nx := fun _ => Q' .non, rt := fun d _ => Q' d } (startE N_law_rows ds)) (len : ∀ ds Q E, φ_law_rows ds Q E → ds.length = 1) :
    CallOk P w K mg base 2 "_law_rows" P_law_rows φ_law_rows := by
  obtain ⟨fd, F⟩ := T.d_law_rows
  refine ⟨⟨fd, fun_ok F sc_law_rows len r_law_rows (fun cdv A outer s H E Ξ hr => ?_) vc, funLook F, F.bindsA fun _ _ _ _ _ _ us hl => match us, hl with | [_], _ => rfl⟩, F.kp, T.g_law_rows⟩
  exact (yss_one (ys_ret (ye_ix (yn_lst (yl_cons ye_int (yl_cons ye_int (yl_cons ye_int (yl_cons ye_int (yl_cons ye_int (yl_cons ye_int (yl_cons (ye_neg ye_int) (yl_cons (ye_neg ye_int) (yl_cons (ye_bin oy_pow ye_int ye_int) yl_nil)))))))))).ye (yeCall C_law_pick (takes_of rfl rfl rfl rfl) (hr.mono (by decide)) (yl_cons (ye_var 0) (yl_cons ye_int yl_nil))))))
theorem sc_law_marks : FnScope N_law_marks P_law_marks (defScope s_law_marks) := ⟨rfl, rfl, rfl, by decide +kernel, rfl, by decide +kernel, by decide +kernel⟩
theorem ok_law_marks (T : Txt w K mg) (C_law_pick : CallOk P w K mg base 1 "_law_pick" P_law_pick φ_law_pick) (C_law_number : CallOk P w K mg base 2 "_law_number" P_law_number φ_law_number) (C_law_rows : CallOk P w K mg base 2 "_law_rows" P_law_rows φ_law_rows) (vc : ∀ (ds : List D) (Q' : D → Prop) (E' : Nat → Prop), φ_law_marks ds Q' E' → r_law_marks (fun c _ => E' c) { nx := fun _ => Q' .non, rt := fun d _ => Q' d } (startE N_law_marks ds)) (len : ∀ ds Q E, φ_law_marks ds Q E → ds.length = 3) :
    CallOk P w K mg base 3 "_law_marks" P_law_marks φ_law_marks := by
  obtain ⟨fd, F⟩ := T.d_law_marks
  refine ⟨⟨fd, fun_ok F sc_law_marks len r_law_marks (fun cdv A outer s H E Ξ hr => ?_) vc, funLook F, F.bindsA fun _ _ _ _ _ _ us hl => match us, hl with | [_, _, _], _ => rfl⟩, F.kp, T.g_law_marks⟩
  exact (yss_cons (ys_parP4 3 4 5 6 rfl sc_law_marks.nd (yp_n (yn_lst yl_nil) (yp_n (yn_lst yl_nil) (yp_e (ye_bin oy_sub (yeCall C_law_pick (takes_of rfl rfl rfl rfl) (hr.mono (by decide)) (yl_cons (ye_var 0) (yl_cons ye_int yl_nil))) ye_int) (yp_e (ye_ix (yn_lst (yl_cons ye_int (yl_cons ye_int (yl_cons (ye_neg ye_int) (yl_cons ye_int yl_nil))))).ye (yeCall C_law_pick (takes_of rfl rfl rfl rfl) (hr.mono (by decide)) (yl_cons (ye_var 0) (yl_cons ye_int yl_nil)))) yp_nil)))))
  (yss_cons (ysSet 7 sc_law_marks.nd (ye_bin oy_add ye_int (yeCall C_law_pick (takes_of rfl rfl rfl rfl) (hr.mono (by decide)) (yl_cons (ye_var 0) (yl_cons ye_int yl_nil)))))
  (yss_cons (ys_for (passes_of rfl) rfl (yi_range1 (by rfl) T.n_range (yl_cons (ye_var 1) yl_nil)) (ygN 8 sc_law_marks.nd)
  (yss_cons (ysSet 9 sc_law_marks.nd (yeCall C_law_pick (takes_of rfl rfl rfl rfl) (hr.mono (by decide)) (yl_cons (ye_var 0) (yl_cons ye_int yl_nil))))
  (yss_cons (ys_if (YW.yt (yw_and (yt_cmp oy_lt (ye_var 9) ye_int) (yw_and1 (yt_cmp oy_lt (ye_callB cy_len (by rfl) T.n_len PySem.boot_len (yl_cons (ye_var 4) yl_nil)) (ye_var 2)))))
  (yss_cons (ysApp' 4 (ye_bin oy_add (ye_var 5) (ye_bin oy_mulA (ye_var 6) (ye_var 8))))
  (yss_one (ysApp' 3 (ye_tup (yl_cons ye_str (yl_cons (ye_ix (ye_var 4) (ye_neg ye_int)) (yl_cons (yeCall C_law_number (takes_of rfl rfl rfl rfl) (hr.mono (by decide)) (yl_cons (ye_var 0) yl_nil)) yl_nil)))))))
  (yss_one (ys_if (YW.yt (yw_and (yt_cmp oy_lt (ye_var 9) ye_int) (yw_and1 (yt_cmp (oy_ne hr.units) (ye_var 4) (yn_lst yl_nil).ye))))
  (yss_one (ysApp' 3 (ye_tup (yl_cons ye_str (yl_cons (yePop' 4) (yl_cons (yeCall C_law_number (takes_of rfl rfl rfl rfl) (hr.mono (by decide)) (yl_cons (ye_var 0) yl_nil)) yl_nil))))))
  (yss_one (ys_if (yt_cmp (oy_eq hr.units) (ye_var 9) ye_int)
  (yss_one (ysApp' 3 (ye_tup (yl_cons ye_str (yl_cons (yeCall C_law_number (takes_of rfl rfl rfl rfl) (hr.mono (by decide)) (yl_cons (ye_var 0) yl_nil)) yl_nil)))))
  yss_nil)))))
  (yss_one (ys_if (yt_cmp oy_lt (yeCall C_law_pick (takes_of rfl rfl rfl rfl) (hr.mono (by decide)) (yl_cons (ye_var 0) (yl_cons ye_int yl_nil))) (ye_bin oy_sub (ye_var 7) ye_int))
  (yss_one (ysApp' 3 (ye_tup (yl_cons ye_str (yl_cons (yeCall C_law_rows (takes_of rfl rfl rfl rfl) (hr.mono (by decide)) (yl_cons (ye_var 0) yl_nil)) yl_nil)))))
  yss_nil)))))
  (yss_cons (ys_for (passes_of rfl) rfl (yi_range1 (by rfl) T.n_range (yl_cons (ye_callB cy_len (by rfl) T.n_len PySem.boot_len (yl_cons (ye_var 4) yl_nil)) yl_nil)) (ygN 8 sc_law_marks.nd)
  (yss_cons (ysApp' 3 (ye_tup (yl_cons ye_str (yl_cons (yePop' 4) (yl_cons (yeCall C_law_number (takes_of rfl rfl rfl rfl) (hr.mono (by decide)) (yl_cons (ye_var 0) yl_nil)) yl_nil)))))
  (yss_one (ys_if (yt_cmp oy_lt (yeCall C_law_pick (takes_of rfl rfl rfl rfl) (hr.mono (by decide)) (yl_cons (ye_var 0) (yl_cons ye_int yl_nil))) (ye_bin oy_sub (ye_var 7) ye_int))
  (yss_one (ysApp' 3 (ye_tup (yl_cons ye_str (yl_cons (yeCall C_law_rows (takes_of rfl rfl rfl rfl) (hr.mono (by decide)) (yl_cons (ye_var 0) yl_nil)) yl_nil)))))
  yss_nil))))
  (yss_one (ys_ret (ye_var 3)))))))
theorem sc_law_gap : FnScope N_law_gap P_law_gap (defScope s_law_gap) := ⟨rfl, rfl, rfl, by decide +kernel, rfl, by decide +kernel, by decide +kernel⟩
theorem ok_law_gap (T : Txt w K mg) (vc : ∀ (ds : List D) (Q' : D → Prop) (E' : Nat → Prop), φ_law_gap ds Q' E' → r_law_gap (fun c _ => E' c) { nx := fun _ => Q' .non, rt := fun d _ => Q' d } (startE N_law_gap ds)) (len : ∀ ds Q E, φ_law_gap ds Q E → ds.length = 1) :
    CallOk P w K mg base 1 "_law_gap" P_law_gap φ_law_gap := by
  obtain ⟨fd, F⟩ := T.d_law_gap
  refine ⟨⟨fd, fun_ok F sc_law_gap len r_law_gap (fun cdv A outer s H E Ξ hr => ?_) vc, funLook F, F.bindsA fun _ _ _ _ _ _ us hl => match us, hl with | [_], _ => rfl⟩, F.kp, T.g_law_gap⟩
  exact (yss_one (ys_ret (ye_bin oy_add (ye_callB (cy_maxL rfl) (by rfl) T.n_max boot_max (yl_cons (ye_bin oy_add (yn_lst (yl_cons ye_int yl_nil)).ye (ye_var 0)) yl_nil)) (ye_callB (cy_minL rfl) (by rfl) T.n_min boot_min (yl_cons (ye_bin oy_add (yn_lst (yl_cons ye_int yl_nil)).ye (ye_var 0)) yl_nil)))))
theorem sc_law_spans : FnScope N_law_spans P_law_spans (defScope s_law_spans) := ⟨rfl, rfl, rfl, by decide +kernel, rfl, by decide +kernel, by decide +kernel⟩
theorem ok_law_spans (T : Txt w K mg) (vc : ∀ (ds : List D) (Q' : D → Prop) (E' : Nat → Prop), φ_law_spans ds Q' E' → r_law_spans (fun c _ => E' c) { nx := fun _ => Q' .non, rt := fun d _ => Q' d } (startE N_law_spans ds)) (len : ∀ ds Q E, φ_law_spans ds Q E → ds.length = 1) :
    CallOk P w K mg base 1 "_law_spans" P_law_spans φ_law_spans := by
  obtain ⟨fd, F⟩ := T.d_law_spans
  refine ⟨⟨fd, fun_ok F sc_law_spans len r_law_spans (fun cdv A outer s H E Ξ hr => ?_) vc, funLook F, F.bindsA fun _ _ _ _ _ _ us hl => match us, hl with | [_], _ => rfl⟩, F.kp, T.g_law_spans⟩
  exact (yss_cons (ys_asg (ye_tup (yl_cons (yn_lst yl_nil).ye (yl_cons ye_int yl_nil))) (yg_tup rfl (ygs_cons (ygN 1 sc_law_spans.nd) (ygs_cons (ygN 2 sc_law_spans.nd) ygs_nil))))
  (yss_cons (ys_for (passes_of rfl) rfl (yi_range1 (by rfl) T.n_range (yl_cons (ye_bin oy_add (ye_callB cy_len (by rfl) T.n_len PySem.boot_len (yl_cons (ye_var 0) yl_nil)) ye_int) yl_nil)) (ygN 3 sc_law_spans.nd)
  (yss_one (ys_if (YW.yt (yw_or (yt_cmp (oy_eq hr.units) (ye_var 3) (ye_callB cy_len (by rfl) T.n_len PySem.boot_len (yl_cons (ye_var 0) yl_nil))) (yw_or1 (yt_cmp (oy_eq hr.units) (ye_ix (ye_ix (ye_var 0) (ye_var 3)) ye_int) ye_str))))
  (yss_cons (ysSet 1 sc_law_spans.nd (ye_bin oy_add (ye_var 1) (yn_lc (own := [(("turn" : Str), 4)]) rfl sc_law_spans.nd (yi_range2 (by rfl) T.n_range (yl_cons (ye_var 2) (yl_cons (ye_var 3) yl_nil))) (blkOk_by (by rfl)) (fun _ _ _ _ _ => (ygN 4 sc_law_spans.nd)) (fun _ _ _ _ _ => yts_nil) (fun _ _ _ _ _ => (ye_tup (yl_cons (ye_var 2) (yl_cons (ye_var 3) yl_nil))))).ye))
  (yss_cons (ysSet 1 sc_law_spans.nd (ye_bin oy_add (ye_var 1) (ye_bin oy_mulA (yn_lst (yl_cons (ye_tup (yl_cons (ye_var 3) (yl_cons (ye_var 3) yl_nil))) yl_nil)).ye (ye_callTy cy_int (by rfl) T.n_int boot_int (yl_cons (ye_cmp oy_lt (ye_var 3) (ye_callB cy_len (by rfl) T.n_len PySem.boot_len (yl_cons (ye_var 0) yl_nil))) yl_nil)))))
  (yss_one (ysSet 2 sc_law_spans.nd (ye_bin oy_add (ye_var 3) ye_int)))))
  yss_nil)))
  (yss_one (ys_ret (ye_var 1)))))
theorem sc_law_places : FnScope N_law_places P_law_places (defScope s_law_places) := ⟨rfl, rfl, rfl, by decide +kernel, rfl, by decide +kernel, by decide +kernel⟩
theorem ok_law_places (T : Txt w K mg) (C_law_spans : CallOk P w K mg base 1 "_law_spans" P_law_spans φ_law_spans) (C_law_gap : CallOk P w K mg base 1 "_law_gap" P_law_gap φ_law_gap) (vc : ∀ (ds : List D) (Q' : D → Prop) (E' : Nat → Prop), φ_law_places ds Q' E' → r_law_places (fun c _ => E' c) { nx := fun _ => Q' .non, rt := fun d _ => Q' d } (startE N_law_places ds)) (len : ∀ ds Q E, φ_law_places ds Q E → ds.length = 1) :
    CallOk P w K mg base 2 "_law_places" P_law_places φ_law_places := by
  obtain ⟨fd, F⟩ := T.d_law_places
  refine ⟨⟨fd, fun_ok F sc_law_places len r_law_places (fun cdv A outer s H E Ξ hr => ?_) vc, funLook F, F.bindsA fun _ _ _ _ _ _ us hl => match us, hl with | [_], _ => rfl⟩, F.kp, T.g_law_places⟩
  exact (yss_cons (ys_parP4 1 2 3 4 rfl sc_law_places.nd (yp_e (yeCall C_law_spans (takes_of rfl rfl rfl rfl) (hr.mono (by decide)) (yl_cons (ye_var 0) yl_nil)) (yp_d (yp_n (yn_lst yl_nil) (yp_e ye_int yp_nil)))))
  (yss_cons (ys_for (passes_of rfl) rfl (yi_range1 (by rfl) T.n_range (yl_cons (ye_callB cy_len (by rfl) T.n_len PySem.boot_len (yl_cons (ye_var 0) yl_nil)) yl_nil)) (ygN 5 sc_law_places.nd)
  (yss_cons (ys_asg (ye_ix (ye_var 1) (ye_var 5)) (yg_tup rfl (ygs_cons (ygN 6 sc_law_places.nd) (ygs_cons (ygN 7 sc_law_places.nd) ygs_nil))))
  (yss_cons (ysSet 8 sc_law_places.nd (yeCall C_law_gap (takes_of rfl rfl rfl rfl) (hr.mono (by decide)) (yl_cons (yn_lc (own := [(("mark" : Str), 10)]) rfl sc_law_places.nd (yi_seq (yn_sl (ye_var 0) (yo_some (ye_var 6)) (yo_some (ye_var 7))).ye) (blkOk_by (by rfl)) (fun _ _ _ _ _ => (ygN 10 sc_law_places.nd)) (fun _ _ _ _ _ => (yts_one (yt_cmp oy_in (ye_ix (ye_var 10) ye_int) (yn_lst (yl_cons ye_str (yl_cons ye_str yl_nil))).ye))) (fun _ _ _ _ _ => (ye_ix (ye_var 10) ye_int))).ye yl_nil)))
  (yss_cons (ys_if (yt_cmp (oy_eq hr.units) (ye_ix (ye_ix (ye_var 0) (ye_var 5)) ye_int) ye_str)
  (yss_one (ys_putD 2 hr.units (ye_ix (ye_ix (ye_var 0) (ye_var 5)) ye_int) (ye_var 5)))
  yss_nil)
  (yss_cons (ys_if (yt_cmp (oy_eq hr.units) (ye_ix (ye_ix (ye_var 0) (ye_var 5)) ye_int) ye_str)
  (yss_one (ysSet 4 sc_law_places.nd (ye_bin oy_add (ye_var 4) (ye_ix (ye_ix (ye_var 0) (ye_var 5)) ye_int))))
  (yss_one (ys_if (yt_cmp (oy_eq hr.units) (ye_ix (ye_ix (ye_var 0) (ye_var 5)) ye_int) ye_str)
  (yss_one (ysSet 4 sc_law_places.nd (ye_bin oy_add (ye_var 4) (ye_ix (ye_ix (ye_var 0) (ye_var 5)) ye_int))))
  (yss_cons (ys_setLc (own := [(("mark" : Str), 10)]) 9 false rfl sc_law_places.nd rfl rfl (sw_true rfl rfl rfl (by decide +kernel)) (yi_seq (yn_sl (ye_var 0) (yo_some (ye_var 5)) (yo_some (ye_var 7))).ye) (blkOk_by (by rfl)) (fun _ _ _ _ _ => (ygN 10 sc_law_places.nd)) (fun _ _ _ _ _ => (yts_one (yt_cmp (oy_eq hr.units) (ye_ix (ye_var 10) ye_int) ye_str))) (fun _ _ _ _ _ => (ye_cmp oy_lt (ye_get2 hr.units (ye_var 2) (ye_ix (ye_var 10) ye_int) (ye_var 5)) (ye_var 6))))
  (yss_one (ysApp' 3 (ye_bin oy_add (ye_var 4) (ye_bin oy_mulA (ye_var 8) (ye_callTy cy_int (by rfl) T.n_int boot_int (yl_cons (ye_not (ye_callB (cy_any rfl) (by rfl) T.n_any boot_any (yl_cons (ye_var 9) yl_nil))) yl_nil))))))))))
  (yss_one (ys_if (yt_cmp (oy_eq hr.units) (ye_var 5) (ye_bin oy_sub (ye_var 7) ye_int))
  (yss_one (ysSet 4 sc_law_places.nd (ye_bin oy_add (ye_var 4) (ye_var 8))))
  yss_nil)))))))
  (yss_one (ys_ret (ye_tup (yl_cons (ye_var 3) (yl_cons (ye_var 4) yl_nil)))))))
theorem sc_law_are_level : FnScope N_law_are_level P_law_are_level (defScope s_law_are_level) := ⟨rfl, rfl, rfl, by decide +kernel, rfl, by decide +kernel, by decide +kernel⟩
theorem ok_law_are_level (T : Txt w K mg) (C_law_spans : CallOk P w K mg base 1 "_law_spans" P_law_spans φ_law_spans) (vc : ∀ (ds : List D) (Q' : D → Prop) (E' : Nat → Prop), φ_law_are_level ds Q' E' → r_law_are_level (fun c _ => E' c) { nx := fun _ => Q' .non, rt := fun d _ => Q' d } (startE N_law_are_level ds)) (len : ∀ ds Q E, φ_law_are_level ds Q E → ds.length = 2) :
    CallOk P w K mg base 2 "_law_are_level" P_law_are_level φ_law_are_level := by
  obtain ⟨fd, F⟩ := T.d_law_are_level
  refine ⟨⟨fd, fun_ok F sc_law_are_level len r_law_are_level (fun cdv A outer s H E Ξ hr => ?_) vc, funLook F, F.bindsA fun _ _ _ _ _ _ us hl => match us, hl with | [_, _], _ => rfl⟩, F.kp, T.g_law_are_level⟩
  exact (yss_cons (ys_parP3 2 3 4 rfl sc_law_are_level.nd (by rfl) (by rfl) (by rfl) (by decide) (by decide) (by decide) rfl rfl rfl (yp_d (yp_e (yeCall C_law_spans (takes_of rfl rfl rfl rfl) (hr.mono (by decide)) (yl_cons (ye_var 0) yl_nil)) (yp_e ye_int yp_nil))))
  (yss_cons (ys_for (passes_of rfl) rfl (yi_range1 (by rfl) T.n_range (yl_cons (ye_callB cy_len (by rfl) T.n_len PySem.boot_len (yl_cons (ye_var 0) yl_nil)) yl_nil)) (ygN 5 sc_law_are_level.nd)
  (yss_one (ys_if (yt_cmp oy_in (ye_ix (ye_ix (ye_var 0) (ye_var 5)) ye_int) (yn_lst (yl_cons ye_str (yl_cons ye_str yl_nil))).ye)
  (yss_cons (ys_par 6 7 rfl sc_law_are_level.nd (by rfl) (by rfl) (by decide) rfl rfl (yx_e (ye_ix (ye_ix (ye_var 0) (ye_var 5)) ye_int)) (yx_e (ye_ix (ye_ix (ye_var 0) (ye_var 5)) ye_int)))
  (yss_cons (ys_if (yt_cmp (oy_eq hr.units) (ye_var 6) ye_str)
  (yss_one (ys_putD 2 hr.units (ye_var 7) (ye_tup (yl_cons (ye_var 5) (yl_cons (ye_ix (ye_var 1) (ye_var 4)) yl_nil)))))
  (yss_one (ys_if (YW.yt (yw_and (yt_cmp (oy_eq hr.units) (ye_ix (ye_var 3) (ye_var 5)) (ye_ix (ye_var 3) (ye_ix (ye_getD hr.units (ye_var 2) (ye_var 7)) ye_int))) (yw_and1 (yt_tru (ye_callB (cy_all rfl) (by rfl) T.n_all boot_all (yl_cons (yn_lc (own := [(("one" : Str), 8)]) rfl sc_law_are_level.nd (yi_seq (yn_sl (ye_var 0) (yo_some (ye_ix (ye_getD hr.units (ye_var 2) (ye_var 7)) ye_int)) (yo_some (ye_var 5))).ye) (blkOk_by (by rfl)) (fun _ _ _ _ _ => (ygN 8 sc_law_are_level.nd)) (fun _ _ _ _ _ => yts_nil) (fun _ _ _ _ _ => (ye_cmp (oy_ne hr.units) (ye_ix (ye_var 8) ye_int) ye_str))).ye yl_nil))))))
  (yss_one (ys_if (yt_cmp (oy_ne hr.units) (ye_ix (ye_getD hr.units (ye_var 2) (ye_var 7)) ye_int) (ye_ix (ye_var 1) (ye_var 4)))
  (yss_one (ys_ret ye_bl))
  yss_nil))
  yss_nil)))
  (yss_one (ysSet 4 sc_law_are_level.nd (ye_bin oy_add (ye_var 4) ye_int)))))
  yss_nil)))
  (yss_one (ys_ret ye_bl))))
theorem sc_law_told : FnScope N_law_told P_law_told (defScope s_law_told) := ⟨rfl, rfl, rfl, by decide +kernel, rfl, by decide +kernel, by decide +kernel⟩
theorem ok_law_told (T : Txt w K mg) (C_gap_of : CallOk P w K mg base 2 "gap_of" P_gap_of φ_gap_of) (C_runs_in : CallOk P w K mg base 3 "runs_in" P_runs_in φ_runs_in) (vc : ∀ (ds : List D) (Q' : D → Prop) (E' : Nat → Prop), φ_law_told ds Q' E' → r_law_told (fun c _ => E' c) { nx := fun _ => Q' .non, rt := fun d _ => Q' d } (startE N_law_told ds)) (len : ∀ ds Q E, φ_law_told ds Q E → ds.length = 2) :
    CallOk P w K mg base 4 "_law_told" P_law_told φ_law_told := by
  obtain ⟨fd, F⟩ := T.d_law_told
  refine ⟨⟨fd, fun_ok F sc_law_told len r_law_told (fun cdv A outer s H E Ξ hr => ?_) vc, funLook F, F.bindsA fun _ _ _ _ _ _ us hl => match us, hl with | [_, _], _ => rfl⟩, F.kp, T.g_law_told⟩
  exact (yss_cons (ys_try (cs := exCs) 3 T.xk rfl rfl sc_law_told.nd (by rfl) rfl rfl ⟨by rfl, by decide, .inl T.g_PageError⟩ (takes_of rfl rfl rfl rfl)
  (rb := fun Ξb => (ysIf (yBinT (oEq false) (yVar 0) (yC (.str ("gap" : Str))))
  (ysAsg (yCall φ_gap_of Ξb (ylCons (yVar 1) ylNil)) 2)
  (ysAsg (yCall φ_runs_in Ξb (ylCons (yVar 1) ylNil)) 2))) (rs := fun a c => (ysRet (yTup (ylCons (yC (.str ("refused" : Str))) (ylCons (yIsE 3 a c 11) (ylCons (yIsE 3 a c 10) ylNil))))))
  (fun Wb Ξb pn xe tkb po => (yss_one (ys_if (yt_cmp (oy_eq hr.units) (ye_var 0) ye_str)
  (yss_one (ysSet 2 sc_law_told.nd (yeCall C_gap_of tkb (hr.mono (by decide)) (yl_cons (ye_var 1) yl_nil))))
  (yss_one (ysSet 2 sc_law_told.nd (yeCall C_runs_in tkb (hr.mono (by decide)) (yl_cons (ye_var 1) yl_nil)))))))
  (fun c a oe pn hc xc hz hf => (yss_one (ys_ret (ye_tup (yl_cons ye_str (yl_cons (ye_isE c 11 3 T.xk hc (by decide) hz hf (by rfl) T.n_isinstance (by rfl) (by first | exact Or.inl rfl | exact Or.inr rfl) (by rfl) (by rfl) T.g_BadMarks) (yl_cons (ye_isE c 10 3 T.xk hc (by decide) hz hf (by rfl) T.n_isinstance (by rfl) (by first | exact Or.inl rfl | exact Or.inr rfl) (by rfl) (by rfl) T.g_BadList) yl_nil))))))))
  (yss_one (ys_ret (ye_tup (yl_cons ye_str (yl_cons (ye_var 2) yl_nil))))))
theorem sc_law_wrong_mark : FnScope N_law_wrong_mark P_law_wrong_mark (defScope s_law_wrong_mark) := ⟨rfl, rfl, rfl, by decide +kernel, rfl, by decide +kernel, by decide +kernel⟩
theorem ok_law_wrong_mark (T : Txt w K mg) (C_law_pick : CallOk P w K mg base 1 "_law_pick" P_law_pick φ_law_pick) (vc : ∀ (ds : List D) (Q' : D → Prop) (E' : Nat → Prop), φ_law_wrong_mark ds Q' E' → r_law_wrong_mark (fun c _ => E' c) { nx := fun _ => Q' .non, rt := fun d _ => Q' d } (startE N_law_wrong_mark ds)) (len : ∀ ds Q E, φ_law_wrong_mark ds Q E → ds.length = 1) :
    CallOk P w K mg base 2 "_law_wrong_mark" P_law_wrong_mark φ_law_wrong_mark := by
  obtain ⟨fd, F⟩ := T.d_law_wrong_mark
  refine ⟨⟨fd, fun_ok F sc_law_wrong_mark len r_law_wrong_mark (fun cdv A outer s H E Ξ hr => ?_) vc, funLook F, F.bindsA fun _ _ _ _ _ _ us hl => match us, hl with | [_], _ => rfl⟩, F.kp, T.g_law_wrong_mark⟩
  exact (yss_cons (ysSet 1 sc_law_wrong_mark.nd (yn_lst (yl_cons (ye_tup (yl_cons ye_str (yl_cons ye_int yl_nil))) (yl_cons (ye_tup (yl_cons ye_str (yl_cons ye_int yl_nil))) (yl_cons (ye_tup (yl_cons ye_str (yl_cons ye_int (yl_cons ye_int yl_nil)))) (yl_cons (ye_tup (yl_cons ye_str yl_nil)) (yl_cons (yn_lst (yl_cons ye_str (yl_cons ye_int yl_nil))).ye (yl_cons (ye_tup (yl_cons ye_str (yl_cons ye_bl (yl_cons ye_int yl_nil)))) (yl_cons (ye_tup (yl_cons ye_str (yl_cons ye_int (yl_cons ye_non yl_nil)))) (yl_cons (ye_tup (yl_cons ye_str (yl_cons ye_str yl_nil))) (yl_cons (ye_tup (yl_cons ye_str (yl_cons ye_bl yl_nil))) (yl_cons (ye_tup (yl_cons ye_str (yl_cons ye_int (yl_cons ye_int yl_nil)))) (yl_cons (ye_tup yl_nil) (yl_cons ye_non (yl_cons ye_str (yl_cons ye_int (yl_cons (ye_tup (yl_cons ye_str (yl_cons ye_int (yl_cons ye_int (yl_cons ye_int yl_nil))))) (yl_cons (ye_tup (yl_cons ye_int (yl_cons ye_int (yl_cons ye_int yl_nil)))) (yl_cons (ye_tup (yl_cons ye_str (yl_cons (ye_tup (yl_cons ye_int yl_nil)) yl_nil))) yl_nil)))))))))))))))))).ye)
  (yss_one (ys_ret (ye_ix (ye_var 1) (yeCall C_law_pick (takes_of rfl rfl rfl rfl) (hr.mono (by decide)) (yl_cons (ye_var 0) (yl_cons (ye_callB cy_len (by rfl) T.n_len PySem.boot_len (yl_cons (ye_var 1) yl_nil)) yl_nil)))))))
theorem sc_law_unnested : FnScope N_law_unnested P_law_unnested (defScope s_law_unnested) := ⟨rfl, rfl, rfl, by decide +kernel, rfl, by decide +kernel, by decide +kernel⟩
theorem ok_law_unnested (T : Txt w K mg) (C_law_index : CallOk P w K mg base 2 "_law_index" P_law_index φ_law_index) (C_law_pick : CallOk P w K mg base 1 "_law_pick" P_law_pick φ_law_pick) (vc : ∀ (ds : List D) (Q' : D → Prop) (E' : Nat → Prop), φ_law_unnested ds Q' E' → r_law_unnested (fun c _ => E' c) { nx := fun _ => Q' .non, rt := fun d _ => Q' d } (startE N_law_unnested ds)) (len : ∀ ds Q E, φ_law_unnested ds Q E → ds.length = 2) :
    CallOk P w K mg base 3 "_law_unnested" P_law_unnested φ_law_unnested := by
  obtain ⟨fd, F⟩ := T.d_law_unnested
  refine ⟨⟨fd, fun_ok F sc_law_unnested len r_law_unnested (fun cdv A outer s H E Ξ hr => ?_) vc, funLook F, F.bindsA fun _ _ _ _ _ _ us hl => match us, hl with | [_, _], _ => rfl⟩, F.kp, T.g_law_unnested⟩
  exact (yss_cons (ys_par 2 3 rfl sc_law_unnested.nd (by rfl) (by rfl) (by decide) rfl rfl (yx_e (yeCall C_law_index (takes_of rfl rfl rfl rfl) (hr.mono (by decide)) (yl_cons (ye_var 0) (yl_cons (ye_bin oy_add (ye_callB cy_len (by rfl) T.n_len PySem.boot_len (yl_cons (ye_var 1) yl_nil)) ye_int) yl_nil)))) (yx_e (yn_lc (own := [(("k" : Str), 6)]) rfl sc_law_unnested.nd (yi_range1 (by rfl) T.n_range (yl_cons (ye_callB cy_len (by rfl) T.n_len PySem.boot_len (yl_cons (ye_var 1) yl_nil)) yl_nil)) (blkOk_by (by rfl)) (fun _ _ _ _ _ => (ygN 6 sc_law_unnested.nd)) (fun _ _ _ _ _ => (yts_one (yt_cmp (oy_eq hr.units) (ye_ix (ye_ix (ye_var 1) (ye_var 6)) ye_int) ye_str))) (fun _ _ _ _ _ => (ye_var 6))).ye))
  (yss_cons (ys_setLc (own := [(("k" : Str), 6)]) 4 false rfl sc_law_unnested.nd rfl rfl (sw_true rfl rfl rfl (by decide +kernel)) (yi_range1 (by rfl) T.n_range (yl_cons (ye_callB cy_len (by rfl) T.n_len PySem.boot_len (yl_cons (ye_var 1) yl_nil)) yl_nil)) (blkOk_by (by rfl)) (fun _ _ _ _ _ => (ygN 6 sc_law_unnested.nd)) (fun _ _ _ _ _ => (yts_one (yt_cmp (oy_eq hr.units) (ye_ix (ye_ix (ye_var 1) (ye_var 6)) ye_int) ye_str))) (fun _ _ _ _ _ => (ye_var 6)))
  (yss_cons (ysSetO 5 sc_law_unnested.nd (yn_lst (yl_cons (ye_bin oy_add (ye_bin oy_add (yn_sl (ye_var 1) yo_none (yo_some (ye_var 2))).ye (yn_lst (yl_cons (ye_tup (yl_cons ye_str (yl_cons (ye_bin oy_pow ye_int ye_int) (yl_cons ye_int yl_nil)))) yl_nil)).ye) (yn_sl (ye_var 1) (yo_some (ye_var 2)) yo_none).ye) (yl_cons (ye_bin oy_add (ye_bin oy_add (yn_sl (ye_var 1) yo_none (yo_some (ye_var 2))).ye (yn_lst (yl_cons (ye_tup (yl_cons ye_str (yl_cons (ye_bin oy_pow ye_int ye_int) (yl_cons ye_int yl_nil)))) yl_nil)).ye) (yn_sl (ye_var 1) (yo_some (ye_var 2)) yo_none).ye) (yl_cons (ye_bin oy_add (ye_var 1) (yn_lst (yl_cons (ye_tup (yl_cons ye_str (yl_cons (ye_bin oy_pow ye_int ye_int) (yl_cons ye_int yl_nil)))) (yl_cons (ye_tup (yl_cons ye_str (yl_cons (ye_bin oy_pow ye_int ye_int) (yl_cons ye_int yl_nil)))) yl_nil))).ye) (yl_cons (ye_bin oy_add (ye_bin oy_add (yn_lst (yl_cons (ye_tup (yl_cons ye_str (yl_cons (ye_neg (ye_bin oy_pow ye_int ye_int)) (yl_cons ye_int yl_nil)))) yl_nil)).ye (ye_var 1)) (yn_lst (yl_cons (ye_tup (yl_cons ye_str (yl_cons (ye_bin oy_pow ye_int ye_int) (yl_cons ye_int yl_nil)))) yl_nil)).ye) yl_nil))))))
  (yss_cons (ys_if (yt_cmp (oy_ne hr.units) (ye_var 4) (yn_lst yl_nil).ye)
  (yss_cons (ys_par 6 7 rfl sc_law_unnested.nd (by rfl) (by rfl) (by decide) rfl rfl (yx_e (ye_ix (ye_var 4) (yeCall C_law_index (takes_of rfl rfl rfl rfl) (hr.mono (by decide)) (yl_cons (ye_var 0) (yl_cons (ye_callB cy_len (by rfl) T.n_len PySem.boot_len (yl_cons (ye_var 4) yl_nil)) yl_nil))))) (yx_e (ye_ix (ye_var 3) (yeCall C_law_index (takes_of rfl rfl rfl rfl) (hr.mono (by decide)) (yl_cons (ye_var 0) (yl_cons (ye_callB cy_len (by rfl) T.n_len PySem.boot_len (yl_cons (ye_var 3) yl_nil)) yl_nil))))))
  (yss_cons (ysApp' 5 (ye_bin oy_add (yn_sl (ye_var 1) yo_none (yo_some (ye_var 6))).ye (yn_sl (ye_var 1) (yo_some (ye_bin oy_add (ye_var 6) ye_int)) yo_none).ye))
  (yss_cons (ysApp' 5 (ye_bin oy_add (yn_sl (ye_var 1) yo_none (yo_some (ye_var 7))).ye (yn_sl (ye_var 1) (yo_some (ye_bin oy_add (ye_var 7) ye_int)) yo_none).ye))
  (yss_cons (ysApp' 5 (ye_bin oy_add (ye_var 1) (yn_lst (yl_cons (ye_tup (yl_cons ye_str (yl_cons (ye_ix (ye_ix (ye_var 1) (ye_var 6)) ye_int) (yl_cons ye_int yl_nil)))) (yl_cons (ye_tup (yl_cons ye_str (yl_cons (ye_ix (ye_ix (ye_var 1) (ye_var 6)) ye_int) (yl_cons ye_int yl_nil)))) yl_nil))).ye))
  (yss_one (ysApp' 5 (ye_bin oy_add (ye_bin oy_add (yn_sl (ye_var 1) yo_none (yo_some (ye_bin oy_add (ye_var 7) ye_int))).ye (yn_lst (yl_cons (ye_ix (ye_var 1) (ye_var 7)) yl_nil)).ye) (yn_sl (ye_var 1) (yo_some (ye_bin oy_add (ye_var 7) ye_int)) yo_none).ye)))))))
  yss_nil)
  (yss_cons (ysApp' 5 (ye_bin oy_add (ye_var 1) (yn_lst (yl_cons (ye_tup (yl_cons ye_str (yl_cons (ye_bin oy_pow ye_int ye_int) (yl_cons ye_int yl_nil)))) (yl_cons (ye_tup (yl_cons ye_str (yl_cons (ye_neg (ye_bin oy_pow ye_int ye_int)) (yl_cons ye_int yl_nil)))) (yl_cons (ye_tup (yl_cons ye_str (yl_cons (ye_bin oy_pow ye_int ye_int) (yl_cons ye_int yl_nil)))) (yl_cons (ye_tup (yl_cons ye_str (yl_cons (ye_neg (ye_bin oy_pow ye_int ye_int)) (yl_cons ye_int yl_nil)))) yl_nil))))).ye))
  (yss_cons (ysApp' 5 (ye_bin oy_add (ye_var 1) (yn_lst (yl_cons (ye_tup (yl_cons ye_str (yl_cons (ye_bin oy_pow ye_int ye_int) (yl_cons ye_int yl_nil)))) (yl_cons (ye_tup (yl_cons ye_str (yl_cons (ye_neg (ye_bin oy_pow ye_int ye_int)) (yl_cons ye_int yl_nil)))) (yl_cons (ye_tup (yl_cons ye_str (yl_cons (ye_bin oy_pow ye_int ye_int) (yl_cons ye_int yl_nil)))) (yl_cons (ye_tup (yl_cons ye_str (yl_cons (ye_bin oy_pow ye_int ye_int) (yl_cons ye_int yl_nil)))) yl_nil))))).ye))
  (yss_one (ys_ret (ye_ix (ye_var 5) (yeCall C_law_pick (takes_of rfl rfl rfl rfl) (hr.mono (by decide)) (yl_cons (ye_var 0) (yl_cons (ye_callB cy_len (by rfl) T.n_len PySem.boot_len (yl_cons (ye_var 5) yl_nil)) yl_nil))))))))))))
theorem sc_law_refused : FnScope N_law_refused P_law_refused (defScope s_law_refused) := ⟨rfl, rfl, rfl, by decide +kernel, rfl, by decide +kernel, by decide +kernel⟩
theorem ok_law_refused (T : Txt w K mg) (C_law_index : CallOk P w K mg base 2 "_law_index" P_law_index φ_law_index) (C_law_unnested : CallOk P w K mg base 3 "_law_unnested" P_law_unnested φ_law_unnested) (C_law_wrong_mark : CallOk P w K mg base 2 "_law_wrong_mark" P_law_wrong_mark φ_law_wrong_mark) (C_law_pick : CallOk P w K mg base 1 "_law_pick" P_law_pick φ_law_pick) (C_law_same : CallOk P w K mg base 4 "_law_same" P_law_same φ_law_same) (C_law_told : CallOk P w K mg base 4 "_law_told" P_law_told φ_law_told) (C_law_number : CallOk P w K mg base 2 "_law_number" P_law_number φ_law_number) (C_law_gap : CallOk P w K mg base 1 "_law_gap" P_law_gap φ_law_gap) (vc : ∀ (ds : List D) (Q' : D → Prop) (E' : Nat → Prop), φ_law_refused ds Q' E' → r_law_refused (fun c _ => E' c) { nx := fun _ => Q' .non, rt := fun d _ => Q' d } (startE N_law_refused ds)) (len : ∀ ds Q E, φ_law_refused ds Q E → ds.length = 2) :
    CallOk P w K mg base 5 "_law_refused" P_law_refused φ_law_refused := by
  obtain ⟨fd, F⟩ := T.d_law_refused
  refine ⟨⟨fd, fun_ok F sc_law_refused len r_law_refused (fun cdv A outer s H E Ξ hr => ?_) vc, funLook F, F.bindsA fun _ _ _ _ _ _ us hl => match us, hl with | [_, _], _ => rfl⟩, F.kp, T.g_law_refused⟩
  exact (yss_cons (ysSet 2 sc_law_refused.nd (yeCall C_law_index (takes_of rfl rfl rfl rfl) (hr.mono (by decide)) (yl_cons (ye_var 0) (yl_cons (ye_bin oy_add (ye_callB cy_len (by rfl) T.n_len PySem.boot_len (yl_cons (ye_var 1) yl_nil)) ye_int) yl_nil))))
  (yss_cons (ysSet 3 sc_law_refused.nd (yn_lst (yl_cons (ye_bin oy_add (ye_bin oy_add (yn_sl (ye_var 1) yo_none (yo_some (ye_var 2))).ye (yn_lst (yl_cons (yeCall C_law_wrong_mark (takes_of rfl rfl rfl rfl) (hr.mono (by decide)) (yl_cons (ye_var 0) yl_nil)) yl_nil)).ye) (yn_sl (ye_var 1) (yo_some (ye_var 2)) yo_none).ye) (yl_cons (yeCall C_law_unnested (takes_of rfl rfl rfl rfl) (hr.mono (by decide)) (yl_cons (ye_var 0) (yl_cons (ye_var 1) yl_nil))) (yl_cons (ye_callTy cy_tuple (by rfl) T.n_tuple boot_tuple (yl_cons (ye_var 1) yl_nil)) yl_nil)))).ye)
  (yss_cons (ysSet 3 sc_law_refused.nd (ye_bin oy_add (ye_var 3) (yn_lst (yl_cons (ye_ix (yn_lst (yl_cons ye_non (yl_cons ye_dic0 (yl_cons ye_str (yl_cons ye_int (yl_cons ye_bl (yl_cons (ye_tup (yl_cons ye_str (yl_cons ye_int yl_nil))) yl_nil))))))).ye (yeCall C_law_pick (takes_of rfl rfl rfl rfl) (hr.mono (by decide)) (yl_cons (ye_var 0) (yl_cons ye_int yl_nil)))) yl_nil)).ye))
  (yss_cons (ys_if (yt_not (yt_tru (ye_callB (cy_all rfl) (by rfl) T.n_all boot_all (yl_cons (yn_lc (own := [(("one" : Str), 9)]) rfl sc_law_refused.nd (yi_seq (ye_var 3)) (blkOk_by (by rfl)) (fun _ _ _ _ _ => (ygN 9 sc_law_refused.nd)) (fun _ _ _ _ _ => yts_nil) (fun _ _ _ _ _ => (yeCall C_law_same takes0 (hr.mono (by decide)) (yl_cons (yeCall C_law_told takes0 (hr.mono (by decide)) (yl_cons ye_str (yl_cons (ye_var 9) yl_nil))) (yl_cons (ye_tup (yl_cons ye_str (yl_cons ye_bl (yl_cons ye_bl yl_nil)))) yl_nil))))).ye yl_nil))))
  (yss_one (ys_ret ye_bl))
  yss_nil)
  (yss_cons (ys_setLc (own := [(("k" : Str), 8)]) 4 false rfl sc_law_refused.nd rfl rfl (sw_true rfl rfl rfl (by decide +kernel)) (yi_range1 (by rfl) T.n_range (yl_cons (yeCall C_law_pick (takes_of rfl rfl rfl rfl) (hr.mono (by decide)) (yl_cons (ye_var 0) (yl_cons ye_int yl_nil))) yl_nil)) (blkOk_by (by rfl)) (fun _ _ _ _ _ => (ygN 8 sc_law_refused.nd)) (fun _ _ _ _ _ => yts_nil) (fun _ _ _ _ _ => (yeCall C_law_number takes0 (hr.mono (by decide)) (yl_cons (ye_var 0) yl_nil))))
  (yss_cons (ys_par 5 6 rfl sc_law_refused.nd (by rfl) (by rfl) (by decide) rfl rfl (yx_e (yn_callB cn_sorted (by rfl) T.n_sorted boot_sorted (yl_cons (ye_var 4) yl_nil)).ye) (yx_e (ye_tup (yl_cons ye_str (yl_cons (yeCall C_law_gap (takes_of rfl rfl rfl rfl) (hr.mono (by decide)) (yl_cons (ye_var 4) yl_nil)) yl_nil)))))
  (yss_cons (ys_if (YW.yt (yw_or (yt_not (yt_tru (yeCall C_law_same (takes_of rfl rfl rfl rfl) (hr.mono (by decide)) (yl_cons (yeCall C_law_told (takes_of rfl rfl rfl rfl) (hr.mono (by decide)) (yl_cons ye_str (yl_cons (ye_var 4) yl_nil))) (yl_cons (ye_var 6) yl_nil))))) (yw_or1 (yt_not (yt_tru (yeCall C_law_same (takes_of rfl rfl rfl rfl) (hr.mono (by decide)) (yl_cons (yeCall C_law_told (takes_of rfl rfl rfl rfl) (hr.mono (by decide)) (yl_cons ye_str (yl_cons (ye_var 5) yl_nil))) (yl_cons (ye_var 6) yl_nil))))))))
  (yss_one (ys_ret ye_bl))
  yss_nil)
  (yss_cons (ysSet 2 sc_law_refused.nd (yeCall C_law_index (takes_of rfl rfl rfl rfl) (hr.mono (by decide)) (yl_cons (ye_var 0) (yl_cons (ye_bin oy_add (ye_callB cy_len (by rfl) T.n_len PySem.boot_len (yl_cons (ye_var 4) yl_nil)) ye_int) yl_nil))))
  (yss_cons (ysSet 7 sc_law_refused.nd (ye_ix (yn_lst (yl_cons ye_bl (yl_cons ye_non (yl_cons ye_str (yl_cons (yn_lst (yl_cons ye_int yl_nil)).ye (yl_cons (ye_tup (yl_cons ye_int yl_nil)) (yl_cons ye_dic0 (yl_cons ye_bl yl_nil)))))))).ye (yeCall C_law_pick (takes_of rfl rfl rfl rfl) (hr.mono (by decide)) (yl_cons (ye_var 0) (yl_cons ye_int yl_nil)))))
  (yss_cons (ysSet 3 sc_law_refused.nd (yn_lst (yl_cons (ye_bin oy_add (ye_bin oy_add (yn_sl (ye_var 4) yo_none (yo_some (ye_var 2))).ye (yn_lst (yl_cons (ye_var 7) yl_nil)).ye) (yn_sl (ye_var 4) (yo_some (ye_var 2)) yo_none).ye) (yl_cons (ye_callTy cy_tuple (by rfl) T.n_tuple boot_tuple (yl_cons (ye_var 4) yl_nil)) (yl_cons (ye_ix (yn_lst (yl_cons ye_non (yl_cons ye_dic0 (yl_cons ye_str (yl_cons ye_int (yl_cons ye_bl yl_nil)))))).ye (yeCall C_law_pick (takes_of rfl rfl rfl rfl) (hr.mono (by decide)) (yl_cons (ye_var 0) (yl_cons ye_int yl_nil)))) yl_nil)))).ye)
  (yss_one (ys_ret (ye_callB (cy_all rfl) (by rfl) T.n_all boot_all (yl_cons (yn_lc (own := [(("one" : Str), 9)]) rfl sc_law_refused.nd (yi_seq (ye_var 3)) (blkOk_by (by rfl)) (fun _ _ _ _ _ => (ygN 9 sc_law_refused.nd)) (fun _ _ _ _ _ => yts_nil) (fun _ _ _ _ _ => (yeCall C_law_same takes0 (hr.mono (by decide)) (yl_cons (yeCall C_law_told takes0 (hr.mono (by decide)) (yl_cons ye_str (yl_cons (ye_var 9) yl_nil))) (yl_cons (ye_tup (yl_cons ye_str (yl_cons ye_bl (yl_cons ye_bl yl_nil)))) yl_nil))))).ye yl_nil))))))))))))))
theorem sc_law : FnScope N_law P_law (defScope s_law) := ⟨rfl, rfl, rfl, by decide +kernel, rfl, by decide +kernel, by decide +kernel⟩
theorem ok_law (T : Txt w K mg) (C_law_stream : CallOk P w K mg base 1 "_law_stream" P_law_stream φ_law_stream) (C_law_pick : CallOk P w K mg base 1 "_law_pick" P_law_pick φ_law_pick) (C_law_marks : CallOk P w K mg base 3 "_law_marks" P_law_marks φ_law_marks) (C_law_is_right : CallOk P w K mg base 6 "_law_is_right" P_law_is_right φ_law_is_right) (C_law_refused : CallOk P w K mg base 5 "_law_refused" P_law_refused φ_law_refused) (vc : ∀ (ds : List D) (Q' : D → Prop) (E' : Nat → Prop), φ_law ds Q' E' → r_law (fun c _ => E' c) { nx := fun _ => Q' .non, rt := fun d _ => Q' d } (startE N_law ds)) (len : ∀ ds Q E, φ_law ds Q E → ds.length = 1) :
    CallOk P w K mg base 7 "law" P_law φ_law := by
  obtain ⟨fd, F⟩ := T.d_law
  refine ⟨⟨fd, fun_ok F sc_law len r_law (fun cdv A outer s H E Ξ hr => ?_) vc, funLook F, F.bindsA fun _ _ _ _ _ _ us hl => match us, hl with | [_], _ => rfl⟩, F.kp, T.g_law⟩
  exact (yss_cons (ysSet 1 sc_law.nd (yeCall C_law_stream (takes_of rfl rfl rfl rfl) (hr.mono (by decide)) (yl_cons (ye_var 0) yl_nil)))
  (yss_cons (ysSet 2 sc_law.nd (ye_cmp (oy_eq hr.units) (yeCall C_law_pick (takes_of rfl rfl rfl rfl) (hr.mono (by decide)) (yl_cons (ye_var 1) (yl_cons ye_int yl_nil))) ye_int))
  (yss_cons (ys_for (passes_of rfl) rfl (yi_range1 (by rfl) T.n_range (yl_cons ye_int yl_nil)) (ygN 3 sc_law.nd)
  (yss_cons (ysSet 4 sc_law.nd (ye_ix (yn_lst (yl_cons (ye_bin oy_add ye_int (yeCall C_law_pick (takes_of rfl rfl rfl rfl) (hr.mono (by decide)) (yl_cons (ye_var 1) (yl_cons ye_int yl_nil)))) (yl_cons ye_int yl_nil))).ye (ye_callTy cy_int (by rfl) T.n_int boot_int (yl_cons (ye_and (ye_var 2) (ye_one (ye_cmp (oy_eq hr.units) (ye_var 3) ye_int))) yl_nil))))
  (yss_cons (ysSet 5 sc_law.nd (yeCall C_law_marks (takes_of rfl rfl rfl rfl) (hr.mono (by decide)) (yl_cons (ye_var 1) (yl_cons (ye_ix (yn_lst (yl_cons (ye_var 4) (yl_cons ye_int yl_nil))).ye (ye_callTy cy_int (by rfl) T.n_int boot_int (yl_cons (ye_and (ye_cmp (oy_eq hr.units) (ye_var 3) ye_int) (ye_one (ye_cmp (oy_eq hr.units) (yeCall C_law_pick (takes_of rfl rfl rfl rfl) (hr.mono (by decide)) (yl_cons (ye_var 1) (yl_cons ye_int yl_nil))) ye_int))) yl_nil))) (yl_cons (ye_bin oy_add ye_int (yeCall C_law_pick (takes_of rfl rfl rfl rfl) (hr.mono (by decide)) (yl_cons (ye_var 1) (yl_cons ye_int yl_nil)))) yl_nil)))))
  (yss_one (ys_if (YW.yt (yw_or (yt_not (yt_tru (yeCall C_law_is_right (takes_of rfl rfl rfl rfl) (hr.mono (by decide)) (yl_cons (ye_var 5) yl_nil)))) (yw_or1 (yt_not (yt_tru (yeCall C_law_refused (takes_of rfl rfl rfl rfl) (hr.mono (by decide)) (yl_cons (ye_var 1) (yl_cons (ye_var 5) yl_nil))))))))
  (yss_one (ys_ret ye_bl))
  yss_nil)))))
  (yss_one (ys_ret ye_bl)))))
end
end PL.K48

set_option Elab.async false
set_option linter.all false
set_option autoImplicit false
set_option maxRecDepth 100000
set_option maxHeartbeats 2000000
namespace PL.K48
open PySem PySem.Spec PyProof.Rows L2
def fa : List He.Fa := [.glo "is_whole",
  .glo "gap",
  .glo "gap_of",
  .glo "is_mark",
  .glo "are_nested",
  .glo "runs_of",
  .glo "last_closes",
  .glo "runs_in",
  .glo "_law_stream",
  .glo "_law_pick",
  .glo "_law_index",
  .glo "_law_same",
  .glo "_law_number",
  .glo "_law_rows",
  .glo "_law_marks",
  .glo "_law_gap",
  .glo "_law_spans",
  .glo "_law_places",
  .glo "_law_are_level",
  .glo "_law_told",
  .glo "_law_is_right",
  .glo "_law_wrong_mark",
  .glo "_law_unnested",
  .glo "_law_refused",
  .glo "law",
  .glo "LENGTHS",
  .free "all",
  .free "any",
  .free "bool",
  .free "dict",
  .free "enumerate",
  .free "int",
  .free "isinstance",
  .free "len",
  .free "list",
  .free "max",
  .free "min",
  .free "range",
  .free "sorted",
  .free "str",
  .free "tuple",
  .str "BREAK" ("break" : Str),
  .str "CLOSE" ("close" : Str),
  .str "MOVE" ("move" : Str),
  .str "OPEN" ("open" : Str),
  .glo "PageError",
  .glo "BadList",
  .glo "BadMarks"]
def fn : List He.DefD := [⟨("is_whole", none), "is_whole", "is_whole", defArgs s_is_whole, defBody s_is_whole, defScope s_is_whole, [], []⟩,
  ⟨("gap", none), "gap", "gap", defArgs s_gap, defBody s_gap, defScope s_gap, [], []⟩,
  ⟨("gap_of", none), "gap_of", "gap_of", defArgs s_gap_of, defBody s_gap_of, defScope s_gap_of, [], []⟩,
  ⟨("is_mark", none), "is_mark", "is_mark", defArgs s_is_mark, defBody s_is_mark, defScope s_is_mark, [], []⟩,
  ⟨("are_nested", none), "are_nested", "are_nested", defArgs s_are_nested, defBody s_are_nested, defScope s_are_nested, [], []⟩,
  ⟨("runs_of", none), "runs_of", "runs_of", defArgs s_runs_of, defBody s_runs_of, defScope s_runs_of, [], []⟩,
  ⟨("last_closes", none), "last_closes", "last_closes", defArgs s_last_closes, defBody s_last_closes, defScope s_last_closes, [], []⟩,
  ⟨("runs_in", none), "runs_in", "runs_in", defArgs s_runs_in, defBody s_runs_in, defScope s_runs_in, [], []⟩,
  ⟨("_law_stream", none), "_law_stream", "_law_stream", defArgs s_law_stream, defBody s_law_stream, defScope s_law_stream, [], []⟩,
  ⟨("_law_pick", none), "_law_pick", "_law_pick", defArgs s_law_pick, defBody s_law_pick, defScope s_law_pick, [], []⟩,
  ⟨("_law_index", none), "_law_index", "_law_index", defArgs s_law_index, defBody s_law_index, defScope s_law_index, [], []⟩,
  ⟨("_law_same", none), "_law_same", "_law_same", defArgs s_law_same, defBody s_law_same, defScope s_law_same, [], []⟩,
  ⟨("_law_number", none), "_law_number", "_law_number", defArgs s_law_number, defBody s_law_number, defScope s_law_number, [], []⟩,
  ⟨("_law_rows", none), "_law_rows", "_law_rows", defArgs s_law_rows, defBody s_law_rows, defScope s_law_rows, [], []⟩,
  ⟨("_law_marks", none), "_law_marks", "_law_marks", defArgs s_law_marks, defBody s_law_marks, defScope s_law_marks, [], []⟩,
  ⟨("_law_gap", none), "_law_gap", "_law_gap", defArgs s_law_gap, defBody s_law_gap, defScope s_law_gap, [], []⟩,
  ⟨("_law_spans", none), "_law_spans", "_law_spans", defArgs s_law_spans, defBody s_law_spans, defScope s_law_spans, [], []⟩,
  ⟨("_law_places", none), "_law_places", "_law_places", defArgs s_law_places, defBody s_law_places, defScope s_law_places, [], []⟩,
  ⟨("_law_are_level", none), "_law_are_level", "_law_are_level", defArgs s_law_are_level, defBody s_law_are_level, defScope s_law_are_level, [], []⟩,
  ⟨("_law_told", none), "_law_told", "_law_told", defArgs s_law_told, defBody s_law_told, defScope s_law_told, [], []⟩,
  ⟨("_law_is_right", none), "_law_is_right", "_law_is_right", defArgs s_law_is_right, defBody s_law_is_right, defScope s_law_is_right, [], []⟩,
  ⟨("_law_wrong_mark", none), "_law_wrong_mark", "_law_wrong_mark", defArgs s_law_wrong_mark, defBody s_law_wrong_mark, defScope s_law_wrong_mark, [], []⟩,
  ⟨("_law_unnested", none), "_law_unnested", "_law_unnested", defArgs s_law_unnested, defBody s_law_unnested, defScope s_law_unnested, [], []⟩,
  ⟨("_law_refused", none), "_law_refused", "_law_refused", defArgs s_law_refused, defBody s_law_refused, defScope s_law_refused, [], []⟩,
  ⟨("law", none), "law", "law", defArgs s_law, defBody s_law, defScope s_law, [], []⟩]
def loose0 : List Str := ["is_whole",
  "PageError",
  "BadList",
  "BadMarks",
  "OPEN",
  "CLOSE",
  "BREAK",
  "MOVE",
  "LENGTHS",
  "gap",
  "gap_of",
  "is_mark",
  "are_nested",
  "runs_of",
  "last_closes",
  "runs_in",
  "_law_stream",
  "_law_pick",
  "_law_index",
  "_law_same",
  "_law_number",
  "_law_rows",
  "_law_marks",
  "_law_gap",
  "_law_spans",
  "_law_places",
  "_law_are_level",
  "_law_told",
  "_law_is_right",
  "_law_wrong_mark"]
def loose1 : List Str := ["_law_unnested",
  "_law_refused"]
def loose : List Str := loose0 ++ loose1
def tbs : List He.Tab := [(fun K => He.ga K "LENGTHS", ["open", "close", "break", "move"])]
def exT (K : PySem.W.Frag) : Bool := exB exCs K && (tabB K (He.ga K "LENGTHS") tab_LENGTHS)
abbrev R : PySem.W.OpenRow := PySem.W.OpenLaw.row PySem.Challenge.rw_pageseen_k48_whole_runs_of_margins
abbrev hk : PySem.W.Hook := He.hookX 4 fa fn tbs [] exT
def ob (s : PySem.W.SharedT) : He.AlX := He.obsX 4 fa fn tbs [] exT (HandSHeadRun.getT s)
theorem ob_eq (s : PySem.W.SharedT) : ob s = hk.obs s.abs := He.obsX_eq (HandSHeadRun.getT_eq s)
set_option maxHeartbeats 0
theorem run0 (w : World) : HandSHeadRun.RunEq R (PySem.W.view R.prog [36]) hk ob 8000 loose (w.withFollow "special-get-raises" false) := by
  intro os
  kernel_rfl
theorem run1 (w : World) : HandSHeadRun.RunEq R (PySem.W.view R.prog [36]) hk ob 8000 loose (w.withFollow "special-get-raises" true) := by
  intro os
  kernel_rfl
theorem run (w : World) : HandSHeadRun.RunEq R (PySem.W.view R.prog [36]) hk ob 8000 loose w := PySem.W.byRow2 "special-get-raises" (P := fun w => HandSHeadRun.RunEq R (PySem.W.view R.prog [36]) hk ob 8000 loose w) run0 run1 w
theorem txt {K : PySem.W.Frag} {h h' : Heap} {mg : Str → Option Value} {w : World} (X : K.In h) (G : h.Ns mainGlobals mg) (c : He.SaysX fa fn tbs [] exT w h' K) : Txt w K mg where
  g_is_whole := He.glo_ok X G (c.t.d.fact 0 (f := .glo "is_whole") rfl)
  d_is_whole := c.t.d.def_ 0 rfl
  g_gap := He.glo_ok X G (c.t.d.fact 1 (f := .glo "gap") rfl)
  d_gap := c.t.d.def_ 1 rfl
  g_gap_of := He.glo_ok X G (c.t.d.fact 2 (f := .glo "gap_of") rfl)
  d_gap_of := c.t.d.def_ 2 rfl
  g_is_mark := He.glo_ok X G (c.t.d.fact 3 (f := .glo "is_mark") rfl)
  d_is_mark := c.t.d.def_ 3 rfl
  g_are_nested := He.glo_ok X G (c.t.d.fact 4 (f := .glo "are_nested") rfl)
  d_are_nested := c.t.d.def_ 4 rfl
  g_runs_of := He.glo_ok X G (c.t.d.fact 5 (f := .glo "runs_of") rfl)
  d_runs_of := c.t.d.def_ 5 rfl
  g_last_closes := He.glo_ok X G (c.t.d.fact 6 (f := .glo "last_closes") rfl)
  d_last_closes := c.t.d.def_ 6 rfl
  g_runs_in := He.glo_ok X G (c.t.d.fact 7 (f := .glo "runs_in") rfl)
  d_runs_in := c.t.d.def_ 7 rfl
  g_law_stream := He.glo_ok X G (c.t.d.fact 8 (f := .glo "_law_stream") rfl)
  d_law_stream := c.t.d.def_ 8 rfl
  g_law_pick := He.glo_ok X G (c.t.d.fact 9 (f := .glo "_law_pick") rfl)
  d_law_pick := c.t.d.def_ 9 rfl
  g_law_index := He.glo_ok X G (c.t.d.fact 10 (f := .glo "_law_index") rfl)
  d_law_index := c.t.d.def_ 10 rfl
  g_law_same := He.glo_ok X G (c.t.d.fact 11 (f := .glo "_law_same") rfl)
  d_law_same := c.t.d.def_ 11 rfl
  g_law_number := He.glo_ok X G (c.t.d.fact 12 (f := .glo "_law_number") rfl)
  d_law_number := c.t.d.def_ 12 rfl
  g_law_rows := He.glo_ok X G (c.t.d.fact 13 (f := .glo "_law_rows") rfl)
  d_law_rows := c.t.d.def_ 13 rfl
  g_law_marks := He.glo_ok X G (c.t.d.fact 14 (f := .glo "_law_marks") rfl)
  d_law_marks := c.t.d.def_ 14 rfl
  g_law_gap := He.glo_ok X G (c.t.d.fact 15 (f := .glo "_law_gap") rfl)
  d_law_gap := c.t.d.def_ 15 rfl
  g_law_spans := He.glo_ok X G (c.t.d.fact 16 (f := .glo "_law_spans") rfl)
  d_law_spans := c.t.d.def_ 16 rfl
  g_law_places := He.glo_ok X G (c.t.d.fact 17 (f := .glo "_law_places") rfl)
  d_law_places := c.t.d.def_ 17 rfl
  g_law_are_level := He.glo_ok X G (c.t.d.fact 18 (f := .glo "_law_are_level") rfl)
  d_law_are_level := c.t.d.def_ 18 rfl
  g_law_told := He.glo_ok X G (c.t.d.fact 19 (f := .glo "_law_told") rfl)
  d_law_told := c.t.d.def_ 19 rfl
  g_law_is_right := He.glo_ok X G (c.t.d.fact 20 (f := .glo "_law_is_right") rfl)
  d_law_is_right := c.t.d.def_ 20 rfl
  g_law_wrong_mark := He.glo_ok X G (c.t.d.fact 21 (f := .glo "_law_wrong_mark") rfl)
  d_law_wrong_mark := c.t.d.def_ 21 rfl
  g_law_unnested := He.glo_ok X G (c.t.d.fact 22 (f := .glo "_law_unnested") rfl)
  d_law_unnested := c.t.d.def_ 22 rfl
  g_law_refused := He.glo_ok X G (c.t.d.fact 23 (f := .glo "_law_refused") rfl)
  d_law_refused := c.t.d.def_ 23 rfl
  g_law := He.glo_ok X G (c.t.d.fact 24 (f := .glo "law") rfl)
  d_law := c.t.d.def_ 24 rfl
  g_LENGTHS := He.glo_ok X G (c.t.d.fact 25 (f := .glo "LENGTHS") rfl)
  t_LENGTHS := tabB_ok (He.ba c.more).2 (c.t.tab 0)
  n_all := He.free_ok X G (c.t.d.fact 26 (f := .free "all") rfl)
  n_any := He.free_ok X G (c.t.d.fact 27 (f := .free "any") rfl)
  n_bool := He.free_ok X G (c.t.d.fact 28 (f := .free "bool") rfl)
  n_dict := He.free_ok X G (c.t.d.fact 29 (f := .free "dict") rfl)
  n_enumerate := He.free_ok X G (c.t.d.fact 30 (f := .free "enumerate") rfl)
  n_int := He.free_ok X G (c.t.d.fact 31 (f := .free "int") rfl)
  n_isinstance := He.free_ok X G (c.t.d.fact 32 (f := .free "isinstance") rfl)
  n_len := He.free_ok X G (c.t.d.fact 33 (f := .free "len") rfl)
  n_list := He.free_ok X G (c.t.d.fact 34 (f := .free "list") rfl)
  n_max := He.free_ok X G (c.t.d.fact 35 (f := .free "max") rfl)
  n_min := He.free_ok X G (c.t.d.fact 36 (f := .free "min") rfl)
  n_range := He.free_ok X G (c.t.d.fact 37 (f := .free "range") rfl)
  n_sorted := He.free_ok X G (c.t.d.fact 38 (f := .free "sorted") rfl)
  n_str := He.free_ok X G (c.t.d.fact 39 (f := .free "str") rfl)
  n_tuple := He.free_ok X G (c.t.d.fact 40 (f := .free "tuple") rfl)
  c_BREAK := ⟨He.str_ok X G (c.t.d.fact 41 (f := .str "BREAK" ("break" : Str)) rfl)⟩
  c_CLOSE := ⟨He.str_ok X G (c.t.d.fact 42 (f := .str "CLOSE" ("close" : Str)) rfl)⟩
  c_MOVE := ⟨He.str_ok X G (c.t.d.fact 43 (f := .str "MOVE" ("move" : Str)) rfl)⟩
  c_OPEN := ⟨He.str_ok X G (c.t.d.fact 44 (f := .str "OPEN" ("open" : Str)) rfl)⟩
  g_PageError := He.glo_ok X G (c.t.d.fact 45 (f := .glo "PageError") rfl)
  g_BadList := He.glo_ok X G (c.t.d.fact 46 (f := .glo "BadList") rfl)
  g_BadMarks := He.glo_ok X G (c.t.d.fact 47 (f := .glo "BadMarks") rfl)
  x_PageError := (exB_at (He.ba c.more).1 (c := 0) (by decide)).1.x
  k_PageError := (exB_at (He.ba c.more).1 (c := 0) (by decide)).1.k
  s_PageError := (exB_at (He.ba c.more).1 (c := 0) (by decide)).1.s
  t_PageError := (exB_at (He.ba c.more).1 (c := 0) (by decide)).1.t
  x_BadList := (exB_at (He.ba c.more).1 (c := 10) (by decide)).1.x
  k_BadList := (exB_at (He.ba c.more).1 (c := 10) (by decide)).1.k
  s_BadList := (exB_at (He.ba c.more).1 (c := 10) (by decide)).1.s
  t_BadList := (exB_at (He.ba c.more).1 (c := 10) (by decide)).1.t
  x_BadMarks := (exB_at (He.ba c.more).1 (c := 11) (by decide)).1.x
  k_BadMarks := (exB_at (He.ba c.more).1 (c := 11) (by decide)).1.k
  s_BadMarks := (exB_at (He.ba c.more).1 (c := 11) (by decide)).1.s
  t_BadMarks := (exB_at (He.ba c.more).1 (c := 11) (by decide)).1.t
  xk := exB_k (He.ba c.more).1
/-! how many -/
theorem len_is_whole (ds : List D) (Q : D → Prop) (E : Nat → Prop) (h : φ_is_whole ds Q E) : ds.length = 1 := by
  unfold φ_is_whole at h
  split at h <;> first | rfl | exact h.elim
theorem len_gap (ds : List D) (Q : D → Prop) (E : Nat → Prop) (h : φ_gap ds Q E) : ds.length = 1 := by
  unfold φ_gap at h
  split at h <;> first | rfl | exact h.elim
theorem len_gap_of (ds : List D) (Q : D → Prop) (E : Nat → Prop) (h : φ_gap_of ds Q E) : ds.length = 1 := by
  unfold φ_gap_of at h
  split at h <;> first | rfl | exact h.elim
theorem len_is_mark (ds : List D) (Q : D → Prop) (E : Nat → Prop) (h : φ_is_mark ds Q E) : ds.length = 1 := by
  unfold φ_is_mark at h
  split at h <;> first | rfl | exact h.elim
theorem len_are_nested (ds : List D) (Q : D → Prop) (E : Nat → Prop) (h : φ_are_nested ds Q E) : ds.length = 1 := by
  unfold φ_are_nested at h
  split at h <;> first | rfl | exact h.elim
theorem len_last_closes (ds : List D) (Q : D → Prop) (E : Nat → Prop) (h : φ_last_closes ds Q E) : ds.length = 2 := by
  unfold φ_last_closes at h
  split at h <;> first | rfl | exact h.elim
theorem len_runs_in (ds : List D) (Q : D → Prop) (E : Nat → Prop) (h : φ_runs_in ds Q E) : ds.length = 1 := by
  unfold φ_runs_in at h
  split at h <;> first | rfl | exact h.elim
theorem len_law_stream (ds : List D) (Q : D → Prop) (E : Nat → Prop) (h : φList ds Q E) : ds.length = 1 := by
  unfold φList at h
  split at h <;> first | rfl | exact h.elim
theorem len_law_index (ds : List D) (Q : D → Prop) (E : Nat → Prop) (h : φ_law_index ds Q E) : ds.length = 2 := by
  unfold φ_law_index at h
  split at h <;> first | rfl | exact h.elim
theorem len_law_number (ds : List D) (Q : D → Prop) (E : Nat → Prop) (h : φ_law_number ds Q E) : ds.length = 1 := by
  unfold φ_law_number at h
  split at h <;> first | rfl | exact h.elim
theorem len_law_rows (ds : List D) (Q : D → Prop) (E : Nat → Prop) (h : φ_law_rows ds Q E) : ds.length = 1 := by
  unfold φ_law_rows at h
  split at h <;> first | rfl | exact h.elim
theorem len_law_marks (ds : List D) (Q : D → Prop) (E : Nat → Prop) (h : φ_law_marks ds Q E) : ds.length = 3 := by
  unfold φ_law_marks at h
  split at h <;> first | rfl | exact h.elim
theorem len_law_spans (ds : List D) (Q : D → Prop) (E : Nat → Prop) (h : φ_law_spans ds Q E) : ds.length = 1 := by
  unfold φ_law_spans at h
  split at h <;> first | rfl | exact h.elim
theorem len_law_places (ds : List D) (Q : D → Prop) (E : Nat → Prop) (h : φ_law_places ds Q E) : ds.length = 1 := by
  unfold φ_law_places at h
  split at h <;> first | rfl | exact h.elim
theorem len_law_are_level (ds : List D) (Q : D → Prop) (E : Nat → Prop) (h : φ_law_are_level ds Q E) : ds.length = 2 := by
  unfold φ_law_are_level at h
  split at h <;> first | rfl | exact h.elim
theorem len_law_told (ds : List D) (Q : D → Prop) (E : Nat → Prop) (h : φ_law_told ds Q E) : ds.length = 2 := by
  unfold φ_law_told at h
  split at h <;> first | rfl | exact h.elim
theorem len_law_wrong_mark (ds : List D) (Q : D → Prop) (E : Nat → Prop) (h : φ_law_wrong_mark ds Q E) : ds.length = 1 := by
  unfold φ_law_wrong_mark at h
  split at h <;> first | rfl | exact h.elim
theorem len_law_unnested (ds : List D) (Q : D → Prop) (E : Nat → Prop) (h : φ_law_unnested ds Q E) : ds.length = 2 := by
  unfold φ_law_unnested at h
  split at h <;> first | rfl | exact h.elim
theorem len_law_refused (ds : List D) (Q : D → Prop) (E : Nat → Prop) (h : φ_law_refused ds Q E) : ds.length = 2 := by
  unfold φ_law_refused at h
  split at h <;> first | rfl | exact h.elim
theorem len_law (ds : List D) (Q : D → Prop) (E : Nat → Prop) (h : φ_law ds Q E) : ds.length = 1 := by
  unfold φ_law φLaw at h
  split at h <;> first | rfl | exact h.elim
theorem base_law_same {P : Program} {w : World} {K : PySem.W.Frag} {mg : Str → Option Value} {base : Heap} (T : Txt w K mg) : CallOk P w K mg base 0 "_law_same" P_law_same (sameN 0) := by
  obtain ⟨fd, F⟩ := T.d_law_same
  refine ⟨⟨fd, ⟨fun vs H Q E h => ?_, fun A outer s H args us vs Q E hr e0 hb hv h => ?_⟩, funLook F, F.bindsA fun _ _ _ _ _ _ us hl => match us, hl with | [_, _], _ => rfl⟩, F.kp, T.g_law_same⟩
  · obtain ⟨_, _, _, _, _, _, z, _⟩ := h
    exact (zero_law_same _ _ _ z).elim
  · obtain ⟨_, _, _, _, _, _, z, _⟩ := h
    exact (zero_law_same _ _ _ z).elim
theorem all {P : Program} {w : World} {K : PySem.W.Frag} {mg : Str → Option Value} (T : Txt w K mg) (base : Heap) : CallOk P w K mg base 7 "law" ["script"] φLaw := by
  have C_law_pick := ok_law_pick (P := P) (w := w) (base := base) T
  have C_is_whole := ok_is_whole (P := P) (w := w) (base := base) T vc_is_whole len_is_whole
  have C_gap := ok_gap (P := P) (w := w) (base := base) T vc_gap len_gap
  have C_runs_of := ok_runs_of (P := P) (w := w) (base := base) T C_gap
  have C_gap_of := ok_gap_of (P := P) (w := w) (base := base) T C_is_whole C_gap vc_gap_of len_gap_of
  have C_is_mark := ok_is_mark (P := P) (w := w) (base := base) T C_is_whole vc_is_mark len_is_mark
  have C_are_nested := ok_are_nested (P := P) (w := w) (base := base) T vc_are_nested len_are_nested
  have C_last_closes := ok_last_closes (P := P) (w := w) (base := base) T vc_last_closes len_last_closes
  have C_runs_in := ok_runs_in (P := P) (w := w) (base := base) T C_is_mark C_are_nested C_runs_of C_last_closes vc_runs_in len_runs_in
  have C_law_stream := ok_law_stream (P := P) (w := w) (base := base) T vc_law_stream len_law_stream
  have C_law_stream := C_law_stream.stream
  have C_law_index := ok_law_index (P := P) (w := w) (base := base) T C_law_pick vc_law_index len_law_index
  have R_law_same := base_law_same (P := P) (w := w) (base := base) T
  have R_law_same := ok_law_same (φ := sameN 1) T R_law_same (vc_law_same (n := 0)) (len_same 1)
  have R_law_same := ok_law_same (φ := sameN 2) T R_law_same (vc_law_same (n := 1)) (len_same 2)
  have R_law_same := ok_law_same (φ := sameN 3) T R_law_same (vc_law_same (n := 2)) (len_same 3)
  have R_law_same := ok_law_same (φ := sameN 4) T R_law_same (vc_law_same (n := 3)) (len_same 4)
  have C_law_same := R_law_same
  have C_law_number := ok_law_number (P := P) (w := w) (base := base) T C_law_pick vc_law_number len_law_number
  have C_law_rows := ok_law_rows (P := P) (w := w) (base := base) T C_law_pick vc_law_rows len_law_rows
  have C_law_marks := ok_law_marks (P := P) (w := w) (base := base) T C_law_pick C_law_number C_law_rows vc_law_marks len_law_marks
  have C_law_gap := ok_law_gap (P := P) (w := w) (base := base) T vc_law_gap len_law_gap
  have C_law_spans := ok_law_spans (P := P) (w := w) (base := base) T vc_law_spans len_law_spans
  have C_law_places := ok_law_places (P := P) (w := w) (base := base) T C_law_spans C_law_gap vc_law_places len_law_places
  have C_law_are_level := ok_law_are_level (P := P) (w := w) (base := base) T C_law_spans vc_law_are_level len_law_are_level
  have C_law_told := ok_law_told (P := P) (w := w) (base := base) T C_gap_of C_runs_in vc_law_told len_law_told
  have C_law_is_right := ok_law_is_right (P := P) (w := w) (base := base) T C_law_places C_law_told C_law_same C_law_are_level
  have C_law_wrong_mark := ok_law_wrong_mark (P := P) (w := w) (base := base) T C_law_pick vc_law_wrong_mark len_law_wrong_mark
  have C_law_unnested := ok_law_unnested (P := P) (w := w) (base := base) T C_law_index C_law_pick vc_law_unnested len_law_unnested
  have C_law_refused := ok_law_refused (P := P) (w := w) (base := base) T C_law_index C_law_unnested C_law_wrong_mark C_law_pick C_law_same C_law_told C_law_number C_law_gap vc_law_refused len_law_refused
  have C_law := ok_law (P := P) (w := w) (base := base) T C_law_stream C_law_pick C_law_marks C_law_is_right C_law_refused vc_law len_law
  exact C_law
end PL.K48
open PySem PySem.W PySem.Calls PyProof.Rows
set_option maxHeartbeats 0
theorem PySem.Challenge.cw_pageseen_k48_whole_runs_of_margins_holds : PySem.Challenge.rw_pageseen_k48_whole_runs_of_margins.Holds := by
  w_on; o_law
  refine HandSHeadRun.head_any (r := OpenLaw.row PySem.Challenge.rw_pageseen_k48_whole_runs_of_margins) (q := view (OpenLaw.row PySem.Challenge.rw_pageseen_k48_whole_runs_of_margins).prog [36]) (H := PL.K48.hk) (ob := PL.K48.ob) (M := 8000) (loose := PL.K48.loose) (d := HandSHeadRun.topDef (OpenLaw.row PySem.Challenge.rw_pageseen_k48_whole_runs_of_margins).prog 36) (kwd := []) PL.K48.ob_eq
    (by kernel_rfl) (fun s => by kernel_rfl) PL.K48.run (by kernel_rfl) (by kernel_rfl) (by kernel_rfl) (by rfl) (by first | assumption | decide +kernel) (by decide +kernel) ⟨rfl, rfl, rfl, rfl, rfl, by decide +kernel⟩ ?hw ?hc
  case hw => w_witness2
  case hc =>
    refine PL.walk_ofP (l := PySem.Challenge.rw_pageseen_k48_whole_runs_of_margins) (k := 7) rfl (by kernel_rfl) ⟨rfl, by decide, by decide⟩ ?F
    intro w mg h Y G
    obtain ⟨K, KX, c⟩ := Y
    have T := PL.K48.txt KX G c
    have e : (HandSHeadRun.topDef (OpenLaw.row PySem.Challenge.rw_pageseen_k48_whole_runs_of_margins).prog 36).name = ("law" : PySem.Str) := by kernel_rfl
    exact ⟨K, KX, by rw [e]; exact T.g_law, fun base => PL.K48.all T base⟩
