import PyProof.Rows.All
import Wide.All
import OpenK.AllK
import Wide.FinOn
import HandS.Dict
import HandS.Evl
import HandS.ExcInit
import HandS.ExcIs
import HandS.ForExc
import HandS.ForMost
import HandS.Gcd
import HandS.Head0
import HandS.Head1
import HandS.Head2
import HandS.Head3
import HandS.HeadEnd
import HandS.HeadHook2
import HandS.HeadHook3
import HandS.HeadHook4
import HandS.IsInst
import HandS.Iter
import HandS.More
import HandS.Rev
import HandS.RevTup
import HandS.SortInts
import HandS.Style
import HandS.Text
import HandS.TupAny
import HandS.TupMul
import HandS.Wide
import PyProof.FitsInt
import PyProof.ListNew
import PyProof.ListRange
import PyProof.ReprHeadsEmpty
import PyProof.ReprLen
import PyProof.ReprRoads
import PySem.Challenge.RW_pageseen_k57_whole_judge_of_shares
set_option Elab.async false
set_option linter.all false
set_option autoImplicit false
set_option maxRecDepth 100000
set_option maxHeartbeats 2000000
/-! A layer of plain data over the hand layer: a value is told as a datum D, the heap is out of sight. -/
namespace PL
open PySem PySem.Spec PyProof.Rows L2
open Evl (Ex)
abbrev St := L2.St

/-- the program's classes of errors, by number -/
def exN : List Str := ["PageError", "BadText", "BadTree", "BadSplice", "BadDeed", "BadPlace", "BadSelector", "BadName", "BadValue", "BadPieces", "BadList", "BadMarks", "BadParts", "BadCell", "BadRow", "NoNode", "NoBox", "NoPage", "NotPlain", "TooLong", "TooManyNodes", "BadKey", "BadQuestion",
  "TooManyActions", "NothingToUndo", "NothingToRedo", "NothingBack", "NothingForward", "BadState"]
def exS (c : Nat) : Str := exN.getD c "PageError"
def exA (K : PySem.W.Frag) (c : Nat) : Addr := He.ga K (exS c)
/-- a datum: what a value is, all the way down. frl: a list that is only read -/
inductive D where
  | non | bl (b : Bool) | int (i : Int) | str (x : Str)
  | lst (xs : List D) | tup (xs : List D)
  | dic (kvs : List (Key × D))
  | frl (xs : List D)
  | vl (v : V)
  | pool
  /-- an error object of class c, what its attribute key holds -/
  | err (c : Nat) (k : Option Str)
/-- a datum, or the list (the dict) that the name in slot i owns -/
inductive T where
  | d (d : D)
  | l (i : Nat)

/-- the stream of numbers: a list of ints whose first one is a place in it -/
def PoolOk (ns : List Int) : Prop := 2 ≤ ns.length ∧ ns.length ≤ 1000000 ∧ ∃ c, ns[0]? = some c ∧ 1 ≤ c ∧ c < (ns.length : Int)
def PoolAt (a : Addr) : Heap → Prop := fun h => ∃ (its : List Value) (n : Nat) (ns : List Int), h.get? a = some { cls := .type "list", data := .seq its.toArray n } ∧ Vals (ns.map V.int) its ∧ PoolOk ns

/-- a list that is only read: locked, or of the written part -/
def FrL (K : PySem.W.Frag) (H : Hp) (a : Addr) (xs : List V) : Prop := (∃ o, H a = some (.frz o (.lst xs))) ∨
  ∃ (o : Obj) (its : Array Value) (n : Nat), K.lookup a = some o ∧ o.cls = .type "list" ∧ o.dict = none ∧ o.data = .seq its n ∧ its.size ≤ sizeLine ∧ Vals xs its.toList
theorem FrL.sq {K : PySem.W.Frag} {H : Hp} {a : Addr} {xs : List V} (h : FrL K H a xs) : SqL K H a xs := by
  rcases h with ⟨o, h⟩ | h
  · exact .inl (.inr ⟨o, h⟩)
  · exact .inr h
theorem FrL.mono {K : PySem.W.Frag} {H H' : Hp} {a : Addr} {xs : List V} (e : Ex H H') (h : FrL K H a xs) : FrL K H' a xs := by
  rcases h with ⟨o, h⟩ | h
  · exact .inl ⟨o, e _ _ h⟩
  · exact .inr h
/-- an error object that lies at a -/
def ErrAt (K : PySem.W.Frag) (H : Hp) (a : Addr) (c : Nat) : Option Str → Prop
  | none => H a = some (exo a (exA K c) none)
  | some x => ∃ d, H a = some (exo a (exA K c) (some d)) ∧ H d = some (exd d [(("key" : Str), V.str x)])
theorem ErrAt.mono {K : PySem.W.Frag} {H H' : Hp} {a : Addr} {c : Nat} (e : Ex H H') : ∀ {k : Option Str}, ErrAt K H a c k → ErrAt K H' a c k
  | none, h => e _ _ h
  | some _, ⟨d, h1, h2⟩ => ⟨d, e _ _ h1, e _ _ h2⟩
mutual
inductive Rep (K : PySem.W.Frag) (H : Hp) : V → D → Prop
  | non : Rep K H .non .non
  | bl (b : Bool) : Rep K H (.bl b) (.bl b)
  | int (i : Int) : Rep K H (.int i) (.int i)
  | str (x : Str) : Rep K H (.str x) (.str x)
  | lst {a : Addr} {xs : List V} {ds : List D} : H a = some (.lst xs) → Reps K H xs ds → Rep K H (.ref a) (.lst ds)
  | frl {a : Addr} {xs : List V} {ds : List D} : FrL K H a xs → Reps K H xs ds → Rep K H (.ref a) (.frl ds)
  | tup {a : Addr} {xs : List V} {ds : List D} : SqT K H a xs → Reps K H xs ds → Rep K H (.ref a) (.tup ds)
  | dic {a : Addr} {kvs : List (Key × V)} {ds : List (Key × D)} : H a = some (.dK kvs) → kvs.map (·.1) = ds.map (·.1) → Reps K H (kvs.map (·.2)) (ds.map (·.2)) → Rep K H (.ref a) (.dic ds)
  | vl (v : V) : Rep K H v (.vl v)
  | pool {a : Addr} : H a = some (.ext (PoolAt a)) → Rep K H (.ref a) .pool
  | err {a : Addr} {c : Nat} {k : Option Str} : ErrAt K H a c k → Rep K H (.ref a) (.err c k)
inductive Reps (K : PySem.W.Frag) (H : Hp) : List V → List D → Prop
  | nil : Reps K H [] []
  | cons {v : V} {vs : List V} {d : D} {ds : List D} : Rep K H v d → Reps K H vs ds → Reps K H (v :: vs) (d :: ds)
end

section
variable {K : PySem.W.Frag} {H H' : Hp}
mutual
theorem Rep.mono (e : Ex H H') : ∀ {v : V} {d : D}, Rep K H v d → Rep K H' v d
  | _, _, .non => .non
  | _, _, .bl b => .bl b
  | _, _, .int i => .int i
  | _, _, .str x => .str x
  | _, _, .lst h r => .lst (e _ _ h) (Reps.mono e r)
  | _, _, .frl h r => .frl (h.mono e) (Reps.mono e r)
  | _, _, .tup h r => .tup (Evl.ex_t e h) (Reps.mono e r)
  | _, _, .dic h k r => .dic (e _ _ h) k (Reps.mono e r)
  | _, _, .vl v => .vl v
  | _, _, .pool h => .pool (e _ _ h)
  | _, _, .err h => .err (h.mono e)
theorem Reps.mono (e : Ex H H') : ∀ {vs : List V} {ds : List D}, Reps K H vs ds → Reps K H' vs ds
  | _, _, .nil => .nil
  | _, _, .cons r t => .cons (Rep.mono e r) (Reps.mono e t)
end
theorem Reps.len : ∀ {vs : List V} {ds : List D}, Reps K H vs ds → vs.length = ds.length
  | _, _, .nil => rfl
  | _, _, .cons _ t => by rw [List.length_cons, List.length_cons, Reps.len t]
theorem Reps.get : ∀ {vs : List V} {ds : List D} {i : Nat} {d : D}, Reps K H vs ds → ds[i]? = some d → ∃ v, vs[i]? = some v ∧ Rep K H v d
  | _, _, _, _, .nil, e => by simp at e
  | _, _, 0, _, .cons r _, e => by
    have e2 := Option.some.inj e
    subst e2
    exact ⟨_, rfl, r⟩
  | _, _, i + 1, d, .cons _ t, e => by
    obtain ⟨v, h1, h2⟩ := Reps.get (i := i) (d := d) t (by simpa using e)
    exact ⟨v, by simpa using h1, h2⟩
theorem Reps.getV : ∀ {vs : List V} {ds : List D} {i : Nat} {v : V}, Reps K H vs ds → vs[i]? = some v → ∃ d, ds[i]? = some d ∧ Rep K H v d
  | _, _, _, _, .nil, e => by simp at e
  | _, _, 0, _, .cons r _, e => by
    have e2 := Option.some.inj e
    subst e2
    exact ⟨_, rfl, r⟩
  | _, _, i + 1, d, .cons _ t, e => by
    obtain ⟨v, h1, h2⟩ := Reps.getV (i := i) (v := d) t (by simpa using e)
    exact ⟨v, by simpa using h1, h2⟩
theorem Reps.append : ∀ {vs ws : List V} {ds es : List D}, Reps K H vs ds → Reps K H ws es → Reps K H (vs ++ ws) (ds ++ es)
  | _, _, _, _, .nil, s => s
  | _, _, _, _, .cons r t, s => .cons r (Reps.append t s)
theorem Reps.take : ∀ {vs : List V} {ds : List D} (n : Nat), Reps K H vs ds → Reps K H (vs.take n) (ds.take n)
  | _, _, 0, _ => .nil
  | _, _, _ + 1, .nil => .nil
  | _, _, n + 1, .cons r t => .cons r (Reps.take n t)
theorem Reps.drop : ∀ {vs : List V} {ds : List D} (n : Nat), Reps K H vs ds → Reps K H (vs.drop n) (ds.drop n)
  | _, _, 0, r => r
  | _, _, _ + 1, .nil => .nil
  | _, _, n + 1, .cons _ t => Reps.drop n t
theorem Reps.set {v : V} {d : D} (r : Rep K H v d) : ∀ {vs : List V} {ds : List D} (i : Nat), Reps K H vs ds → Reps K H (vs.set i v) (ds.set i d)
  | _, _, _, .nil => .nil
  | _, _, 0, .cons _ t => .cons r t
  | _, _, i + 1, .cons q t => .cons q (Reps.set r i t)
theorem Reps.reverse : ∀ {vs : List V} {ds : List D}, Reps K H vs ds → Reps K H vs.reverse ds.reverse
  | _, _, .nil => .nil
  | _, _, .cons r t => by
    rw [List.reverse_cons, List.reverse_cons]
    exact Reps.append (Reps.reverse t) (.cons r .nil)
theorem Reps.ints : ∀ (ns : List Int), Reps K H (ns.map V.int) (ns.map D.int)
  | [] => .nil
  | n :: r => .cons (.int n) (Reps.ints r)
theorem Reps.bls : ∀ (ns : List Bool), Reps K H (ns.map V.bl) (ns.map D.bl)
  | [] => .nil
  | n :: r => .cons (.bl n) (Reps.bls r)
theorem Reps.strs : ∀ (ns : List Str), Reps K H (ns.map V.str) (ns.map D.str)
  | [] => .nil
  | n :: r => .cons (.str n) (Reps.strs r)
theorem Reps.inv_ints : ∀ {vs : List V} {ns : List Int}, Reps K H vs (ns.map D.int) → vs = ns.map V.int
  | _, [], .nil => rfl
  | _, n :: r, .cons h t => by
    cases h
    rw [Reps.inv_ints t] <;> rfl
theorem Reps.inv_bls : ∀ {vs : List V} {ns : List Bool}, Reps K H vs (ns.map D.bl) → vs = ns.map V.bl
  | _, [], .nil => rfl
  | _, n :: r, .cons h t => by
    cases h
    rw [Reps.inv_bls t] <;> rfl
theorem Reps.inv_strs : ∀ {vs : List V} {ns : List Str}, Reps K H vs (ns.map D.str) → vs = ns.map V.str
  | _, [], .nil => rfl
  | _, n :: r, .cons h t => by
    cases h
    rw [Reps.inv_strs t] <;> rfl
end

/-- what a name's slot holds: a datum, or a list (a dict) of its own -/
inductive S where
  | v (d : D)
  | o (xs : List D)
  | od (kvs : List (Key × D))
def S.own : S → Bool
  | .v _ => false
  | _ => true
abbrev PEnv := List (Option S)

def SlotOk (K : PySem.W.Frag) (F Hs : Hp) (σ : St) (H : Hp) (i : Nat) : S → Prop
  | .v d => ∃ v, σ[i]? = some (some v) ∧ Rep K Hs v d
  | .o ds => ∃ p vs, σ[i]? = some (some (.ref p)) ∧ Hs p = none ∧ F p = none ∧ H p = some (.lst vs) ∧ Reps K Hs vs ds
  | .od ds => ∃ p kvs, σ[i]? = some (some (.ref p)) ∧ Hs p = none ∧ F p = none ∧ H p = some (.dK kvs) ∧ kvs.map (·.1) = ds.map (·.1) ∧ Reps K Hs (kvs.map (·.2)) (ds.map (·.2))

/-- the state: F what others own, Hs what stands still, σ the slots, H the heap, ε what the slots hold -/
structure RelS (K : PySem.W.Frag) (F Hs : Hp) (σ : St) (H : Hp) (ε : PEnv) : Prop where
  ex : Ex Hs H
  fr : ∀ (p : Addr) (o : HO), F p = some o → H p = some o ∧ Hs p = none
  len : σ.length = ε.length
  sl : ∀ (i : Nat) (s : S), ε[i]? = some (some s) → SlotOk K F Hs σ H i s
  ds : ∀ (i j : Nat) (s t : S), i ≠ j → ε[i]? = some (some s) → ε[j]? = some (some t) → s.own = true → t.own = true → σ[i]? ≠ σ[j]?

/-- a value on the way: a datum, or a name's own -/
def RepT (K : PySem.W.Frag) (Hs : Hp) (σ : St) (v : V) : T → Prop
  | .d d => Rep K Hs v d
  | .l i => σ[i]? = some (some v)
theorem RepT.mono {K : PySem.W.Frag} {Hs Hs' : Hp} {σ : St} {v : V} : ∀ {t : T}, Ex Hs Hs' → RepT K Hs σ v t → RepT K Hs' σ v t
  | .d _, e, h => Rep.mono e h
  | .l _, _, h => h

/-- what is seen of a value: its own list, the items stand still -/
inductive RepV (K : PySem.W.Frag) (Hs H : Hp) : V → D → Prop
  | sc {v : V} {d : D} : Rep K Hs v d → RepV K Hs H v d
  | lst {a : Addr} {xs : List V} {ds : List D} : H a = some (.lst xs) → Reps K Hs xs ds → RepV K Hs H (.ref a) (.lst ds)
  | dic {a : Addr} {kvs : List (Key × V)} {ds : List (Key × D)} : H a = some (.dK kvs) → kvs.map (·.1) = ds.map (·.1) → Reps K Hs (kvs.map (·.2)) (ds.map (·.2)) → RepV K Hs H (.ref a) (.dic ds)

/-- what is there, for a look -/
def res (ε : PEnv) : T → (D → Prop) → Prop
  | .d d, Q => Q d
  | .l i, Q => match ε[i]? with
    | some (some (.v d)) => Q d
    | some (some (.o ds)) => Q (.lst ds)
    | some (some (.od ds)) => Q (.dic ds)
    | _ => False
/-- what is there, to be handed on: a name's own stands still from now on -/
def out (ε : PEnv) : T → (D → PEnv → Prop) → Prop
  | .d d, Q => Q d ε
  | .l i, Q => match ε[i]? with
    | some (some (.v d)) => Q d ε
    | some (some (.o ds)) => Q (.lst ds) (ε.set i (some (.v (.lst ds))))
    | some (some (.od ds)) => Q (.dic ds) (ε.set i (some (.v (.dic ds))))
    | _ => False

section
variable {K : PySem.W.Frag} {F Hs H : Hp} {σ : St} {ε : PEnv} {v : V} {d : D}
theorem RelS.res {t : T} {Q : D → Prop} (R : RelS K F Hs σ H ε) (h : RepT K Hs σ v t) (q : res ε t Q) : ∃ d, RepV K Hs H v d ∧ Q d := by
  cases t with
  | d d => exact ⟨d, .sc h, q⟩
  | l i =>
    have h : σ[i]? = some (some v) := h
    unfold PL.res at q
    dsimp only at q
    split at q
    · rename_i d e
      obtain ⟨w, h1, h2⟩ := R.sl i _ e
      rw [h] at h1
      cases h1
      exact ⟨_, .sc h2, q⟩
    · rename_i ds e
      obtain ⟨p, vs, h1, _, _, h2, h3⟩ := R.sl i _ e
      rw [h] at h1
      cases h1
      exact ⟨_, .lst h2 h3, q⟩
    · rename_i ds e
      obtain ⟨p, vs, h1, _, _, h2, h3, h4⟩ := R.sl i _ e
      rw [h] at h1
      cases h1
      exact ⟨_, .dic h2 h3 h4, q⟩
    · exact q.elim
theorem RepV.lst' {ds : List D} (h : RepV K Hs H v (.lst ds)) (ex : Ex Hs H) : ∃ a xs, v = .ref a ∧ H a = some (.lst xs) ∧ Reps K Hs xs ds := by
  cases h with
  | sc h =>
    cases h with
    | lst h r => exact ⟨_, _, rfl, ex _ _ h, r⟩
  | lst h r => exact ⟨_, _, rfl, h, r⟩
theorem RepV.frl' {ds : List D} (h : RepV K Hs H v (.frl ds)) (ex : Ex Hs H) : ∃ a xs, v = .ref a ∧ SqL K H a xs ∧ Reps K Hs xs ds := by
  cases h with
  | sc h =>
    cases h with
    | frl h r => exact ⟨_, _, rfl, Evl.ex_l ex h.sq, r⟩
theorem RepV.tup' {ds : List D} (h : RepV K Hs H v (.tup ds)) (ex : Ex Hs H) : ∃ a xs, v = .ref a ∧ SqT K H a xs ∧ Reps K Hs xs ds := by
  cases h with
  | sc h =>
    cases h with
    | tup h r => exact ⟨_, _, rfl, Evl.ex_t ex h, r⟩
theorem RepV.dic' {ds : List (Key × D)} (h : RepV K Hs H v (.dic ds)) (ex : Ex Hs H) : ∃ a kvs, v = .ref a ∧ H a = some (.dK kvs) ∧ kvs.map (·.1) = ds.map (·.1) ∧ Reps K Hs (kvs.map (·.2)) (ds.map (·.2)) := by
  cases h with
  | sc h =>
    cases h with
    | dic h k r => exact ⟨_, _, rfl, ex _ _ h, k, r⟩
  | dic h k r => exact ⟨_, _, rfl, h, k, r⟩
theorem RepV.int' {i : Int} (h : RepV K Hs H v (.int i)) : v = .int i := by
  cases h with
  | sc h => cases h; rfl
theorem RepV.str' {x : Str} (h : RepV K Hs H v (.str x)) : v = .str x := by
  cases h with
  | sc h => cases h; rfl
theorem RepV.bl' {b : Bool} (h : RepV K Hs H v (.bl b)) : v = .bl b := by
  cases h with
  | sc h => cases h; rfl
theorem RepV.non' (h : RepV K Hs H v .non) : v = .non := by
  cases h with
  | sc h => cases h; rfl
theorem RepV.vl' {u : V} (h : RepV K Hs H v (.vl u)) : v = u := by
  cases h with
  | sc h => cases h; rfl

theorem ex_upd {p : Addr} {o : HO} (h : Hs p = none) : Ex Hs (upd Hs p o) := Evl.Ex.new h

/-- a name's own list is handed on: from now on it stands still -/
theorem RelS.freeze (R : RelS K F Hs σ H ε) {i : Nat} {s : S} (e : ε[i]? = some (some s)) {o : HO} {d : D} {p : Addr} (hs : σ[i]? = some (some (.ref p))) (ho : s.own = true) (hp : Hs p = none) (hF : F p = none) (hH : H p = some o) (hr : Rep K (upd Hs p o) (.ref p) d) :
    RelS K F (upd Hs p o) σ H (ε.set i (some (.v d))) := by
  have ee : Ex Hs (upd Hs p o) := ex_upd hp
  have hi : i < ε.length := (List.getElem?_eq_some_iff.mp e).1
  refine ⟨fun a u q => ?_, fun a u q => ?_, by rw [List.length_set]; exact R.len, fun j t q => ?_, fun j k t u hn h1 h2 h3 h4 => ?_⟩
  · by_cases ha : a = p
    · subst ha
      rw [upd_same] at q
      cases q
      exact hH
    · rw [upd_ne ha] at q
      exact R.ex a u q
  · obtain ⟨h1, h2⟩ := R.fr a u q
    refine ⟨h1, ?_⟩
    rw [upd_ne]
    · exact h2
    · intro z
      subst z
      rw [q] at hF
      cases hF
  · by_cases hj : j = i
    · subst hj
      rw [List.getElem?_set_self hi] at q
      cases q
      exact ⟨_, hs, hr⟩
    · rw [List.getElem?_set_ne (Ne.symm hj)] at q
      have z := R.sl j t q
      cases t with
      | v d' =>
        obtain ⟨w, h1, h2⟩ := z
        exact ⟨w, h1, h2.mono ee⟩
      | o ds =>
        obtain ⟨b, vs, h1, h2, h3, h4, h5⟩ := z
        have nb : b ≠ p := by
          intro z
          subst z
          exact R.ds i j s (.o ds) (Ne.symm hj) e q ho rfl (hs.trans h1.symm)
        exact ⟨b, vs, h1, by rw [upd_ne nb]; exact h2, h3, h4, h5.mono ee⟩
      | od ds =>
        obtain ⟨b, vs, h1, h2, h3, h4, h5, h6⟩ := z
        have nb : b ≠ p := by
          intro z
          subst z
          exact R.ds i j s (.od ds) (Ne.symm hj) e q ho rfl (hs.trans h1.symm)
        exact ⟨b, vs, h1, by rw [upd_ne nb]; exact h2, h3, h4, h5, h6.mono ee⟩
  · have hj : j ≠ i := by
      rintro rfl
      rw [List.getElem?_set_self hi] at h1
      cases h1
      cases h3
    have hk : k ≠ i := by
      rintro rfl
      rw [List.getElem?_set_self hi] at h2
      cases h2
      cases h4
    rw [List.getElem?_set_ne (Ne.symm hj)] at h1
    rw [List.getElem?_set_ne (Ne.symm hk)] at h2
    exact R.ds j k t u hn h1 h2 h3 h4

theorem RelS.out {t : T} {Q : D → PEnv → Prop} (R : RelS K F Hs σ H ε) (h : RepT K Hs σ v t) (q : out ε t Q) : ∃ d ε' Hs', Ex Hs Hs' ∧ RelS K F Hs' σ H ε' ∧ Rep K Hs' v d ∧ Q d ε' := by
  cases t with
  | d d => exact ⟨d, ε, Hs, Evl.Ex.refl _, R, h, q⟩
  | l i =>
    have h : σ[i]? = some (some v) := h
    unfold PL.out at q
    dsimp only at q
    split at q
    · rename_i d e
      obtain ⟨w, h1, h2⟩ := R.sl i _ e
      rw [h] at h1
      cases h1
      exact ⟨_, ε, Hs, Evl.Ex.refl _, R, h2, q⟩
    · rename_i ds e
      obtain ⟨p, vs, h1, h2, h3, h4, h5⟩ := R.sl i _ e
      rw [h] at h1
      cases h1
      have rr : Rep K (upd Hs p (.lst vs)) (.ref p) (.lst ds) := .lst upd_same (h5.mono (ex_upd h2))
      exact ⟨_, _, _, ex_upd h2, R.freeze e h rfl h2 h3 h4 rr, rr, q⟩
    · rename_i ds e
      obtain ⟨p, vs, h1, h2, h3, h4, h5, h6⟩ := R.sl i _ e
      rw [h] at h1
      cases h1
      have rr : Rep K (upd Hs p (.dK vs)) (.ref p) (.dic ds) := .dic upd_same h5 (h6.mono (ex_upd h2))
      exact ⟨_, _, _, ex_upd h2, R.freeze e h rfl h2 h3 h4 rr, rr, q⟩
    · exact q.elim

/-- something new is laid and stands still -/
theorem RelS.new (R : RelS K F Hs σ H ε) {p : Addr} {o : HO} (hp : H p = none) : RelS K F (upd Hs p o) σ (upd H p o) ε ∧ Ex Hs (upd Hs p o) := by
  have hsp : Hs p = none := Evl.fresh_back R.ex hp
  have ee : Ex Hs (upd Hs p o) := ex_upd hsp
  have eh : Ex H (upd H p o) := Evl.Ex.new hp
  refine ⟨⟨fun a u q => ?_, fun a u q => ?_, R.len, fun j t q => ?_, R.ds⟩, ee⟩
  · by_cases ha : a = p
    · subst ha
      rw [upd_same] at q ⊢
      exact q
    · rw [upd_ne ha] at q
      exact eh a u (R.ex a u q)
  · obtain ⟨h1, h2⟩ := R.fr a u q
    refine ⟨eh a u h1, ?_⟩
    rw [upd_ne (ne_of_none h1 hp)]
    exact h2
  · have z := R.sl j t q
    cases t with
    | v d' =>
      obtain ⟨w, h1, h2⟩ := z
      exact ⟨w, h1, h2.mono ee⟩
    | o ds =>
      obtain ⟨b, vs, h1, h2, h3, h4, h5⟩ := z
      exact ⟨b, vs, h1, by rw [upd_ne (ne_of_none h4 hp)]; exact h2, h3, eh _ _ h4, h5.mono ee⟩
    | od ds =>
      obtain ⟨b, vs, h1, h2, h3, h4, h5, h6⟩ := z
      exact ⟨b, vs, h1, by rw [upd_ne (ne_of_none h4 hp)]; exact h2, h3, eh _ _ h4, h5, h6.mono ee⟩
/-- something new is laid that is not yet anybody's -/
theorem RelS.lay (R : RelS K F Hs σ H ε) {p : Addr} {o : HO} (hp : H p = none) : RelS K F Hs σ (upd H p o) ε := by
  have eh : Ex H (upd H p o) := Evl.Ex.new hp
  refine ⟨fun a u q => eh a u (R.ex a u q), fun a u q => ⟨eh a u (R.fr a u q).1, (R.fr a u q).2⟩, R.len, fun j t q => ?_, R.ds⟩
  have z := R.sl j t q
  cases t with
  | v d' => exact z
  | o ds =>
    obtain ⟨b, vs, h1, h2, h3, h4, h5⟩ := z
    exact ⟨b, vs, h1, h2, h3, eh _ _ h4, h5⟩
  | od ds =>
    obtain ⟨b, vs, h1, h2, h3, h4, h5, h6⟩ := z
    exact ⟨b, vs, h1, h2, h3, eh _ _ h4, h5, h6⟩
/-- what was laid and was nobody's stands still from now on -/
theorem RelS.adopt (R : RelS K F Hs σ H ε) {p : Addr} {o : HO} (hH : H p = some o) (hp : Hs p = none) (hF : F p = none) (hn : ∀ (i : Nat) (s : S), ε[i]? = some (some s) → s.own = true → σ[i]? ≠ some (some (.ref p))) : RelS K F (upd Hs p o) σ H ε := by
  have ee : Ex Hs (upd Hs p o) := ex_upd hp
  refine ⟨fun a u q => ?_, fun a u q => ?_, R.len, fun j t q => ?_, R.ds⟩
  · by_cases ha : a = p
    · subst ha
      rw [upd_same] at q
      cases q
      exact hH
    · rw [upd_ne ha] at q
      exact R.ex a u q
  · obtain ⟨h1, h2⟩ := R.fr a u q
    refine ⟨h1, ?_⟩
    rw [upd_ne]
    · exact h2
    · intro z
      subst z
      rw [q] at hF
      cases hF
  · have z := R.sl j t q
    cases t with
    | v d' =>
      obtain ⟨w, h1, h2⟩ := z
      exact ⟨w, h1, h2.mono ee⟩
    | o ds =>
      obtain ⟨b, vs, h1, h2, h3, h4, h5⟩ := z
      have nb : b ≠ p := by
        intro z
        subst z
        exact hn j _ q rfl h1
      exact ⟨b, vs, h1, by rw [upd_ne nb]; exact h2, h3, h4, h5.mono ee⟩
    | od ds =>
      obtain ⟨b, vs, h1, h2, h3, h4, h5, h6⟩ := z
      have nb : b ≠ p := by
        intro z
        subst z
        exact hn j _ q rfl h1
      exact ⟨b, vs, h1, by rw [upd_ne nb]; exact h2, h3, h4, h5, h6.mono ee⟩
/-- a name is stored -/
theorem RelS.store (R : RelS K F Hs σ H ε) (h : Rep K Hs v d) (i : Nat) : RelS K F Hs (σ.set i (some v)) H (ε.set i (some (.v d))) := by
  refine ⟨R.ex, R.fr, by rw [List.length_set, List.length_set]; exact R.len, fun j t q => ?_, fun j k t u hn h1 h2 h3 h4 => ?_⟩
  · by_cases hj : i = j
    · subst hj
      by_cases hi : i < ε.length
      · rw [List.getElem?_set_self hi] at q
        cases q
        exact ⟨v, by rw [List.getElem?_set_self (by rw [R.len]; exact hi)], h⟩
      · rw [List.getElem?_eq_none (by rw [List.length_set]; omega)] at q
        cases q
    · rw [List.getElem?_set_ne hj] at q
      have z := R.sl j t q
      cases t <;> (unfold SlotOk at z ⊢; dsimp only at z ⊢; rw [List.getElem?_set_ne hj]; exact z)
  · have hj : i ≠ j := by
      rintro rfl
      have hi : i < (ε.set i (some (S.v d))).length := (List.getElem?_eq_some_iff.mp h1).1
      rw [List.length_set] at hi
      rw [List.getElem?_set_self hi] at h1
      cases h1
      cases h3
    have hk : i ≠ k := by
      rintro rfl
      have hi : i < (ε.set i (some (S.v d))).length := (List.getElem?_eq_some_iff.mp h2).1
      rw [List.length_set] at hi
      rw [List.getElem?_set_self hi] at h2
      cases h2
      cases h4
    rw [List.getElem?_set_ne hj] at h1 ⊢
    rw [List.getElem?_set_ne hk] at h2 ⊢
    exact R.ds j k t u hn h1 h2 h3 h4
/-- a name takes a list (a dict) of its own -/
theorem RelS.storeO (R : RelS K F Hs σ H ε) {p : Addr} {s : S} (so : s.own = true) (i : Nat) (hn : ∀ (i : Nat) (s : S), ε[i]? = some (some s) → s.own = true → σ[i]? ≠ some (some (.ref p)))
    (h : i < ε.length → SlotOk K F Hs (σ.set i (some (.ref p))) H i s) : RelS K F Hs (σ.set i (some (.ref p))) H (ε.set i (some s)) := by
  refine ⟨R.ex, R.fr, by rw [List.length_set, List.length_set]; exact R.len, fun j t q => ?_, fun j k t u hjk h1 h2 h3 h4 => ?_⟩
  · by_cases hj : i = j
    · subst hj
      by_cases hi : i < ε.length
      · rw [List.getElem?_set_self hi] at q
        cases q
        exact h hi
      · rw [List.getElem?_eq_none (by rw [List.length_set]; omega)] at q
        cases q
    · rw [List.getElem?_set_ne hj] at q
      have z := R.sl j t q
      cases t <;> (unfold SlotOk at z ⊢; dsimp only at z ⊢; rw [List.getElem?_set_ne hj]; exact z)
  · by_cases hj : i = j
    · subst hj
      have hi : i < ε.length := by
        have := (List.getElem?_eq_some_iff.mp h1).1
        rw [List.length_set] at this
        exact this
      rw [List.getElem?_set_self (by rw [R.len]; exact hi)]
      rw [List.getElem?_set_ne hjk] at h2 ⊢
      exact fun e => hn k u h2 h4 e.symm
    · by_cases hk : i = k
      · subst hk
        have hi : i < ε.length := by
          have := (List.getElem?_eq_some_iff.mp h2).1
          rw [List.length_set] at this
          exact this
        rw [List.getElem?_set_self (by rw [R.len]; exact hi)]
        rw [List.getElem?_set_ne hj] at h1 ⊢
        exact hn j t h1 h3
      · rw [List.getElem?_set_ne hj] at h1 ⊢
        rw [List.getElem?_set_ne hk] at h2 ⊢
        exact R.ds j k t u hjk h1 h2 h3 h4
/-- a name's own list (dict) changes -/
theorem RelS.change (R : RelS K F Hs σ H ε) {p : Addr} {o' : HO} {i : Nat} {s s' : S} (e : ε[i]? = some (some s)) (so : s.own = true) (so' : s'.own = true) (hs : σ[i]? = some (some (.ref p))) (hp : Hs p = none) (hF : F p = none)
    (h : SlotOk K F Hs σ (upd H p o') i s') : RelS K F Hs σ (upd H p o') (ε.set i (some s')) := by
  have hi : i < ε.length := (List.getElem?_eq_some_iff.mp e).1
  refine ⟨fun a u q => ?_, fun a u q => ?_, by rw [List.length_set]; exact R.len, fun j t q => ?_, fun j k t u hjk h1 h2 h3 h4 => ?_⟩
  · rw [upd_ne (ne_of_none q hp)]
    exact R.ex a u q
  · rw [upd_ne]
    · exact R.fr a u q
    · intro z
      subst z
      rw [q] at hF
      cases hF
  · by_cases hj : i = j
    · subst hj
      rw [List.getElem?_set_self hi] at q
      cases q
      exact h
    · rw [List.getElem?_set_ne hj] at q
      have z := R.sl j t q
      cases t with
      | v d' => exact z
      | o ds =>
        obtain ⟨b, vs, h1, h2, h3, h4, h5⟩ := z
        have nb : b ≠ p := by
          intro z
          subst z
          exact R.ds i j s _ hj e q so rfl (hs.trans h1.symm)
        exact ⟨b, vs, h1, h2, h3, by rw [upd_ne nb]; exact h4, h5⟩
      | od ds =>
        obtain ⟨b, vs, h1, h2, h3, h4, h5, h6⟩ := z
        have nb : b ≠ p := by
          intro z
          subst z
          exact R.ds i j s _ hj e q so rfl (hs.trans h1.symm)
        exact ⟨b, vs, h1, h2, h3, by rw [upd_ne nb]; exact h4, h5, h6⟩
  · have own_of : ∀ (j : Nat) (t : S), (ε.set i (some s'))[j]? = some (some t) → t.own = true → ∃ t', ε[j]? = some (some t') ∧ t'.own = true := fun j t q ho => by
      by_cases hj : i = j
      · subst hj
        exact ⟨s, e, so⟩
      · rw [List.getElem?_set_ne hj] at q
        exact ⟨t, q, ho⟩
    obtain ⟨t', a1, a2⟩ := own_of j t h1 h3
    obtain ⟨u', b1, b2⟩ := own_of k u h2 h4
    exact R.ds j k t' u' hjk a1 b1 a2 b2
/-- a fresh address is nobody's -/
theorem RelS.nobody (R : RelS K F Hs σ H ε) {p : Addr} (hp : H p = none) : Hs p = none ∧ F p = none ∧ ∀ (i : Nat) (s : S), ε[i]? = some (some s) → s.own = true → σ[i]? ≠ some (some (.ref p)) := by
  refine ⟨Evl.fresh_back R.ex hp, ?_, fun i s e so q => ?_⟩
  · cases h : F p with
    | none => rfl
    | some o =>
      rw [(R.fr p o h).1] at hp
      cases hp
  · have z := R.sl i s e
    cases s with
    | v d => cases so
    | o ds =>
      obtain ⟨b, vs, h1, h2, h3, h4, h5⟩ := z
      rw [q] at h1
      cases h1
      rw [hp] at h4
      cases h4
    | od ds =>
      obtain ⟨b, vs, h1, h2, h3, h4, h5, h6⟩ := z
      rw [q] at h1
      cases h1
      rw [hp] at h4
      cases h4
end
end PL

set_option Elab.async false
set_option linter.all false
set_option autoImplicit false
set_option maxRecDepth 100000
set_option maxHeartbeats 2000000
/-! What an expression yields, over plain data. -/
namespace PL
open PySem PySem.Spec PyProof.Rows L2
open Evl (Ex)

/-- a guard: it goes by computation where it can -/
def gd (p : Prop) [Decidable p] (Q : Prop) : Prop := match decide p with
  | true => Q
  | false => False
theorem gd_elim {p Q : Prop} [Decidable p] (h : gd p Q) : p ∧ Q := by
  unfold gd at h
  split at h
  · rename_i e
    exact ⟨of_decide_eq_true e, h⟩
  · exact h.elim
theorem gd_of {p Q : Prop} [Decidable p] (h : p) (q : Q) : gd p Q := by
  unfold gd
  rw [decide_eq_true h]
  exact q
/-- an answer that is there -/
def opt {α : Type} (o : Option α) (Q : α → Prop) : Prop := match o with
  | some a => Q a
  | none => False
theorem opt_elim {α : Type} {o : Option α} {Q : α → Prop} (h : opt o Q) : ∃ a, o = some a ∧ Q a := by
  cases o with
  | some a => exact ⟨a, rfl, h⟩
  | none => exact h.elim
theorem opt_of {α : Type} {o : Option α} {a : α} {Q : α → Prop} (e : o = some a) (q : Q a) : opt o Q := by
  rw [e]
  exact q
abbrev PTE := PEnv → (T → PEnv → Prop) → Prop
abbrev PTN := PEnv → (List D → PEnv → Prop) → Prop
abbrev PTL := PEnv → (List T → PEnv → Prop) → Prop
abbrev PTT := PEnv → (Bool → PEnv → Prop) → Prop

abbrev Xi := Nat → PEnv → Prop
/-- what a raised class is to meet -/
def Lk (K : PySem.W.Frag) (F Hs : Hp) (W : WX) (Ξ : Xi) : Prop := ∀ c (σ' : St) (H' Hs' : Hp) (ε' : PEnv), Ξ c ε' → Ex Hs Hs' → RelS K F Hs' σ' H' ε' → W (.ref (exA K c)) none σ' H'
theorem Lk.mono {K : PySem.W.Frag} {F Hs Hs' : Hp} {W : WX} {Ξ : Xi} (e : Ex Hs Hs') (h : Lk K F Hs W Ξ) : Lk K F Hs' W Ξ := fun c σ' H' Hs2 ε' x e2 R => h c σ' H' Hs2 ε' x (e.trans e2) R
abbrev W0 : WX := fun _ _ _ _ => False
abbrev Ξ0 : Xi := fun _ _ => False
theorem Lk.none {K : PySem.W.Frag} {F Hs : Hp} {W : WX} : Lk K F Hs W Ξ0 := fun _ _ _ _ _ x => x.elim

def KE (K : PySem.W.Frag) (F Hs : Hp) (σ : St) (Q' : T → PEnv → Prop) (Q : VK) : Prop :=
  ∀ (v : V) (H' Hs' : Hp) (t : T) (ε' : PEnv), Ex Hs Hs' → RelS K F Hs' σ H' ε' → RepT K Hs' σ v t → Q' t ε' → Q v H'
structure YE (X : Cx) (W : WX) (Ξ : Xi) (e : Expr) (r : PTE) : Prop where
  ex : ∃ t, PE X e t ∧ ∀ (F Hs : Hp) (σ : St) (H : Hp) (ε : PEnv) (Q' : T → PEnv → Prop) (Q : VK), RelS X.K F Hs σ H ε → Lk X.K F Hs W Ξ → r ε Q' → KE X.K F Hs σ Q' Q → t σ H Q
/-- a new list, nobody's yet -/
def KN (K : PySem.W.Frag) (F Hs : Hp) (σ : St) (Q' : List D → PEnv → Prop) (Q : VK) : Prop :=
  ∀ (p : Addr) (H' Hs' : Hp) (vs : List V) (ds : List D) (ε' : PEnv), Ex Hs Hs' → RelS K F Hs' σ H' ε' → H' p = some (.lst vs) → Hs' p = none → F p = none →
    (∀ (i : Nat) (s : S), ε'[i]? = some (some s) → s.own = true → σ[i]? ≠ some (some (.ref p))) → Reps K Hs' vs ds → Q' ds ε' → Q (.ref p) H'
structure YN (X : Cx) (W : WX) (Ξ : Xi) (e : Expr) (r : PTN) : Prop where
  ex : ∃ t, PE X e t ∧ ∀ (F Hs : Hp) (σ : St) (H : Hp) (ε : PEnv) (Q' : List D → PEnv → Prop) (Q : VK), RelS X.K F Hs σ H ε → Lk X.K F Hs W Ξ → r ε Q' → KN X.K F Hs σ Q' Q → t σ H Q
inductive RepTs (K : PySem.W.Frag) (Hs : Hp) (σ : St) : List V → List T → Prop
  | nil : RepTs K Hs σ [] []
  | cons {v : V} {vs : List V} {t : T} {ts : List T} : RepT K Hs σ v t → RepTs K Hs σ vs ts → RepTs K Hs σ (v :: vs) (t :: ts)
theorem RepTs.mono {K : PySem.W.Frag} {Hs Hs' : Hp} {σ : St} (e : Ex Hs Hs') : ∀ {vs : List V} {ts : List T}, RepTs K Hs σ vs ts → RepTs K Hs' σ vs ts
  | _, _, .nil => .nil
  | _, _, .cons r t => .cons (r.mono e) (RepTs.mono e t)
def KL (K : PySem.W.Frag) (F Hs : Hp) (σ : St) (Q' : List T → PEnv → Prop) (Q : List V → Hp → Prop) : Prop :=
  ∀ (vs : List V) (H' Hs' : Hp) (ts : List T) (ε' : PEnv), Ex Hs Hs' → RelS K F Hs' σ H' ε' → RepTs K Hs' σ vs ts → Q' ts ε' → Q vs H'
structure YL (X : Cx) (W : WX) (Ξ : Xi) (es : List Expr) (r : PTL) : Prop where
  ex : ∃ t, PA X es t ∧ ∀ (F Hs : Hp) (σ : St) (H : Hp) (ε : PEnv) (Q' : List T → PEnv → Prop) (Q : List V → Hp → Prop), RelS X.K F Hs σ H ε → Lk X.K F Hs W Ξ → r ε Q' → KL X.K F Hs σ Q' Q → t σ H Q
def KT (K : PySem.W.Frag) (F Hs : Hp) (σ : St) (Q' : Bool → PEnv → Prop) (Q : Bool → Hp → Prop) : Prop :=
  ∀ (b : Bool) (H' Hs' : Hp) (ε' : PEnv), Ex Hs Hs' → RelS K F Hs' σ H' ε' → Q' b ε' → Q b H'
structure YT (X : Cx) (W : WX) (Ξ : Xi) (e : Expr) (r : PTT) : Prop where
  ex : ∃ t, PT X e t ∧ ∀ (F Hs : Hp) (σ : St) (H : Hp) (ε : PEnv) (Q' : Bool → PEnv → Prop) (Q : Bool → Hp → Prop), RelS X.K F Hs σ H ε → Lk X.K F Hs W Ξ → r ε Q' → KT X.K F Hs σ Q' Q → t σ H Q
/-- and, or: a test whatever its whole is -/
structure YW (X : Cx) (W : WX) (Ξ : Xi) (e : Expr) (r : PTT) : Prop where
  ex : ∃ t, PW X e t ∧ ∀ (F Hs : Hp) (σ : St) (H : Hp) (ε : PEnv) (Q' : Bool → PEnv → Prop) (Q : Bool → Hp → Prop), RelS X.K F Hs σ H ε → Lk X.K F Hs W Ξ → r ε Q' → KT X.K F Hs σ Q' Q → t σ H Q

def outs : PEnv → List T → (List D → PEnv → Prop) → Prop
  | ε, [], Q => Q [] ε
  | ε, t :: ts, Q => out ε t fun d ε' => outs ε' ts fun ds ε'' => Q (d :: ds) ε''
def ress (ε : PEnv) : List T → (List D → Prop) → Prop
  | [], Q => Q []
  | t :: ts, Q => res ε t fun d => ress ε ts fun ds => Q (d :: ds)
inductive RepVs (K : PySem.W.Frag) (Hs H : Hp) : List V → List D → Prop
  | nil : RepVs K Hs H [] []
  | cons {v : V} {vs : List V} {d : D} {ds : List D} : RepV K Hs H v d → RepVs K Hs H vs ds → RepVs K Hs H (v :: vs) (d :: ds)

section
variable {K : PySem.W.Frag} {F Hs H : Hp} {σ : St} {ε : PEnv} {v : V} {d : D}
theorem RelS.outs : ∀ {ts : List T} {vs : List V} {Hs : Hp} {ε : PEnv} {Q : List D → PEnv → Prop}, RelS K F Hs σ H ε → RepTs K Hs σ vs ts → outs ε ts Q → ∃ ds ε' Hs', Ex Hs Hs' ∧ RelS K F Hs' σ H ε' ∧ Reps K Hs' vs ds ∧ Q ds ε'
  | [], _, Hs, ε, Q, R, .nil, q => ⟨[], ε, Hs, Evl.Ex.refl _, R, .nil, q⟩
  | t :: ts, _, Hs, ε, Q, R, .cons r rs, q => by
    obtain ⟨d, ε1, Hs1, e1, R1, p1, q1⟩ := R.out r q
    obtain ⟨ds, ε2, Hs2, e2, R2, p2, q2⟩ := RelS.outs R1 (rs.mono e1) q1
    exact ⟨d :: ds, ε2, Hs2, e1.trans e2, R2, .cons (p1.mono e2) p2, q2⟩
theorem RelS.ress (R : RelS K F Hs σ H ε) : ∀ {ts : List T} {vs : List V} {Q : List D → Prop}, RepTs K Hs σ vs ts → ress ε ts Q → ∃ ds, RepVs K Hs H vs ds ∧ Q ds
  | [], _, Q, .nil, q => ⟨[], .nil, q⟩
  | t :: ts, _, Q, .cons r rs, q => by
    obtain ⟨d, p1, q1⟩ := R.res r q
    obtain ⟨ds, p2, q2⟩ := RelS.ress R rs q1
    exact ⟨d :: ds, .cons p1 p2, q2⟩
end

section
variable {X : Cx} {W : WX} {Ξ : Xi} {a b c : Expr} {es : List Expr} {pos : Pos}

/-! ### names, constants -/
def yVar (i : Nat) : PTE := fun ε Q => match ε[i]? with
  | some (some (.v d)) => Q (.d d) ε
  | some (some (.o _)) => Q (.l i) ε
  | some (some (.od _)) => Q (.l i) ε
  | _ => False
theorem ye_var (i : Nat) {x : Str} {pos : Pos} (hN : X.N[i]? = some x := by rfl) (hv : Vis X.env.scope x := by first | exact Or.inl rfl | exact Or.inr (Or.inl rfl) | exact Or.inr (Or.inr rfl)) (hd : (x == ("__debug__" : Str)) = false := by decide)
    (hcd : (x == ("__classdict__" : Str)) = false := by decide) : YE X W Ξ (.Name x pos) (yVar i) := by
  refine ⟨tVar i, pe_var hN hv hd hcd, fun F Hs σ H ε Q' Q R _ q k => ?_⟩
  unfold yVar at q
  split at q
  · rename_i d e
    obtain ⟨v, h1, h2⟩ := R.sl i _ e
    exact ⟨v, h1, k v H Hs (.d d) ε (Evl.Ex.refl _) R h2 q⟩
  · rename_i ds e
    obtain ⟨p, vs, h1, _⟩ := R.sl i _ e
    exact ⟨_, h1, k _ H Hs (.l i) ε (Evl.Ex.refl _) R h1 q⟩
  · rename_i ds e
    obtain ⟨p, vs, h1, _⟩ := R.sl i _ e
    exact ⟨_, h1, k _ H Hs (.l i) ε (Evl.Ex.refl _) R h1 q⟩
  · exact q.elim
def yC (d : D) : PTE := fun ε Q => Q (.d d) ε
theorem ye_c {v : V} {d : D} (h : PE X a (tC v)) (r : ∀ K H, Rep K H v d) : YE X W Ξ a (yC d) := ⟨_, h, fun F Hs σ H ε Q' Q R _ q k => k v H Hs (.d d) ε (Evl.Ex.refl _) R (r _ _) q⟩
theorem ye_int {i : Int} {j : Nat} : YE X W Ξ (.Constant (.int i) j pos) (yC (.int i)) := ye_c pe_int fun _ _ => .int i
theorem ye_bl {i : Bool} {j : Nat} : YE X W Ξ (.Constant (.bool i) j pos) (yC (.bl i)) := ye_c pe_bl fun _ _ => .bl i
theorem ye_non {j : Nat} : YE X W Ξ (.Constant .none j pos) (yC .non) := ye_c pe_non fun _ _ => .non
theorem ye_str {x : Str} {j : Nat} : YE X W Ξ (.Constant (.str x) j pos) (yC (.str x)) := ye_c pe_str fun _ _ => .str x
/-- a module's constant -/
theorem ye_glob {x : Str} {d : D} {v : V} {u : Value} (hg : Gl X x) (hm : X.mg x = some u) (r : RelV v u) (rd : ∀ K H, Rep K H v d) (hd : (x == ("__debug__" : Str)) = false := by decide) : YE X W Ξ (.Name x pos) (yC d) := ye_c (pe_glob hg hm r hd) rd

/-- a new list that is handed on -/
def yNew (r : PTN) : PTE := fun ε Q => r ε fun ds ε' => Q (.d (.lst ds)) ε'
theorem YN.ye {r : PTN} (h : YN X W Ξ a r) : YE X W Ξ a (yNew r) := by
  obtain ⟨t, h1, h2⟩ := h.ex
  refine ⟨t, h1, fun F Hs σ H ε Q' Q R L q k => h2 F Hs σ H ε _ Q R L q fun p H' Hs' vs ds ε' e R' g1 g2 g3 g4 rs q' => ?_⟩
  exact k (.ref p) H' _ _ ε' (e.trans (ex_upd g2)) (R'.adopt g1 g2 g3 g4) (show RepT X.K _ σ _ (.d (.lst ds)) from .lst upd_same (rs.mono (ex_upd g2))) q'

/-! ### operators -/
abbrev OP2 := D → D → (D → Prop) → Prop
def OpY (X : Cx) (f : Value → Value → Sem Value) (o : OP2) : Prop := ∃ r, OpR X f r ∧ ∀ (F Hs : Hp) (σ : St) (H : Hp) (ε : PEnv) (v w : V) (d1 d2 : D) (Q' : D → Prop) (Q : VK), RelS X.K F Hs σ H ε → RepV X.K Hs H v d1 → RepV X.K Hs H w d2 → o d1 d2 Q' →
  (∀ z H' Hs' d, Ex Hs Hs' → RelS X.K F Hs' σ H' ε → Rep X.K Hs' z d → Q' d → Q z H') → r v w H Q
def yBin (o : OP2) (ra rb : PTE) : PTE := fun ε Q => ra ε fun t1 ε1 => rb ε1 fun t2 ε2 => res ε2 t1 fun d1 => res ε2 t2 fun d2 => o d1 d2 fun d => Q (.d d) ε2
theorem bin_core {f : Value → Value → Sem Value} {o : OP2} {r : R2} {ra rb : PTE} {ta tb : TE} (h : ∀ (F Hs : Hp) (σ : St) (H : Hp) (ε : PEnv) (v w : V) (d1 d2 : D) (Q' : D → Prop) (Q : VK), RelS X.K F Hs σ H ε → RepV X.K Hs H v d1 → RepV X.K Hs H w d2 → o d1 d2 Q' →
  (∀ z H' Hs' d, Ex Hs Hs' → RelS X.K F Hs' σ H' ε → Rep X.K Hs' z d → Q' d → Q z H') → r v w H Q)
    (ka : ∀ (F Hs : Hp) (σ : St) (H : Hp) (ε : PEnv) (Q' : T → PEnv → Prop) (Q : VK), RelS X.K F Hs σ H ε → Lk X.K F Hs W Ξ → ra ε Q' → KE X.K F Hs σ Q' Q → ta σ H Q)
    (kb : ∀ (F Hs : Hp) (σ : St) (H : Hp) (ε : PEnv) (Q' : T → PEnv → Prop) (Q : VK), RelS X.K F Hs σ H ε → Lk X.K F Hs W Ξ → rb ε Q' → KE X.K F Hs σ Q' Q → tb σ H Q)
    (F Hs : Hp) (σ : St) (H : Hp) (ε : PEnv) (Q' : D → PEnv → Prop) (Q : VK) (R : RelS X.K F Hs σ H ε) (L : Lk X.K F Hs W Ξ)
    (q : ra ε fun t1 ε1 => rb ε1 fun t2 ε2 => res ε2 t1 fun d1 => res ε2 t2 fun d2 => o d1 d2 fun d => Q' d ε2)
    (k : ∀ z H' Hs' d ε', Ex Hs Hs' → RelS X.K F Hs' σ H' ε' → Rep X.K Hs' z d → Q' d ε' → Q z H') : tOp r ta tb σ H Q := by
  refine ka F Hs σ H ε _ _ R L q fun v H1 Hs1 t1 ε1 e1 R1 p1 q1 => ?_
  refine kb F Hs1 σ H1 ε1 _ _ R1 (L.mono e1) q1 fun w H2 Hs2 t2 ε2 e2 R2 p2 q2 => ?_
  obtain ⟨d1, v1, q3⟩ := R2.res (p1.mono e2) q2
  obtain ⟨d2, v2, q4⟩ := R2.res p2 q3
  exact h F Hs2 σ H2 ε2 v w d1 d2 _ Q R2 v1 v2 q4 fun z H' Hs' d e3 R3 p3 q5 => k z H' Hs' d ε2 ((e1.trans e2).trans e3) R3 p3 q5
theorem ye_bin {op : Operator} {o : OP2} {ra rb : PTE} (ho : OpY X (binaryOp op) o) (ha : YE X W Ξ a ra) (hb : YE X W Ξ b rb) : YE X W Ξ (.BinOp a op b pos) (yBin o ra rb) := by
  obtain ⟨r, hr, h⟩ := ho
  obtain ⟨ta, pa, ka⟩ := ha.ex
  obtain ⟨tb, pb, kb⟩ := hb.ex
  exact ⟨_, pe_op hr pa pb, fun F Hs σ H ε Q' Q R L q k => bin_core (f := binaryOp op) h ka kb F Hs σ H ε (fun d ε' => Q' (.d d) ε') Q R L q fun z H' Hs' d ε' e R' p q' => k z H' Hs' (.d d) ε' e R' p q'⟩
theorem ye_cmp {op : CmpOp} {o : OP2} {ra rb : PTE} (ho : OpY X (compareOp op) o) (ha : YE X W Ξ a ra) (hb : YE X W Ξ b rb) (hm : behindInMarks op b = false := by first | exact nomark _ | rfl) : YE X W Ξ (.Compare a [op] [b] pos) (yBin o ra rb) := by
  obtain ⟨r, hr, h⟩ := ho
  obtain ⟨ta, pa, ka⟩ := ha.ex
  obtain ⟨tb, pb, kb⟩ := hb.ex
  exact ⟨_, pe_cmpR hr pa pb hm, fun F Hs σ H ε Q' Q R L q k => bin_core (f := compareOp op) h ka kb F Hs σ H ε (fun d ε' => Q' (.d d) ε') Q R L q fun z H' Hs' d ε' e R' p q' => k z H' Hs' (.d d) ε' e R' p q'⟩
def asB (Q : Bool → Prop) : D → Prop
  | .bl b => Q b
  | _ => False
def yBinT (o : OP2) (ra rb : PTE) : PTT := fun ε Q => ra ε fun t1 ε1 => rb ε1 fun t2 ε2 => res ε2 t1 fun d1 => res ε2 t2 fun d2 => o d1 d2 (asB fun b => Q b ε2)
theorem asB_rep {K : PySem.W.Frag} {H : Hp} {z : V} {d : D} {Q : Bool → Prop} (p : Rep K H z d) (q : asB Q d) : ∃ b, z = .bl b ∧ Q b := by
  cases d with
  | bl b => cases p; exact ⟨b, rfl, q⟩
  | _ => exact False.elim q
theorem yt_cmp {op : CmpOp} {o : OP2} {ra rb : PTE} (ho : OpY X (compareOp op) o) (ha : YE X W Ξ a ra) (hb : YE X W Ξ b rb) (hm : behindInMarks op b = false := by first | exact nomark _ | rfl) : YT X W Ξ (.Compare a [op] [b] pos) (yBinT o ra rb) := by
  obtain ⟨r, hr, h⟩ := ho
  obtain ⟨ta, pa, ka⟩ := ha.ex
  obtain ⟨tb, pb, kb⟩ := hb.ex
  refine ⟨_, pt_cmpR hr pa pb hm, fun F Hs σ H ε Q' Q R L q k => ?_⟩
  refine bin_core (f := compareOp op) h ka kb F Hs σ H ε (fun d ε' => asB (fun b => Q' b ε') d) (fun x H' => ∃ k, x = .bl k ∧ Q k H') R L q fun z H' Hs' d ε' e R' p q' => ?_
  obtain ⟨b, e2, q2⟩ := asB_rep p q'
  exact ⟨b, e2, k b H' Hs' ε' e R' q2⟩
/-- a < b < c, b asked once -/
def yChain (o o' : OP2) (ra rb rc : PTE) : PTE := fun ε Q => ra ε fun t1 ε1 => rb ε1 fun t2 ε2 => res ε2 t1 fun d1 => res ε2 t2 fun d2 => o d1 d2 (asB fun k => match k with
  | true => rc ε2 fun t3 ε3 => res ε3 t2 fun d2 => res ε3 t3 fun d3 => o' d2 d3 fun d => Q (.d d) ε3
  | false => Q (.d (.bl false)) ε2)

/-! ### tests -/
def yB (r : PTE) : PTT := fun ε Q => r ε fun t ε' => res ε' t (asB fun b => Q b ε')
theorem yt_val {r : PTE} (h : YE X W Ξ a r) (he : ∀ whole, isTrue a X.env whole = (do let v ← whole; standAt a.pos; holding [v] (truthy v)) := by intro _; rfl) : YT X W Ξ a (yB r) := by
  obtain ⟨t, p, k⟩ := h.ex
  refine ⟨_, pt_val p he, fun F Hs σ H ε Q' Q R L q kk => k F Hs σ H ε _ _ R L q fun v H' Hs' t ε' e R' p' q' => ?_⟩
  obtain ⟨d, rv, q2⟩ := R'.res p' q'
  cases d with
  | bl b => exact ⟨b, rv.bl', kk b H' Hs' ε' e R' q2⟩
  | _ => exact False.elim q2
/-- a value's truth -/
def truD : D → (Bool → Prop) → Prop
  | .non, Q => Q false
  | .bl b, Q => Q b
  | .int i, Q => Q (i != 0)
  | .str x, Q => gd (x.length ≤ 16777216) (Q ((x.length : Int) != 0))
  | .lst xs, Q => Q (!xs.isEmpty)
  | .tup xs, Q => Q (!xs.isEmpty)
  | .dic xs, Q => Q (!xs.isEmpty)
  | _, _ => False
def yTru (r : PTE) : PTT := fun ε Q => r ε fun t ε' => res ε' t fun d => truD d fun b => Q b ε'
theorem Reps.isEmpty {K : PySem.W.Frag} {H : Hp} {vs : List V} {ds : List D} (r : Reps K H vs ds) : vs.isEmpty = ds.isEmpty := by
  cases r <;> rfl
theorem line_le {n : Nat} (h : n ≤ 16777216) : n ≤ sizeLine := by rw [sizeLine_eq]; exact h
theorem line_lt {n : Nat} (h : n < 16777216) : n < sizeLine := by rw [sizeLine_eq]; exact h
theorem truD_ok {K : PySem.W.Frag} {F Hs H : Hp} {σ : St} {ε : PEnv} {v : V} {d : D} {Q : Bool → Prop} (R : RelS K F Hs σ H ε) (h : RepV K Hs H v d) (q : truD d Q) : ∃ b, TruV K v H b ∧ Q b := by
  cases d with
  | non => rw [h.non']; exact ⟨false, rfl, q⟩
  | bl b => rw [h.bl']; exact ⟨b, rfl, q⟩
  | int i => rw [h.int']; exact ⟨_, rfl, q⟩
  | str x => rw [h.str']; exact ⟨_, ⟨line_le (gd_elim q).1, rfl⟩, (gd_elim q).2⟩
  | lst xs =>
    obtain ⟨p, vs, e, h1, h2⟩ := h.lst' R.ex
    rw [e]
    exact ⟨_, .inl ⟨vs, SqL.of h1, rfl⟩, by rw [h2.isEmpty]; exact q⟩
  | tup xs =>
    obtain ⟨p, vs, e, h1, h2⟩ := h.tup' R.ex
    rw [e]
    exact ⟨_, .inr (.inl ⟨vs, h1, rfl⟩), by rw [h2.isEmpty]; exact q⟩
  | dic xs =>
    obtain ⟨p, vs, e, h1, h2, h3⟩ := h.dic' R.ex
    rw [e]
    refine ⟨_, .inr (.inr ⟨vs, h1, rfl⟩), ?_⟩
    have : vs.isEmpty = xs.isEmpty := by
      have e2 := congrArg List.isEmpty h2
      rw [List.isEmpty_map, List.isEmpty_map] at e2
      exact e2
    rw [this]
    exact q
  | _ => exact False.elim q
theorem yt_tru {r : PTE} (h : YE X W Ξ a r) (he : ∀ whole, isTrue a X.env whole = (do let v ← whole; standAt a.pos; holding [v] (truthy v)) := by intro _; rfl) : YT X W Ξ a (yTru r) := by
  obtain ⟨t, p, k⟩ := h.ex
  refine ⟨_, pt_truth p he, fun F Hs σ H ε Q' Q R L q kk => k F Hs σ H ε _ _ R L q fun v H' Hs' t ε' e R' p' q' => ?_⟩
  obtain ⟨d, rv, q2⟩ := R'.res p' q'
  obtain ⟨b, h1, h2⟩ := truD_ok R' rv q2
  exact ⟨b, h1, kk b H' Hs' ε' e R' h2⟩
def yAnd (ra rb : PTT) : PTT := fun ε Q => ra ε fun k ε' => match k with
  | true => rb ε' Q
  | false => Q false ε'
def yOr (ra rb : PTT) : PTT := fun ε Q => ra ε fun k ε' => match k with
  | true => Q true ε'
  | false => rb ε' Q
def yNot (ra : PTT) : PTT := fun ε Q => ra ε fun k ε' => Q (!k) ε'
theorem YW.yt {r : PTT} (h : YW X W Ξ a r) : YT X W Ξ a r := by
  obtain ⟨t, p, k⟩ := h.ex
  exact ⟨t, p.pt, k⟩
theorem yw_and1 {r : PTT} (h : YT X W Ξ a r) : YW X W Ξ (.BoolOp .And [a] pos) r := by
  obtain ⟨t, p, k⟩ := h.ex
  exact ⟨t, pw_and1 p, k⟩
theorem yw_or1 {r : PTT} (h : YT X W Ξ a r) : YW X W Ξ (.BoolOp .Or [a] pos) r := by
  obtain ⟨t, p, k⟩ := h.ex
  exact ⟨t, pw_or1 p, k⟩
theorem yw_and {ra rb : PTT} (ha : YT X W Ξ a ra) (hb : YW X W Ξ (.BoolOp .And (b :: es) pos) rb) : YW X W Ξ (.BoolOp .And (a :: b :: es) pos) (yAnd ra rb) := by
  obtain ⟨ta, pa, ka⟩ := ha.ex
  obtain ⟨tb, pb, kb⟩ := hb.ex
  refine ⟨_, pw_and pa pb, fun F Hs σ H ε Q' Q R L q k => ka F Hs σ H ε _ _ R L q fun c H1 Hs1 ε1 e1 R1 q1 => ?_⟩
  cases c with
  | true =>
    show (if true = true then _ else _)
    rw [if_pos rfl]
    exact kb F Hs1 σ H1 ε1 _ _ R1 (L.mono e1) q1 fun c' H2 Hs2 ε2 e2 R2 q2 => k c' H2 Hs2 ε2 (e1.trans e2) R2 q2
  | false =>
    show (if false = true then _ else _)
    rw [if_neg Bool.false_ne_true]
    exact k false H1 Hs1 ε1 e1 R1 q1
theorem yw_or {ra rb : PTT} (ha : YT X W Ξ a ra) (hb : YW X W Ξ (.BoolOp .Or (b :: es) pos) rb) : YW X W Ξ (.BoolOp .Or (a :: b :: es) pos) (yOr ra rb) := by
  obtain ⟨ta, pa, ka⟩ := ha.ex
  obtain ⟨tb, pb, kb⟩ := hb.ex
  refine ⟨_, pw_or pa pb, fun F Hs σ H ε Q' Q R L q k => ka F Hs σ H ε _ _ R L q fun c H1 Hs1 ε1 e1 R1 q1 => ?_⟩
  cases c with
  | true =>
    show (if true = true then _ else _)
    rw [if_pos rfl]
    exact k true H1 Hs1 ε1 e1 R1 q1
  | false =>
    show (if false = true then _ else _)
    rw [if_neg Bool.false_ne_true]
    exact kb F Hs1 σ H1 ε1 _ _ R1 (L.mono e1) q1 fun c' H2 Hs2 ε2 e2 R2 q2 => k c' H2 Hs2 ε2 (e1.trans e2) R2 q2
theorem yt_not {r : PTT} (h : YT X W Ξ a r) : YT X W Ξ (.UnaryOp .Not a pos) (yNot r) := by
  obtain ⟨t, p, k⟩ := h.ex
  exact ⟨_, pt_not p, fun F Hs σ H ε Q' Q R L q kk => k F Hs σ H ε _ _ R L q fun c H' Hs' ε' e R' q' => kk (!c) H' Hs' ε' e R' q'⟩
/-! .. as values -/
def yAndV (ra rb : PTE) : PTE := fun ε Q => ra ε fun t ε' => res ε' t (asB fun k => match k with
  | true => rb ε' Q
  | false => Q (.d (.bl false)) ε')
def yOrV (ra rb : PTE) : PTE := fun ε Q => ra ε fun t ε' => res ε' t (asB fun k => match k with
  | true => Q (.d (.bl true)) ε'
  | false => rb ε' Q)
def yNotV (ra : PTE) : PTE := fun ε Q => ra ε fun t ε' => res ε' t fun d => truD d fun k => Q (.d (.bl (!k))) ε'
theorem ye_one {op : BoolOp} {r : PTE} (h : YE X W Ξ a r) : YE X W Ξ (.BoolOp op [a] pos) r := by
  obtain ⟨t, p, k⟩ := h.ex
  exact ⟨t, pe_one p, k⟩
theorem ye_and {ra rb : PTE} (ha : YE X W Ξ a ra) (hb : YE X W Ξ (.BoolOp .And (b :: es) pos) rb) : YE X W Ξ (.BoolOp .And (a :: b :: es) pos) (yAndV ra rb) := by
  obtain ⟨ta, pa, ka⟩ := ha.ex
  obtain ⟨tb, pb, kb⟩ := hb.ex
  refine ⟨_, pe_and pa pb, fun F Hs σ H ε Q' Q R L q k => ka F Hs σ H ε _ _ R L q fun v H1 Hs1 t1 ε1 e1 R1 p1 q1 => ?_⟩
  obtain ⟨d, rv, q2⟩ := R1.res p1 q1
  cases d with
  | bl c =>
    refine ⟨c, rv.bl', ?_⟩
    cases c with
    | true =>
      show tb σ H1 Q
      exact kb F Hs1 σ H1 ε1 _ _ R1 (L.mono e1) q2 fun v' H2 Hs2 t2 ε2 e2 R2 p2 q3 => k v' H2 Hs2 t2 ε2 (e1.trans e2) R2 p2 q3
    | false =>
      show Q (.bl false) H1
      exact k _ H1 Hs1 (.d (.bl false)) ε1 e1 R1 (.bl false) q2
  | _ => exact False.elim q2
theorem ye_or {ra rb : PTE} (ha : YE X W Ξ a ra) (hb : YE X W Ξ (.BoolOp .Or (b :: es) pos) rb) : YE X W Ξ (.BoolOp .Or (a :: b :: es) pos) (yOrV ra rb) := by
  obtain ⟨ta, pa, ka⟩ := ha.ex
  obtain ⟨tb, pb, kb⟩ := hb.ex
  refine ⟨_, pe_or pa pb, fun F Hs σ H ε Q' Q R L q k => ka F Hs σ H ε _ _ R L q fun v H1 Hs1 t1 ε1 e1 R1 p1 q1 => ?_⟩
  obtain ⟨d, rv, q2⟩ := R1.res p1 q1
  cases d with
  | bl c =>
    refine ⟨c, rv.bl', ?_⟩
    cases c with
    | true =>
      show Q (.bl true) H1
      exact k _ H1 Hs1 (.d (.bl true)) ε1 e1 R1 (.bl true) q2
    | false =>
      show tb σ H1 Q
      exact kb F Hs1 σ H1 ε1 _ _ R1 (L.mono e1) q2 fun v' H2 Hs2 t2 ε2 e2 R2 p2 q3 => k v' H2 Hs2 t2 ε2 (e1.trans e2) R2 p2 q3
  | _ => exact False.elim q2
def yIf (rt : PTT) (ra rb : PTE) : PTE := fun ε Q => rt ε fun k ε' => match k with
  | true => ra ε' Q
  | false => rb ε' Q
theorem ye_if {rt : PTT} {ra rb : PTE} (hc : YT X W Ξ c rt) (ha : YE X W Ξ a ra) (hb : YE X W Ξ b rb) : YE X W Ξ (.IfExp c a b pos) (yIf rt ra rb) := by
  obtain ⟨tc, pc, kc⟩ := hc.ex
  obtain ⟨ta, pa, ka⟩ := ha.ex
  obtain ⟨tb, pb, kb⟩ := hb.ex
  refine ⟨_, pe_ifExp pc pa pb, fun F Hs σ H ε Q' Q R L q k => kc F Hs σ H ε _ _ R L q fun c H1 Hs1 ε1 e1 R1 q1 => ?_⟩
  cases c with
  | true =>
    show (if true = true then _ else _)
    rw [if_pos rfl]
    exact ka F Hs1 σ H1 ε1 _ _ R1 (L.mono e1) q1 fun v' H2 Hs2 t2 ε2 e2 R2 p2 q3 => k v' H2 Hs2 t2 ε2 (e1.trans e2) R2 p2 q3
  | false =>
    show (if false = true then _ else _)
    rw [if_neg Bool.false_ne_true]
    exact kb F Hs1 σ H1 ε1 _ _ R1 (L.mono e1) q1 fun v' H2 Hs2 t2 ε2 e2 R2 p2 q3 => k v' H2 Hs2 t2 ε2 (e1.trans e2) R2 p2 q3

/-! ### arguments, displays, calls -/
def ylNil : PTL := fun ε Q => Q [] ε
def ylCons (r : PTE) (rs : PTL) : PTL := fun ε Q => r ε fun t ε1 => rs ε1 fun ts ε2 => Q (t :: ts) ε2
theorem yl_nil : YL X W Ξ [] ylNil := ⟨tNil, pa_nil, fun F Hs σ H ε Q' Q R _ q k => k [] H Hs [] ε (Evl.Ex.refl _) R .nil q⟩
theorem yl_cons {r : PTE} {rs : PTL} (h : YE X W Ξ a r) (hs : YL X W Ξ es rs) (hst : starEach (a :: es) X.env = (false, eval a X.env) :: starEach es X.env := by rfl) : YL X W Ξ (a :: es) (ylCons r rs) := by
  obtain ⟨t, p, k⟩ := h.ex
  obtain ⟨ts, ps, ks⟩ := hs.ex
  refine ⟨_, pa_cons p ps hst, fun F Hs σ H ε Q' Q R L q kk => k F Hs σ H ε _ _ R L q fun v H1 Hs1 t1 ε1 e1 R1 p1 q1 => ?_⟩
  exact ks F Hs1 σ H1 ε1 _ _ R1 (L.mono e1) q1 fun vs H2 Hs2 t2 ε2 e2 R2 p2 q2 => kk (v :: vs) H2 Hs2 (t1 :: t2) ε2 (e1.trans e2) R2 (.cons (p1.mono e2) p2) q2
/-- [a, b, ..] -/
def ynLst (rs : PTL) : PTN := fun ε Q => rs ε fun ts ε1 => outs ε1 ts fun ds ε2 => gd (ds.length ≤ 16777216) (Q ds ε2)
theorem yn_lst {rs : PTL} (h : YL X W Ξ es rs) : YN X W Ξ (.List es pos) (ynLst rs) := by
  obtain ⟨ts, ps, ks⟩ := h.ex
  refine ⟨_, pe_lst ps, fun F Hs σ H ε Q' Q R L q k => ks F Hs σ H ε _ _ R L q fun vs H1 Hs1 t1 ε1 e1 R1 p1 q1 => ?_⟩
  obtain ⟨ds, ε2, Hs2, e2, R2, rs, hq⟩ := R1.outs p1 q1
  obtain ⟨hl, q2⟩ := gd_elim hq
  refine ⟨by rw [rs.len]; exact line_le hl, fun p hp => ?_⟩
  obtain ⟨n1, n2, n3⟩ := R2.nobody hp
  exact k p _ Hs2 vs ds ε2 (e1.trans e2) (R2.lay hp) upd_same n1 n2 n3 rs q2
/-- (a, b, ..) -/
def yTup (rs : PTL) : PTE := fun ε Q => rs ε fun ts ε1 => outs ε1 ts fun ds ε2 => gd (ds.length ≤ 16777216) (Q (.d (.tup ds)) ε2)
theorem ye_tup {rs : PTL} {k : Nat} (h : YL X W Ξ es rs) : YE X W Ξ (.Tuple es k pos) (yTup rs) := by
  obtain ⟨ts, ps, ks⟩ := h.ex
  refine ⟨_, pe_tup ps, fun F Hs σ H ε Q' Q R L q k => ks F Hs σ H ε _ _ R L q fun vs H1 Hs1 t1 ε1 e1 R1 p1 q1 => ?_⟩
  obtain ⟨ds, ε2, Hs2, e2, R2, rs, hq⟩ := R1.outs p1 q1
  obtain ⟨hl, q2⟩ := gd_elim hq
  refine ⟨by rw [rs.len]; exact line_le hl, fun p hp => ?_⟩
  obtain ⟨R3, e3⟩ := R2.new (o := .tup vs) hp
  exact k (.ref p) _ _ (.d (.tup ds)) ε2 ((e1.trans e2).trans e3) R3 (show Rep X.K _ _ (.tup ds) from .tup (SqT.of upd_same) (rs.mono e3)) q2

/-- a built-in's call, by data -/
abbrev OPC := List D → (D → Prop) → Prop
def CallY (X : Cx) (f : Value) (o : OPC) : Prop := ∃ r, CallR X f r ∧ ∀ (F Hs : Hp) (σ : St) (H : Hp) (ε : PEnv) (vs : List V) (ds : List D) (Q' : D → Prop) (Q : VK), RelS X.K F Hs σ H ε → RepVs X.K Hs H vs ds → o ds Q' →
  (∀ z H' Hs' d, Ex Hs Hs' → RelS X.K F Hs' σ H' ε → Rep X.K Hs' z d → Q' d → Q z H') → r vs H Q
/-- .. that makes a list -/
def CallN (X : Cx) (f : Value) (o : List D → (List D → Prop) → Prop) : Prop := ∃ r, CallR X f r ∧ ∀ (F Hs : Hp) (σ : St) (H : Hp) (ε : PEnv) (vs : List V) (ds : List D) (Q' : List D → Prop) (Q : VK), RelS X.K F Hs σ H ε → RepVs X.K Hs H vs ds → o ds Q' →
  (∀ p ws es, H p = none → Reps X.K Hs ws es → Q' es → Q (.ref p) (upd H p (.lst ws))) → r vs H Q
def yCB (o : OPC) (rs : PTL) : PTE := fun ε Q => rs ε fun ts ε1 => ress ε1 ts fun ds => o ds fun d => Q (.d d) ε1
def ynCB (o : List D → (List D → Prop) → Prop) (rs : PTL) : PTN := fun ε Q => rs ε fun ts ε1 => ress ε1 ts fun ds => o ds fun d => Q d ε1
section
variable {x : Str} {p : Pos} {id ty : String} {rs : PTL}
theorem cb_core {f : Value} {o : OPC} {r : List V → Hp → VK → Prop} {ta : TA} (h : ∀ (F Hs : Hp) (σ : St) (H : Hp) (ε : PEnv) (vs : List V) (ds : List D) (Q' : D → Prop) (Q : VK), RelS X.K F Hs σ H ε → RepVs X.K Hs H vs ds → o ds Q' →
  (∀ z H' Hs' d, Ex Hs Hs' → RelS X.K F Hs' σ H' ε → Rep X.K Hs' z d → Q' d → Q z H') → r vs H Q)
    (ka : ∀ (F Hs : Hp) (σ : St) (H : Hp) (ε : PEnv) (Q' : List T → PEnv → Prop) (Q : List V → Hp → Prop), RelS X.K F Hs σ H ε → Lk X.K F Hs W Ξ → rs ε Q' → KL X.K F Hs σ Q' Q → ta σ H Q)
    (F Hs : Hp) (σ : St) (H : Hp) (ε : PEnv) (Q' : T → PEnv → Prop) (Q : VK) (R : RelS X.K F Hs σ H ε) (L : Lk X.K F Hs W Ξ) (q : yCB o rs ε Q') (k : KE X.K F Hs σ Q' Q) : tCB r ta σ H Q := by
  refine ka F Hs σ H ε _ _ R L q fun vs H1 Hs1 t1 ε1 e1 R1 p1 q1 => ?_
  obtain ⟨ds, rv, q2⟩ := R1.ress p1 q1
  exact h F Hs1 σ H1 ε1 vs ds _ Q R1 rv q2 fun z H' Hs' d e2 R2 p2 q3 => k z H' Hs' (.d d) ε1 (e1.trans e2) R2 p2 q3
theorem ye_callB {o : OPC} (hc : CallY X (.builtin id) o) (hg : Gl X x) (hm : X.mg x = none) (hv : bootBuiltins x = some (.builtin id)) (h : YL X W Ξ (a :: es) rs) (hn : x ≠ "__name__" := by decide) (hdb : (x == ("__debug__" : Str)) = false := by decide)
    (he : starEach (a :: es) X.env = (false, eval a X.env) :: starEach es X.env := by rfl) (hpl : (backTo pos (starEach es X.env)).any (·.1) = false := by rfl) : YE X W Ξ (.Call (.Name x p) (a :: es) [] pos) (yCB o rs) := by
  obtain ⟨r, hr, hh⟩ := hc
  obtain ⟨ts, ps, ks⟩ := h.ex
  exact ⟨_, pe_callB hr hg hm hv ps hn hdb he hpl, cb_core (f := .builtin id) hh ks⟩
theorem ye_callTy {o : OPC} (hc : CallY X (.type ty) o) (hg : Gl X x) (hm : X.mg x = none) (hv : bootBuiltins x = some (.type ty)) (h : YL X W Ξ (a :: es) rs) (hn : x ≠ "__name__" := by decide) (hdb : (x == ("__debug__" : Str)) = false := by decide)
    (he : starEach (a :: es) X.env = (false, eval a X.env) :: starEach es X.env := by rfl) (hpl : (backTo pos (starEach es X.env)).any (·.1) = false := by rfl) : YE X W Ξ (.Call (.Name x p) (a :: es) [] pos) (yCB o rs) := by
  obtain ⟨r, hr, hh⟩ := hc
  obtain ⟨ts, ps, ks⟩ := h.ex
  exact ⟨_, pe_callTy hr hg hm hv ps hn hdb he hpl, cb_core (f := .type ty) hh ks⟩
theorem cn_core {f : Value} {o : List D → (List D → Prop) → Prop} {r : List V → Hp → VK → Prop} {ta : TA} (h : ∀ (F Hs : Hp) (σ : St) (H : Hp) (ε : PEnv) (vs : List V) (ds : List D) (Q' : List D → Prop) (Q : VK), RelS X.K F Hs σ H ε → RepVs X.K Hs H vs ds → o ds Q' →
  (∀ p ws es, H p = none → Reps X.K Hs ws es → Q' es → Q (.ref p) (upd H p (.lst ws))) → r vs H Q)
    (ka : ∀ (F Hs : Hp) (σ : St) (H : Hp) (ε : PEnv) (Q' : List T → PEnv → Prop) (Q : List V → Hp → Prop), RelS X.K F Hs σ H ε → Lk X.K F Hs W Ξ → rs ε Q' → KL X.K F Hs σ Q' Q → ta σ H Q)
    (F Hs : Hp) (σ : St) (H : Hp) (ε : PEnv) (Q' : List D → PEnv → Prop) (Q : VK) (R : RelS X.K F Hs σ H ε) (L : Lk X.K F Hs W Ξ) (q : ynCB o rs ε Q') (k : KN X.K F Hs σ Q' Q) : tCB r ta σ H Q := by
  refine ka F Hs σ H ε _ _ R L q fun vs H1 Hs1 t1 ε1 e1 R1 p1 q1 => ?_
  obtain ⟨ds, rv, q2⟩ := R1.ress p1 q1
  refine h F Hs1 σ H1 ε1 vs ds _ Q R1 rv q2 fun p ws es hp p2 q3 => ?_
  obtain ⟨n1, n2, n3⟩ := R1.nobody hp
  exact k p _ Hs1 ws es ε1 e1 (R1.lay hp) upd_same n1 n2 n3 p2 q3
theorem yn_callB {o : List D → (List D → Prop) → Prop} (hc : CallN X (.builtin id) o) (hg : Gl X x) (hm : X.mg x = none) (hv : bootBuiltins x = some (.builtin id)) (h : YL X W Ξ (a :: es) rs) (hn : x ≠ "__name__" := by decide) (hdb : (x == ("__debug__" : Str)) = false := by decide)
    (he : starEach (a :: es) X.env = (false, eval a X.env) :: starEach es X.env := by rfl) (hpl : (backTo pos (starEach es X.env)).any (·.1) = false := by rfl) : YN X W Ξ (.Call (.Name x p) (a :: es) [] pos) (ynCB o rs) := by
  obtain ⟨r, hr, hh⟩ := hc
  obtain ⟨ts, ps, ks⟩ := h.ex
  exact ⟨_, pe_callB hr hg hm hv ps hn hdb he hpl, cn_core (f := .builtin id) hh ks⟩
theorem yn_callTy {o : List D → (List D → Prop) → Prop} (hc : CallN X (.type ty) o) (hg : Gl X x) (hm : X.mg x = none) (hv : bootBuiltins x = some (.type ty)) (h : YL X W Ξ (a :: es) rs) (hn : x ≠ "__name__" := by decide) (hdb : (x == ("__debug__" : Str)) = false := by decide)
    (he : starEach (a :: es) X.env = (false, eval a X.env) :: starEach es X.env := by rfl) (hpl : (backTo pos (starEach es X.env)).any (·.1) = false := by rfl) : YN X W Ξ (.Call (.Name x p) (a :: es) [] pos) (ynCB o rs) := by
  obtain ⟨r, hr, hh⟩ := hc
  obtain ⟨ts, ps, ks⟩ := h.ex
  exact ⟨_, pe_callTy hr hg hm hv ps hn hdb he hpl, cn_core (f := .type ty) hh ks⟩
end

/-! ### a def's promise by data -/
abbrev Spec := List D → (D → Prop) → (Nat → Prop) → Prop
/-- others' objects stand as they stood -/
def Keeps (Hs H Hs' H' : Hp) : Prop := Ex Hs Hs' ∧ Ex Hs' H' ∧ ∀ p o, H p = some o → Hs p = none → H' p = some o ∧ Hs' p = none
def pSp (K : PySem.W.Frag) (φ : Spec) : Sp := fun vs H Q E => ∃ (Hs : Hp) (ds : List D) (Q' : D → Prop) (E' : Nat → Prop), Ex Hs H ∧ Reps K Hs vs ds ∧ φ ds Q' E' ∧
  (∀ d, Q' d → ∀ v H' Hs', Keeps Hs H Hs' H' → Rep K Hs' v d → Q v H') ∧ (∀ c, E' c → ∀ H' Hs', Keeps Hs H Hs' H' → E (.ref (exA K c)) none H')
/-- the caller's state behind a call -/
theorem RelS.called {K : PySem.W.Frag} {F Hs H Hs' H' : Hp} {σ : St} {ε : PEnv} (R : RelS K F Hs σ H ε) (k : Keeps Hs H Hs' H') : RelS K F Hs' σ H' ε := by
  obtain ⟨k1, k2, k3⟩ := k
  refine ⟨k2, fun p o e => ?_, R.len, fun i s e => ?_, R.ds⟩
  · obtain ⟨h1, h2⟩ := R.fr p o e
    exact k3 p o h1 h2
  · have z := R.sl i s e
    cases s with
    | v d =>
      obtain ⟨v, h1, h2⟩ := z
      exact ⟨v, h1, h2.mono k1⟩
    | o ds =>
      obtain ⟨p, vs, h1, h2, h3, h4, h5⟩ := z
      obtain ⟨g1, g2⟩ := k3 p _ h4 h2
      exact ⟨p, vs, h1, g2, h3, g1, h5.mono k1⟩
    | od ds =>
      obtain ⟨p, vs, h1, h2, h3, h4, h5, h6⟩ := z
      obtain ⟨g1, g2⟩ := k3 p _ h4 h2
      exact ⟨p, vs, h1, g2, h3, g1, h5, h6.mono k1⟩
def yCall (φ : Spec) (Ξ : Xi) (rs : PTL) : PTE := fun ε Q => rs ε fun ts ε1 => outs ε1 ts fun ds ε2 => φ ds (fun d => Q (.d d) ε2) fun c => Ξ c ε2
theorem ye_call {φ : Spec} {rs : PTL} {k : Nat} {f : Addr} {fd : FuncData} {ps : List Str} {x : Str} {p : Pos} (Fn : FnOk X.prog X.w X.K X.mg X.base (L2.CX X.prog X.w) k f fd ps (pSp X.K φ)) (tk : Takes X W) (hr : Room k X.A) (hg : Gl X x)
    (hm : X.mg x = some (.ref f)) (hk : PySem.W.keepIn X.K (.ref f) = true) (hb : Binds X.K fd ps []) (h : YL X W Ξ (a :: es) rs) (hdb : (x == ("__debug__" : Str)) = false := by decide)
    (he : starEach (a :: es) X.env = (false, eval a X.env) :: starEach es X.env := by rfl) (hpl : (backTo pos (starEach es X.env)).any (·.1) = false := by rfl) :
    YE X W Ξ (.Call (.Name x p) (a :: es) [] pos) (yCall φ Ξ rs) := by
  obtain ⟨ts, pas, ks⟩ := h.ex
  refine ⟨_, pe_callS Fn hr hg hm hk hb (fun σ => passAt tk σ) pas hdb he hpl, fun F Hs σ H ε Q' Q R L q k => ks F Hs σ H ε _ _ R L q fun vs H1 Hs1 t1 ε1 e1 R1 p1 q1 => ?_⟩
  obtain ⟨ds, ε2, Hs2, e2, R2, rs, q2⟩ := R1.outs p1 q1
  refine ⟨Hs2, ds, _, _, R2.ex, rs, q2, fun d qd v H' Hs' kp rv => ?_, fun c ec H' Hs' kp => ?_⟩
  · exact k v H' Hs' (.d d) ε2 ((e1.trans e2).trans kp.1) (R2.called kp) rv qd
  · exact L c σ H' Hs' ε2 ec ((e1.trans e2).trans kp.1) (R2.called kp)
end
end PL

set_option Elab.async false
set_option linter.all false
set_option autoImplicit false
set_option maxRecDepth 100000
set_option maxHeartbeats 2000000
/-! Operators, built-ins, subscripts, comprehensions, over plain data. -/
namespace PL
open PySem PySem.Spec PyProof.Rows L2
open Evl (Ex)
section
variable {X : Cx}

def oAdd : OP2
  | .int i, .int j, Q => Q (.int (i + j))
  | .str x, .str y, Q => gd (x.length + y.length ≤ 16777216) (Q (.str (x ++ y)))
  | .lst xs, .lst ys, Q => gd (xs.length + ys.length ≤ 16777216) (Q (.lst (xs ++ ys)))
  | _, _, _ => False
def rAddA : R2 := fun x y H Q => (∃ i j, x = .int i ∧ y = .int j ∧ Q (.int (i + j)) H) ∨ (∃ i j, x = .str i ∧ y = .str j ∧ i.length + j.length ≤ sizeLine ∧ Q (.str (i ++ j)) H) ∨ rCat x y H Q
theorem op_addA : OpR X (binaryOp .Add) rAddA := op_add.or (op_add_str.or op_cat)
theorem oy_add : OpY X (binaryOp .Add) oAdd := by
  refine ⟨_, op_addA, fun F Hs σ H ε v w d1 d2 Q' Q R r1 r2 q k => ?_⟩
  unfold oAdd at q
  split at q
  · exact .inl ⟨_, _, r1.int', r2.int', k _ H Hs _ (Evl.Ex.refl _) R (.int _) q⟩
  · have q := gd_elim q
    exact .inr (.inl ⟨_, _, r1.str', r2.str', line_le q.1, k _ H Hs _ (Evl.Ex.refl _) R (.str _) q.2⟩)
  · have q := gd_elim q
    obtain ⟨a, vs, e1, h1, p1⟩ := r1.lst' R.ex
    obtain ⟨b, ws, e2, h2, p2⟩ := r2.lst' R.ex
    refine .inr (.inr ⟨a, b, vs, ws, e1, e2, h1, h2, by rw [p1.len, p2.len]; exact line_le q.1, fun p hp => ?_⟩)
    obtain ⟨R3, e3⟩ := R.new (o := .lst (vs ++ ws)) hp
    exact k (.ref p) _ _ _ e3 R3 (.lst upd_same ((p1.append p2).mono e3)) q.2
  · exact q.elim
def catQ (d1 d2 : D) (Q : List D → Prop) : Prop := match d1, d2 with
  | .lst xs, .lst ys => gd (xs.length + ys.length ≤ 16777216) (Q (xs ++ ys))
  | _, _ => False
theorem catQ_elim {d1 d2 : D} {Q : List D → Prop} (h : catQ d1 d2 Q) : ∃ xs ys, d1 = .lst xs ∧ d2 = .lst ys ∧ xs.length + ys.length ≤ 16777216 ∧ Q (xs ++ ys) := by
  unfold catQ at h
  split at h
  · exact ⟨_, _, rfl, rfl, gd_elim h⟩
  · exact h.elim
/-- a + b, a new list that a name takes -/
def ynAdd (ra rb : PTE) : PTN := fun ε Q => ra ε fun t1 ε1 => rb ε1 fun t2 ε2 => res ε2 t1 fun d1 => res ε2 t2 fun d2 => catQ d1 d2 fun ds => Q ds ε2
theorem yn_add {W : WX} {Ξ : Xi} {a b : Expr} {pos : Pos} {ra rb : PTE} (ha : YE X W Ξ a ra) (hb : YE X W Ξ b rb) : YN X W Ξ (.BinOp a .Add b pos) (ynAdd ra rb) := by
  obtain ⟨ta, pa, ka⟩ := ha.ex
  obtain ⟨tb, pb, kb⟩ := hb.ex
  refine ⟨_, pe_op op_cat pa pb, fun F Hs σ H ε Q' Q R L q k => ?_⟩
  refine ka F Hs σ H ε _ _ R L q fun v H1 Hs1 t1 ε1 e1 R1 p1 q1 => ?_
  refine kb F Hs1 σ H1 ε1 _ _ R1 (L.mono e1) q1 fun w H2 Hs2 t2 ε2 e2 R2 p2 q2 => ?_
  obtain ⟨d1, v1, q3⟩ := R2.res (p1.mono e2) q2
  obtain ⟨d2, v2, q4⟩ := R2.res p2 q3
  obtain ⟨xs, ys, rfl, rfl, hl, q4⟩ := catQ_elim q4
  obtain ⟨a, vs, g1, h1, p1⟩ := v1.lst' R2.ex
  obtain ⟨b, ws, g2, h2, p2⟩ := v2.lst' R2.ex
  refine ⟨a, b, vs, ws, g1, g2, h1, h2, by rw [p1.len, p2.len]; exact line_le hl, fun p hp => ?_⟩
  obtain ⟨n1, n2, n3⟩ := R2.nobody hp
  exact k p _ Hs2 _ _ ε2 (e1.trans e2) (R2.lay hp) upd_same n1 n2 n3 (p1.append p2) q4
def oSub : OP2
  | .int i, .int j, Q => Q (.int (i - j))
  | _, _, _ => False
theorem oy_sub : OpY X (binaryOp .Sub) oSub := by
  refine ⟨_, op_sub, fun F Hs σ H ε v w d1 d2 Q' Q R r1 r2 q k => ?_⟩
  unfold oSub at q
  split at q
  · exact ⟨_, _, r1.int', r2.int', k _ H Hs _ (Evl.Ex.refl _) R (.int _) q⟩
  · exact q.elim
def oMul : OP2
  | .int i, .int j, Q => gd ((-18446744073709551616 < i ∧ i < 18446744073709551616) ∨ (-18446744073709551616 < j ∧ j < 18446744073709551616)) (Q (.int (i * j)))
  | .lst xs, .int k, Q => gd (-9223372036854775808 ≤ k ∧ k < 9223372036854775808 ∧ xs.length * k.toNat ≤ 16777216) (Q (.lst (List.replicate k.toNat xs).flatten))
  | _, _, _ => False
theorem Reps.rep {K : PySem.W.Frag} {H : Hp} {vs : List V} {ds : List D} (h : Reps K H vs ds) : ∀ k : Nat, Reps K H (List.replicate k vs).flatten (List.replicate k ds).flatten
  | 0 => .nil
  | k + 1 => by
    rw [List.replicate_succ, List.flatten_cons, List.replicate_succ, List.flatten_cons]
    exact h.append (Reps.rep h k)
theorem oy_mul : OpY X (binaryOp .Mult) oMul := by
  refine ⟨_, op_mul.or op_rep, fun F Hs σ H ε v w d1 d2 Q' Q R r1 r2 q k => ?_⟩
  unfold oMul at q
  split at q
  · have q := gd_elim q
    refine .inl ⟨_, _, r1.int', r2.int', ?_, k _ H Hs _ (Evl.Ex.refl _) R (.int _) q.2⟩
    exact q.1
  · have q := gd_elim q
    obtain ⟨a, vs, e1, h1, p1⟩ := r1.lst' R.ex
    refine .inr ⟨a, _, vs, e1, r2.int', h1, q.1.1, q.1.2.1, by rw [p1.len]; exact line_le q.1.2.2, fun p hp => ?_⟩
    obtain ⟨R3, e3⟩ := R.new (o := .lst (List.replicate (Int.toNat _) vs).flatten) hp
    exact k (.ref p) _ _ _ e3 R3 (.lst upd_same ((p1.rep _).mono e3)) q.2
  · exact q.elim
def oMod : OP2
  | .int i, .int j, Q => gd (0 < j) (Q (.int (i % j)))
  | _, _, _ => False
theorem oy_mod : OpY X (binaryOp .Mod) oMod := by
  refine ⟨_, op_mod, fun F Hs σ H ε v w d1 d2 Q' Q R r1 r2 q k => ?_⟩
  unfold oMod at q
  split at q
  · have q := gd_elim q
    exact ⟨_, _, r1.int', r2.int', q.1, k _ H Hs _ (Evl.Ex.refl _) R (.int _) q.2⟩
  · exact q.elim
def oFdiv : OP2
  | .int i, .int j, Q => gd (0 < j ∧ j < 1073741824) (Q (.int (i / j)))
  | _, _, _ => False
theorem oy_fdiv : OpY X (binaryOp .FloorDiv) oFdiv := by
  refine ⟨_, op_fdiv, fun F Hs σ H ε v w d1 d2 Q' Q R r1 r2 q k => ?_⟩
  unfold oFdiv at q
  split at q
  · have q := gd_elim q
    exact ⟨_, _, r1.int', r2.int', q.1, k _ H Hs _ (Evl.Ex.refl _) R (.int _) q.2⟩
  · exact q.elim
def oPow : OP2
  | .int i, .int j, Q => gd (0 ≤ j ∧ j ≤ 1000000 ∧ i.natAbs < 18446744073709551616) (Q (.int (i ^ j.toNat)))
  | _, _, _ => False
theorem oy_pow : OpY X (binaryOp .Pow) oPow := by
  refine ⟨_, op_pow, fun F Hs σ H ε v w d1 d2 Q' Q R r1 r2 q k => ?_⟩
  unfold oPow at q
  split at q
  · have q := gd_elim q
    exact ⟨_, _, r1.int', r2.int', q.1, k _ H Hs _ (Evl.Ex.refl _) R (.int _) q.2⟩
  · exact q.elim
def asI (Q : Int → Prop) : D → Prop
  | .int i => Q i
  | _ => False
theorem asI_elim {d : D} {Q : Int → Prop} (h : asI Q d) : ∃ i, d = .int i ∧ Q i := by
  cases d with
  | int i => exact ⟨i, rfl, h⟩
  | _ => exact h.elim
def yNeg (r : PTE) : PTE := fun ε Q => r ε fun t ε' => res ε' t (asI fun i => Q (.d (.int (-i))) ε')
theorem ye_neg {W : WX} {Ξ : Xi} {a : Expr} {pos : Pos} {r : PTE} (h : YE X W Ξ a r) : YE X W Ξ (.UnaryOp .USub a pos) (yNeg r) := by
  obtain ⟨t, p, k⟩ := h.ex
  refine ⟨_, pe_un un_neg p, fun F Hs σ H ε Q' Q R L q kk => k F Hs σ H ε _ _ R L q fun v H' Hs' t ε' e R' p' q' => ?_⟩
  obtain ⟨d, rv, q2⟩ := R'.res p' q'
  obtain ⟨i, rfl, q2⟩ := asI_elim q2
  exact ⟨i, rv.int', kk (.int (-i)) H' Hs' (.d (.int (-i))) ε' e R' (.int _) q2⟩

/-! ### comparisons -/
def oCmpI (f : Int → Int → Bool) : OP2
  | .int i, .int j, Q => Q (.bl (f i j))
  | _, _, _ => False
abbrev oLt : OP2 := oCmpI fun i j => decide (i < j)
abbrev oLe : OP2 := oCmpI fun i j => decide (i ≤ j)
abbrev oGt : OP2 := oCmpI fun i j => decide (j < i)
abbrev oGe : OP2 := oCmpI fun i j => decide (j ≤ i)
theorem oy_cmp {op : CmpOp} {f : Int → Int → Bool} (h : OpR X (compareOp op) (rI0 fun i j => .bl (f i j))) : OpY X (compareOp op) (oCmpI f) := by
  refine ⟨_, h, fun F Hs σ H ε v w d1 d2 Q' Q R r1 r2 q k => ?_⟩
  unfold oCmpI at q
  split at q
  · exact ⟨_, _, r1.int', r2.int', k _ H Hs _ (Evl.Ex.refl _) R (.bl _) q⟩
  · exact q.elim
theorem oy_lt : OpY X (compareOp .Lt) oLt := oy_cmp op_lt
theorem oy_le : OpY X (compareOp .LtE) oLe := oy_cmp op_le
theorem oy_gt : OpY X (compareOp .Gt) oGt := oy_cmp op_gt
theorem oy_ge : OpY X (compareOp .GtE) oGe := oy_cmp op_ge
/-- is None -/
def isNon : D → Bool
  | .non => true
  | _ => false
def knownB : D → Bool
  | .vl _ => false
  | _ => true
def known (d : D) : Prop := knownB d = true
def oIsN (neg : Bool) : OP2
  | d, .non, Q => match knownB d with
    | true => Q (.bl (match neg with
      | true => !isNon d
      | false => isNon d))
    | false => False
  | _, _, _ => False
theorem isN_rep {K : PySem.W.Frag} {Hs H : Hp} {v : V} {d : D} (h : RepV K Hs H v d) (hk : known d) : decide (v = .non) = isNon d := by
  cases h with
  | sc h => cases h <;> first | rfl | cases hk
  | lst _ _ => rfl
  | dic _ _ _ => rfl
theorem oy_isN : OpY X (compareOp .Is) (oIsN false) := by
  refine ⟨_, op_isN, fun F Hs σ H ε v w d1 d2 Q' Q R r1 r2 q k => ?_⟩
  unfold oIsN at q
  split at q
  · refine ⟨r2.non', ?_⟩
    split at q
    · rename_i hk
      rw [isN_rep r1 hk]
      exact k _ H Hs _ (Evl.Ex.refl _) R (.bl _) q
    · exact q.elim
  · exact q.elim
theorem oy_notN : OpY X (compareOp .IsNot) (oIsN true) := by
  refine ⟨_, op_notN, fun F Hs σ H ε v w d1 d2 Q' Q R r1 r2 q k => ?_⟩
  unfold oIsN at q
  split at q
  · refine ⟨r2.non', ?_⟩
    split at q
    · rename_i hk
      rw [isN_rep r1 hk]
      exact k _ H Hs _ (Evl.Ex.refl _) R (.bl _) q
    · exact q.elim
  · exact q.elim

mutual
def D.py : D → PyData
  | .non => .none
  | .bl b => .bool b
  | .int i => .int i
  | .str x => .str x
  | .lst xs => .list (D.pys xs)
  | .frl xs => .list (D.pys xs)
  | .tup xs => .tuple (D.pys xs)
  | _ => .dict []
def D.pys : List D → List PyData
  | [] => []
  | d :: ds => D.py d :: D.pys ds
end
section
variable {K : PySem.W.Frag} {H : Hp}
mutual
theorem Rep.dp : ∀ {v : V} {d : D}, Rep K H v d → (D.py d).canLay0 = true → Dp K H v (D.py d)
  | _, _, .non, _ => .non
  | _, _, .bl b, _ => .bl b
  | _, _, .int i, _ => .int i
  | _, _, .str x, _ => .str x
  | _, _, .lst h r, c => .lst (SqL.of h) (Reps.dp r c)
  | _, _, .frl h r, c => .lst h.sq (Reps.dp r c)
  | _, _, .tup h r, c => .tup h (Reps.dp r c)
theorem Reps.dp : ∀ {vs : List V} {ds : List D}, Reps K H vs ds → PyData.canLayAll0 (D.pys ds) = true → DpAll K H vs (D.pys ds)
  | _, _, .nil, _ => .nil
  | _, _, .cons r t, c => .cons (Rep.dp r (Bool.and_eq_true_iff.mp c).1) (Reps.dp t (Bool.and_eq_true_iff.mp c).2)
end
end
theorem RepV.dp {K : PySem.W.Frag} {Hs H : Hp} {v : V} {d : D} (h : RepV K Hs H v d) (ex : Ex Hs H) (c : (D.py d).canLay0 = true) : Dp K H v (D.py d) := by
  cases h with
  | sc h => exact Rep.dp (h.mono ex) c
  | lst h r => exact .lst (SqL.of h) (Reps.dp (r.mono ex) c)
  | dic h _ _ => cases c
/-- == -/
def eqD (d1 d2 : D) (Q : Bool → Prop) : Prop := match d1, d2 with
  | .int i, .int j => Q (decide (i = j))
  | .str x, .str y => Q (decide (x = y))
  | .bl x, .bl y => Q (decide (x = y))
  | .non, .non => Q true
  | .non, .int _ => Q false
  | .int _, .non => Q false
  | .non, .bl _ => Q false
  | .bl _, .non => Q false
  | .non, .str _ => Q false
  | .str _, .non => Q false
  | .int _, .str _ => Q false
  | .str _, .int _ => Q false
  | .bl _, .str _ => Q false
  | .str _, .bl _ => Q false
  | d1, d2 => gd (SeqAt.shaped (D.py d1) = true ∧ SeqAt.shaped (D.py d2) = true) (Q (PyData.eqv (D.py d1) (D.py d2)))
def oEq (neg : Bool) : OP2 := fun d1 d2 Q => eqD d1 d2 fun b => Q (.bl (match neg with
  | true => !b
  | false => b))
def rEqA (K : PySem.W.Frag) : R2 := fun x y H Q => rEq x y H Q ∨ rEqD K x y H Q
def rNeA (K : PySem.W.Frag) : R2 := fun x y H Q => rNe x y H Q ∨ rNeD K x y H Q
theorem eqD_core {K : PySem.W.Frag} {F Hs H : Hp} {σ : St} {ε : PEnv} {v w : V} {d1 d2 : D} {Q : Bool → Prop} (R : RelS K F Hs σ H ε) (r1 : RepV K Hs H v d1) (r2 : RepV K Hs H w d2) (q : eqD d1 d2 Q) :
    (scal v w = true ∧ Q (decide (v = w))) ∨ ∃ d e, Dp K H v d ∧ Dp K H w e ∧ SeqAt.shaped d = true ∧ SeqAt.shaped e = true ∧ Q (PyData.eqv d e) := by
  unfold eqD at q
  split at q
  · refine .inl ?_; rw [r1.int', r2.int']; refine ⟨rfl, ?_⟩; simpa using q
  · refine .inl ?_; rw [r1.str', r2.str']; refine ⟨rfl, ?_⟩; simpa using q
  · refine .inl ?_; rw [r1.bl', r2.bl']; refine ⟨rfl, ?_⟩; simpa using q
  · refine .inl ?_; rw [r1.non', r2.non']; exact ⟨rfl, q⟩
  · refine .inl ?_; rw [r1.non', r2.int']; exact ⟨rfl, q⟩
  · refine .inl ?_; rw [r1.int', r2.non']; exact ⟨rfl, q⟩
  · refine .inl ?_; rw [r1.non', r2.bl']; exact ⟨rfl, q⟩
  · refine .inl ?_; rw [r1.bl', r2.non']; exact ⟨rfl, q⟩
  · refine .inl ?_; rw [r1.non', r2.str']; exact ⟨rfl, q⟩
  · refine .inl ?_; rw [r1.str', r2.non']; exact ⟨rfl, q⟩
  · refine .inl ?_; rw [r1.int', r2.str']; exact ⟨rfl, q⟩
  · refine .inl ?_; rw [r1.str', r2.int']; exact ⟨rfl, q⟩
  · refine .inl ?_; rw [r1.bl', r2.str']; exact ⟨rfl, q⟩
  · refine .inl ?_; rw [r1.str', r2.bl']; exact ⟨rfl, q⟩
  · have q := gd_elim q
    exact .inr ⟨_, _, r1.dp R.ex (SeqAt.canLay_of_shaped q.1.1), r2.dp R.ex (SeqAt.canLay_of_shaped q.1.2), q.1.1, q.1.2, q.2⟩
theorem oy_eq (hu : X.A.units + 64 < cLine) : OpY X (compareOp .Eq) (oEq false) := by
  refine ⟨rEqA X.K, op_eq.or (op_eqD hu), fun F Hs σ H ε v w d1 d2 Q' Q R r1 r2 q k => ?_⟩
  rcases eqD_core R r1 r2 q with ⟨h1, h2⟩ | ⟨d, e, h1, h2, h3, h4, h5⟩
  · exact .inl ⟨h1, k _ H Hs _ (Evl.Ex.refl _) R (.bl _) h2⟩
  · exact .inr ⟨d, e, h1, h2, h3, h4, k _ H Hs _ (Evl.Ex.refl _) R (.bl _) h5⟩
theorem oy_ne (hu : X.A.units + 64 < cLine) : OpY X (compareOp .NotEq) (oEq true) := by
  refine ⟨rNeA X.K, op_ne.or (op_neD hu), fun F Hs σ H ε v w d1 d2 Q' Q R r1 r2 q k => ?_⟩
  rcases eqD_core R r1 r2 q with ⟨h1, h2⟩ | ⟨d, e, h1, h2, h3, h4, h5⟩
  · exact .inl ⟨h1, k _ H Hs _ (Evl.Ex.refl _) R (.bl _) h2⟩
  · exact .inr ⟨d, e, h1, h2, h3, h4, k _ H Hs _ (Evl.Ex.refl _) R (.bl _) h5⟩

/-! ### subscripts -/
def oIx : OP2
  | .lst xs, .int i, Q => opt (atI xs i) Q
  | .frl xs, .int i, Q => opt (atI xs i) Q
  | .tup xs, .int i, Q => opt (atI xs i) Q
  | .str x, .int i, Q => gd (x.length ≤ 16777216) (opt (atI x.cps.toList i) fun c => Q (.str ⟨#[c]⟩))
  | _, _, _ => False
theorem Reps.atI {K : PySem.W.Frag} {H : Hp} {vs : List V} {ds : List D} {i : Int} {d : D} (r : Reps K H vs ds) (h : L2.atI ds i = some d) : ∃ v, L2.atI vs i = some v ∧ Rep K H v d := by
  unfold L2.atI at h ⊢
  rw [r.len]
  cases e : ixN ds.length i with
  | none => rw [e] at h; cases h
  | some j =>
    rw [e] at h
    exact r.get (i := j) h
def yIx (ra rb : PTE) : PTE := yBin oIx ra rb
theorem ye_ix {W : WX} {Ξ : Xi} {a b : Expr} {pos : Pos} {ra rb : PTE} (ha : YE X W Ξ a ra) (hb : YE X W Ξ b rb) (hs : PlainIx b := by exact fun _ _ => rfl) : YE X W Ξ (.Subscript a b pos) (yIx ra rb) := by
  obtain ⟨ta, pa, ka⟩ := ha.ex
  obtain ⟨tb, pb, kb⟩ := hb.ex
  refine ⟨_, pe_ix ix_seq pa pb hs, fun F Hs σ H ε Q' Q R L q k => ?_⟩
  refine ka F Hs σ H ε _ _ R L q fun v H1 Hs1 t1 ε1 e1 R1 p1 q1 => ?_
  refine kb F Hs1 σ H1 ε1 _ _ R1 (L.mono e1) q1 fun w H2 Hs2 t2 ε2 e2 R2 p2 q2 => ?_
  obtain ⟨d1, v1, q3⟩ := R2.res (p1.mono e2) q2
  obtain ⟨d2, v2, q4⟩ := R2.res p2 q3
  unfold oIx at q4
  split at q4
  · obtain ⟨d, hd, q5⟩ := opt_elim q4
    obtain ⟨a, vs, g1, h1, p1⟩ := v1.lst' R2.ex
    obtain ⟨z, hz, rz⟩ := p1.atI hd
    exact .inl ⟨a, vs, _, z, g1, v2.int', SqL.of h1, hz, k z H2 Hs2 (.d d) ε2 (e1.trans e2) R2 rz q5⟩
  · obtain ⟨d, hd, q5⟩ := opt_elim q4
    obtain ⟨a, vs, g1, h1, p1⟩ := v1.frl' R2.ex
    obtain ⟨z, hz, rz⟩ := p1.atI hd
    exact .inl ⟨a, vs, _, z, g1, v2.int', h1, hz, k z H2 Hs2 (.d d) ε2 (e1.trans e2) R2 rz q5⟩
  · obtain ⟨d, hd, q5⟩ := opt_elim q4
    obtain ⟨a, vs, g1, h1, p1⟩ := v1.tup' R2.ex
    obtain ⟨z, hz, rz⟩ := p1.atI hd
    exact .inr (.inl ⟨a, vs, _, z, g1, v2.int', h1, hz, k z H2 Hs2 (.d d) ε2 (e1.trans e2) R2 rz q5⟩)
  · obtain ⟨hl, q4⟩ := gd_elim q4
    obtain ⟨c, hc, q5⟩ := opt_elim q4
    exact .inr (.inr ⟨_, _, c, v1.str', v2.int', line_le hl, hc, k _ H2 Hs2 (.d _) ε2 (e1.trans e2) R2 (.str _) q5⟩)
  · exact q4.elim
/-- an optional part of a slice -/
abbrev PTO := PEnv → (Option Int → PEnv → Prop) → Prop
structure YO (X : Cx) (W : WX) (Ξ : Xi) (e : Option Expr) (r : PTO) : Prop where
  ex : ∃ t, PO X e t ∧ ∀ (F Hs : Hp) (σ : St) (H : Hp) (ε : PEnv) (Q' : Option Int → PEnv → Prop) (Q : Option Int → Hp → Prop), RelS X.K F Hs σ H ε → Lk X.K F Hs W Ξ → r ε Q' →
    (∀ o H' Hs' ε', Ex Hs Hs' → RelS X.K F Hs' σ H' ε' → Q' o ε' → Q o H') → t σ H Q
def yoNone : PTO := fun ε Q => Q none ε
def yoSome (r : PTE) : PTO := fun ε Q => r ε fun t ε' => res ε' t (asI fun i => Q (some i) ε')
theorem yo_none {W : WX} {Ξ : Xi} : YO X W Ξ none yoNone := ⟨tNoPart, po_none, fun F Hs σ H ε Q' Q R _ q k => k none H Hs ε (Evl.Ex.refl _) R q⟩
theorem yo_some {W : WX} {Ξ : Xi} {a : Expr} {r : PTE} (h : YE X W Ξ a r) : YO X W Ξ (some a) (yoSome r) := by
  obtain ⟨t, p, k⟩ := h.ex
  refine ⟨_, po_some p, fun F Hs σ H ε Q' Q R L q kk => k F Hs σ H ε _ _ R L q fun v H' Hs' t ε' e R' p' q' => ?_⟩
  obtain ⟨d, rv, q2⟩ := R'.res p' q'
  cases d with
  | int i => exact ⟨i, rv.int', kk (some i) H' Hs' ε' e R' q2⟩
  | _ => exact False.elim q2
def cutD {α : Type} (xs : List α) (lo hi : Option Int) : List α := (xs.drop (HT.sIx xs.length 0 lo)).take (HT.sIx xs.length xs.length hi - HT.sIx xs.length 0 lo)
theorem Reps.cut {K : PySem.W.Frag} {H : Hp} {vs : List V} {ds : List D} (r : Reps K H vs ds) (lo hi : Option Int) : Reps K H (cutV vs lo hi) (cutD ds lo hi) := by
  unfold cutV cutD
  rw [r.len]
  exact (r.drop _).take _
def asL (Q : List D → Prop) : D → Prop
  | .lst xs => Q xs
  | _ => False
theorem asL_elim {d : D} {Q : List D → Prop} (h : asL Q d) : ∃ i, d = .lst i ∧ Q i := by
  cases d with
  | lst i => exact ⟨i, rfl, h⟩
  | _ => exact h.elim
/-- xs[a:b], a list -/
def ynSl (ra : PTE) (rl rh : PTO) : PTN := fun ε Q => ra ε fun t ε1 => rl ε1 fun lo ε2 => rh ε2 fun hi ε3 => res ε3 t (asL fun xs => Q (cutD xs lo hi) ε3)
theorem yn_sl {W : WX} {Ξ : Xi} {a : Expr} {lo hi : Option Expr} {pos p2 : Pos} {ra : PTE} {rl rh : PTO} (ha : YE X W Ξ a ra) (hl : YO X W Ξ lo rl) (hh : YO X W Ξ hi rh) : YN X W Ξ (.Subscript a (.Slice lo hi none p2) pos) (ynSl ra rl rh) := by
  obtain ⟨ta, pa, ka⟩ := ha.ex
  obtain ⟨tl, pl, kl⟩ := hl.ex
  obtain ⟨th, ph, kh⟩ := hh.ex
  refine ⟨_, pe_slice sl_list pa pl ph, fun F Hs σ H ε Q' Q R L q k => ?_⟩
  refine ka F Hs σ H ε _ _ R L q fun v H1 Hs1 t1 ε1 e1 R1 p1 q1 => ?_
  refine kl F Hs1 σ H1 ε1 _ _ R1 (L.mono e1) q1 fun l H2 Hs2 ε2 e2 R2 q2 => ?_
  refine kh F Hs2 σ H2 ε2 _ _ R2 (L.mono (e1.trans e2)) q2 fun h H3 Hs3 ε3 e3 R3 q3 => ?_
  obtain ⟨d, v1, q4⟩ := R3.res (p1.mono (e2.trans e3)) q3
  obtain ⟨xs, rfl, q4⟩ := asL_elim q4
  obtain ⟨a, vs, g1, h1, p1⟩ := v1.lst' R3.ex
  refine ⟨a, vs, g1, SqL.of h1, fun p hp => ?_⟩
  obtain ⟨n1, n2, n3⟩ := R3.nobody hp
  exact k p _ Hs3 _ _ ε3 ((e1.trans e2).trans e3) (R3.lay hp) upd_same n1 n2 n3 (p1.cut l h) q4

/-! ### built-ins -/
def oLen : OPC
  | [.lst xs], Q => Q (.int (xs.length : Nat))
  | [.frl xs], Q => Q (.int (xs.length : Nat))
  | [.tup xs], Q => Q (.int (xs.length : Nat))
  | [.str x], Q => gd (x.length ≤ 16777216) (Q (.int (x.length : Nat)))
  | _, _ => False
theorem RepVs.one {K : PySem.W.Frag} {Hs H : Hp} {vs : List V} {d : D} (h : RepVs K Hs H vs [d]) : ∃ v, vs = [v] ∧ RepV K Hs H v d := by
  cases h with
  | cons h t => cases t; exact ⟨_, rfl, h⟩
theorem RepVs.two {K : PySem.W.Frag} {Hs H : Hp} {vs : List V} {d e : D} (h : RepVs K Hs H vs [d, e]) : ∃ v w, vs = [v, w] ∧ RepV K Hs H v d ∧ RepV K Hs H w e := by
  cases h with
  | cons h t =>
    obtain ⟨w, rfl, r⟩ := t.one
    exact ⟨_, _, rfl, h, r⟩
theorem cy_len : CallY X (.builtin "len") oLen := by
  refine ⟨_, call_len, fun F Hs σ H ε vs ds Q' Q R r q k => ?_⟩
  unfold oLen at q
  split at q
  · obtain ⟨v, rfl, rv⟩ := r.one
    obtain ⟨a, ws, g1, h1, p1⟩ := rv.lst' R.ex
    subst g1
    exact ⟨_, ws.length, rfl, .inl ⟨ws, SqL.of h1, rfl⟩, by rw [p1.len]; exact k _ H Hs _ (Evl.Ex.refl _) R (.int _) q⟩
  · obtain ⟨v, rfl, rv⟩ := r.one
    obtain ⟨a, ws, g1, h1, p1⟩ := rv.frl' R.ex
    subst g1
    exact ⟨_, ws.length, rfl, .inl ⟨ws, h1, rfl⟩, by rw [p1.len]; exact k _ H Hs _ (Evl.Ex.refl _) R (.int _) q⟩
  · obtain ⟨v, rfl, rv⟩ := r.one
    obtain ⟨a, ws, g1, h1, p1⟩ := rv.tup' R.ex
    subst g1
    exact ⟨_, ws.length, rfl, .inr ⟨ws, h1, rfl⟩, by rw [p1.len]; exact k _ H Hs _ (Evl.Ex.refl _) R (.int _) q⟩
  · obtain ⟨v, rfl, rv⟩ := r.one
    have q := gd_elim q
    exact ⟨_, _, rfl, by rw [rv.str']; exact ⟨line_le q.1, rfl⟩, k _ H Hs _ (Evl.Ex.refl _) R (.int _) q.2⟩
  · exact q.elim
def oInt : OPC
  | [.int i], Q => Q (.int i)
  | [.bl b], Q => Q (.int (if b = true then 1 else 0))
  | _, _ => False
theorem cy_int : CallY X (.type "int") oInt := by
  refine ⟨_, call_int1, fun F Hs σ H ε vs ds Q' Q R r q k => ?_⟩
  unfold oInt at q
  split at q
  · obtain ⟨v, rfl, rv⟩ := r.one
    exact .inl ⟨_, by rw [rv.int'], k _ H Hs _ (Evl.Ex.refl _) R (.int _) q⟩
  · obtain ⟨v, rfl, rv⟩ := r.one
    exact .inr ⟨_, by rw [rv.bl'], k _ H Hs _ (Evl.Ex.refl _) R (.int _) q⟩
  · exact q.elim
def oMax2 : OPC
  | [.int i, .int j], Q => Q (.int (if j > i then j else i))
  | _, _ => False
theorem cy_max2 (hc : X.calm = true) : CallY X (.builtin "max") oMax2 := by
  refine ⟨_, call_max2 hc, fun F Hs σ H ε vs ds Q' Q R r q k => ?_⟩
  unfold oMax2 at q
  split at q
  · obtain ⟨v, w, rfl, rv, rw'⟩ := r.two
    exact ⟨_, _, by rw [rv.int', rw'.int'], k _ H Hs _ (Evl.Ex.refl _) R (.int _) q⟩
  · exact q.elim
def oMin2 : OPC
  | [.int i, .int j], Q => Q (.int (if j < i then j else i))
  | _, _ => False
theorem cy_min2 (hc : X.calm = true) : CallY X (.builtin "min") oMin2 := by
  refine ⟨_, call_min2 hc, fun F Hs σ H ε vs ds Q' Q R r q k => ?_⟩
  unfold oMin2 at q
  split at q
  · obtain ⟨v, w, rfl, rv, rw'⟩ := r.two
    exact ⟨_, _, by rw [rv.int', rw'.int'], k _ H Hs _ (Evl.Ex.refl _) R (.int _) q⟩
  · exact q.elim
def toInts : List D → Option (List Int)
  | [] => some []
  | .int i :: ds => match toInts ds with
    | some is => some (i :: is)
    | none => none
  | _ :: _ => none
theorem toInts_map : ∀ ns : List Int, toInts (ns.map D.int) = some ns
  | [] => rfl
  | n :: ns => by
    show (match toInts (ns.map D.int) with
      | some is => some (n :: is)
      | none => none) = some (n :: ns)
    rw [toInts_map ns]
theorem toInts_elim : ∀ {ds : List D} {ns : List Int}, toInts ds = some ns → ds = ns.map D.int
  | [], ns, h => by cases h; rfl
  | d :: ds, ns, h => by
    unfold toInts at h
    split at h
    · rename_i e
      cases e
    · rename_i i es e
      injection e with e1 e2
      subst e1 e2
      split at h
      · rename_i is e
        cases h
        rw [toInts_elim e] <;> rfl
      · cases h
    · cases h
def toBls : List D → Option (List Bool)
  | [] => some []
  | .bl i :: ds => match toBls ds with
    | some is => some (i :: is)
    | none => none
  | _ :: _ => none
theorem toBls_map : ∀ ns : List Bool, toBls (ns.map D.bl) = some ns
  | [] => rfl
  | n :: ns => by
    show (match toBls (ns.map D.bl) with
      | some is => some (n :: is)
      | none => none) = some (n :: ns)
    rw [toBls_map ns]
theorem toBls_elim : ∀ {ds : List D} {ns : List Bool}, toBls ds = some ns → ds = ns.map D.bl
  | [], ns, h => by cases h; rfl
  | d :: ds, ns, h => by
    unfold toBls at h
    split at h
    · rename_i e
      cases e
    · rename_i i es e
      injection e with e1 e2
      subst e1 e2
      split at h
      · rename_i is e
        cases h
        rw [toBls_elim e] <;> rfl
      · cases h
    · cases h
/-- of a list of ints -/
def ints1 (f : List Int → Prop) : List D → Prop
  | [.lst ds] => opt (toInts ds) f
  | _ => False
theorem ints1_core {K : PySem.W.Frag} {F Hs H : Hp} {σ : St} {ε : PEnv} {vs : List V} {ds : List D} {f : List Int → Prop} (R : RelS K F Hs σ H ε) (r : RepVs K Hs H vs ds) (q : ints1 f ds) : ∃ a ns, vs = [.ref a] ∧ SqL K H a (ns.map V.int) ∧ f ns := by
  unfold ints1 at q
  split at q
  · obtain ⟨ns, e0, q2⟩ := opt_elim q
    have e0 := toInts_elim e0
    subst e0
    obtain ⟨v, rfl, rv⟩ := r.one
    obtain ⟨a, ws, g1, h1, p1⟩ := rv.lst' R.ex
    subst g1
    have e := p1.inv_ints
    subst e
    exact ⟨a, ns, rfl, SqL.of h1, q2⟩
  · exact q.elim
def oSum : OPC := fun ds Q => ints1 (fun ns => Q (.int ns.sum)) ds
theorem cy_sum (hc : X.calm = true) : CallY X (.builtin "sum") oSum := by
  refine ⟨_, cr_sum hc, fun F Hs σ H ε vs ds Q' Q R r q k => ?_⟩
  obtain ⟨a, ns, rfl, h1, q⟩ := ints1_core R r q
  exact ⟨a, ns, rfl, h1, k _ H Hs _ (Evl.Ex.refl _) R (.int _) q⟩
def oMaxL : OPC := fun ds Q => ints1 (fun ns => 0 < ns.length ∧ ∀ m, m ∈ ns → (∀ y, y ∈ ns → y ≤ m) → Q (.int m)) ds
theorem cy_maxL (hc : X.calm = true) : CallY X (.builtin "max") oMaxL := by
  refine ⟨_, cr_max hc, fun F Hs σ H ε vs ds Q' Q R r q k => ?_⟩
  obtain ⟨a, ns, rfl, h1, q0, q⟩ := ints1_core R r q
  exact ⟨a, ns, rfl, h1, q0, fun m h2 h3 => k _ H Hs _ (Evl.Ex.refl _) R (.int _) (q m h2 h3)⟩
def oMinL : OPC := fun ds Q => ints1 (fun ns => 0 < ns.length ∧ ∀ m, m ∈ ns → (∀ y, y ∈ ns → m ≤ y) → Q (.int m)) ds
theorem cy_minL (hc : X.calm = true) : CallY X (.builtin "min") oMinL := by
  refine ⟨_, cr_min hc, fun F Hs σ H ε vs ds Q' Q R r q k => ?_⟩
  obtain ⟨a, ns, rfl, h1, q0, q⟩ := ints1_core R r q
  exact ⟨a, ns, rfl, h1, q0, fun m h2 h3 => k _ H Hs _ (Evl.Ex.refl _) R (.int _) (q m h2 h3)⟩
def oSorted : List D → (List D → Prop) → Prop := fun ds Q => ints1 (fun ns => ∀ ns' : List Int, ns'.Perm ns → ns'.Pairwise (· ≤ ·) → Q (ns'.map D.int)) ds
theorem cn_sorted : CallN X (.builtin "sorted") oSorted := by
  refine ⟨_, cr_sortedI, fun F Hs σ H ε vs ds Q' Q R r q k => ?_⟩
  obtain ⟨a, ns, rfl, h1, q⟩ := ints1_core R r q
  exact ⟨a, ns, rfl, h1, fun ns' p h2 h3 hp => k p _ _ hp (Reps.ints ns') (q ns' h2 h3)⟩
def bls1 (f : List Bool → Prop) : List D → Prop
  | [.lst ds] => opt (toBls ds) f
  | _ => False
theorem bls1_core {K : PySem.W.Frag} {F Hs H : Hp} {σ : St} {ε : PEnv} {vs : List V} {ds : List D} {f : List Bool → Prop} (R : RelS K F Hs σ H ε) (r : RepVs K Hs H vs ds) (q : bls1 f ds) : ∃ a ns, vs = [.ref a] ∧ SqL K H a (ns.map V.bl) ∧ f ns := by
  unfold bls1 at q
  split at q
  · obtain ⟨ns, e0, q2⟩ := opt_elim q
    have e0 := toBls_elim e0
    subst e0
    obtain ⟨v, rfl, rv⟩ := r.one
    obtain ⟨a, ws, g1, h1, p1⟩ := rv.lst' R.ex
    subst g1
    have e := p1.inv_bls
    subst e
    exact ⟨a, ns, rfl, SqL.of h1, q2⟩
  · exact q.elim
def oAll : OPC := fun ds Q => bls1 (fun ns => Q (.bl (ns.all id))) ds
def oAny : OPC := fun ds Q => bls1 (fun ns => Q (.bl (ns.any id))) ds
theorem cy_all (hc : X.calm = true) : CallY X (.builtin "all") oAll := by
  refine ⟨_, cr_all hc, fun F Hs σ H ε vs ds Q' Q R r q k => ?_⟩
  obtain ⟨a, ns, rfl, h1, q⟩ := bls1_core R r q
  exact ⟨a, ns, rfl, h1, k _ H Hs _ (Evl.Ex.refl _) R (.bl _) q⟩
theorem cy_any (hc : X.calm = true) : CallY X (.builtin "any") oAny := by
  refine ⟨_, cr_any hc, fun F Hs σ H ε vs ds Q' Q R r q k => ?_⟩
  obtain ⟨a, ns, rfl, h1, q⟩ := bls1_core R r q
  exact ⟨a, ns, rfl, h1, k _ H Hs _ (Evl.Ex.refl _) R (.bl _) q⟩
def oListOf : List D → (List D → Prop) → Prop
  | [.lst ds], Q => Q ds
  | [.frl ds], Q => Q ds
  | [.tup ds], Q => Q ds
  | _, _ => False
theorem cn_list : CallN X (.type "list") oListOf := by
  refine ⟨_, call_list_of, fun F Hs σ H ε vs ds Q' Q R r q k => ?_⟩
  unfold oListOf at q
  split at q
  · obtain ⟨v, rfl, rv⟩ := r.one
    obtain ⟨a, ws, g1, h1, p1⟩ := rv.lst' R.ex
    subst g1
    exact ⟨a, ws, rfl, .inl (SqL.of h1), fun p hp => k p _ _ hp p1 q⟩
  · obtain ⟨v, rfl, rv⟩ := r.one
    obtain ⟨a, ws, g1, h1, p1⟩ := rv.frl' R.ex
    subst g1
    exact ⟨a, ws, rfl, .inl h1, fun p hp => k p _ _ hp p1 q⟩
  · obtain ⟨v, rfl, rv⟩ := r.one
    obtain ⟨a, ws, g1, h1, p1⟩ := rv.tup' R.ex
    subst g1
    exact ⟨a, ws, rfl, .inr h1, fun p hp => k p _ _ hp p1 q⟩
  · exact q.elim
def oTupleOf : OPC
  | [.lst ds], Q => Q (.tup ds)
  | [.tup ds], Q => Q (.tup ds)
  | _, _ => False
theorem cy_tuple : CallY X (.type "tuple") oTupleOf := by
  refine ⟨_, call_tuple_of, fun F Hs σ H ε vs ds Q' Q R r q k => ?_⟩
  unfold oTupleOf at q
  split at q
  · obtain ⟨v, rfl, rv⟩ := r.one
    obtain ⟨a, ws, g1, h1, p1⟩ := rv.lst' R.ex
    subst g1
    refine ⟨a, ws, rfl, .inl ⟨SqL.of h1, fun p hp => ?_⟩⟩
    obtain ⟨R3, e3⟩ := R.new (o := .tup ws) hp
    exact k _ _ _ _ e3 R3 (.tup (SqT.of upd_same) (p1.mono e3)) q
  · obtain ⟨v, rfl, rv⟩ := r.one
    cases rv with
    | sc rv =>
      cases rv with
      | tup h1 p1 => exact ⟨_, _, rfl, .inr ⟨Evl.ex_t R.ex h1, k _ H Hs _ (Evl.Ex.refl _) R (.tup h1 p1) q⟩⟩
  · exact q.elim
def oStr : OPC
  | [.int i], Q => gd (i.natAbs.log2 < 1920) (Q (.str (toString i)))
  | _, _ => False
theorem cy_str : CallY X (.type "str") oStr := by
  refine ⟨_, call_str_int, fun F Hs σ H ε vs ds Q' Q R r q k => ?_⟩
  unfold oStr at q
  split at q
  · obtain ⟨v, rfl, rv⟩ := r.one
    have q := gd_elim q
    exact ⟨_, by rw [rv.int'], q.1, k _ H Hs _ (Evl.Ex.refl _) R (.str _) q.2⟩
  · exact q.elim

theorem RepV.up {K : PySem.W.Frag} {Hs H H' : Hp} {v : V} {d : D} (h : RepV K Hs H v d) (e : Ex H H') : RepV K Hs H' v d := by
  cases h with
  | sc h => exact .sc h
  | lst h r => exact .lst (e _ _ h) r
  | dic h k r => exact .dic (e _ _ h) k r
/-! ### isinstance -/
inductive Ty where
  | int | bool | str | list | tuple | dict
def Ty.nm : Ty → String
  | .int => "int" | .bool => "bool" | .str => "str" | .list => "list" | .tuple => "tuple" | .dict => "dict"
def isTy : Ty → D → (Bool → Prop) → Prop
  | .int, .int _, Q => Q true
  | .int, .bl _, Q => Q true
  | .bool, .bl _, Q => Q true
  | .str, .str _, Q => Q true
  | .list, .lst _, Q => Q true
  | .list, .frl _, Q => Q true
  | .tuple, .tup _, Q => Q true
  | .dict, .dic _, Q => Q true
  | _, .vl _, _ => False
  | _, .pool, _ => False
  | _, .err _ _, _ => False
  | _, _, Q => Q false
def tyD : D → Option String
  | .non => some "NoneType"
  | .bl _ => some "bool"
  | .int _ => some "int"
  | .str _ => some "str"
  | .lst _ => some "list"
  | .frl _ => some "list"
  | .tup _ => some "tuple"
  | .dic _ => some "dict"
  | _ => none
theorem tyX_tup {K : PySem.W.Frag} {H : Hp} {a : Addr} {xs : List V} (h : SqT K H a xs) : TyX K H (.ref a) (.type "tuple") := by
  rcases h with (h | ⟨o, h⟩) | ⟨o, its, n, h, hc, _⟩
  · exact .base (.tup h)
  · exact .fTuple h
  · exact .kTuple h hc
theorem tyX_lst {K : PySem.W.Frag} {H : Hp} {a : Addr} {xs : List V} (h : SqL K H a xs) : TyX K H (.ref a) (.type "list") := by
  rcases h with (h | ⟨o, h⟩) | ⟨o, its, n, h, hc, _⟩
  · exact .base (.lst h)
  · exact .base (.frz h)
  · exact .kList h hc
theorem tyD_rep {K : PySem.W.Frag} {Hs H : Hp} {v : V} {d : D} {n : String} (h : RepV K Hs H v d) (ex : Ex Hs H) (e : tyD d = some n) : TyX K H v (.type n) := by
  cases d with
  | non => cases e; rw [h.non']; exact .base .non
  | bl b => cases e; rw [h.bl']; exact .base (.bl _)
  | int b => cases e; rw [h.int']; exact .base (.int _)
  | str b => cases e; rw [h.str']; exact .base (.str _)
  | lst b =>
    cases e
    obtain ⟨a, ws, rfl, h1, p1⟩ := h.lst' ex
    exact .base (.lst h1)
  | frl b =>
    cases e
    obtain ⟨a, ws, rfl, h1, p1⟩ := h.frl' ex
    exact tyX_lst h1
  | tup b =>
    cases e
    obtain ⟨a, ws, rfl, h1, p1⟩ := h.tup' ex
    exact tyX_tup h1
  | dic b =>
    cases e
    obtain ⟨a, ws, rfl, h1, p1⟩ := h.dic' ex
    exact .base (.dK h1)
  | _ => cases e
theorem isTy_kit (t : Ty) (d : D) (Q : Bool → Prop) (q : isTy t d Q) : ∃ n b, tyD d = some n ∧ kitB n t.nm = some b ∧ Q b := by
  cases t <;> cases d <;> first | exact False.elim q | exact ⟨_, true, rfl, by decide +kernel, q⟩ | exact ⟨_, false, rfl, by decide +kernel, q⟩
def yIs (t : Ty) (r : PTE) : PTE := fun ε Q => r ε fun t1 ε1 => res ε1 t1 fun d => isTy t d fun b => Q (.d (.bl b)) ε1
section
variable {W : WX} {Ξ : Xi} {a : Expr} {pos : Pos}
theorem ye_isA (t : Ty) {r : PTE} {c : Expr} {p : Pos} (h : YE X W Ξ a r) (hc : PE X c (tC (.ty t.nm))) (hg : Gl X "isinstance") (hm : X.mg "isinstance" = none)
    (hst : starEach [a, c] X.env = (false, eval a X.env) :: starEach [c] X.env := by rfl) (hs2 : starEach [c] X.env = (false, eval c X.env) :: starEach [] X.env := by rfl) (hpl : (backTo pos (starEach [c] X.env)).any (·.1) = false := by rfl) :
    YE X W Ξ (.Call (.Name "isinstance" p) [a, c] [] pos) (yIs t r) := by
  obtain ⟨ta, pa, ka⟩ := h.ex
  refine ⟨_, pe_callB call_isi hg hm PyProof.Rows.boot_isinstance (pa_cons pa (pa_cons hc pa_nil hs2) hst) (by decide) (by decide) hst hpl, fun F Hs σ H ε Q' Q R L q k => ?_⟩
  refine ka F Hs σ H ε _ _ R L q fun v H1 Hs1 t1 ε1 e1 R1 p1 q1 => ?_
  obtain ⟨d, v1, q2⟩ := R1.res p1 q1
  obtain ⟨n, b, h1, h2, h3⟩ := isTy_kit t d _ q2
  exact ⟨v, .ty t.nm, .type n, .type t.nm, b, rfl, .ty _, tyD_rep v1 R1.ex h1, kit_ty h2, k (.bl b) H1 Hs1 (.d (.bl b)) ε1 e1 R1 (.bl b) h3⟩
def yIs2 (t u : Ty) (r : PTE) : PTE := fun ε Q => r ε fun t1 ε1 => res ε1 t1 fun d => isTy t d fun b => isTy u d fun c => Q (.d (.bl (b || c))) ε1
theorem ye_isA2 (t u : Ty) {r : PTE} {c c2 : Expr} {p p2 : Pos} {kk : Nat} (h : YE X W Ξ a r) (hc : PE X c (tC (.ty t.nm))) (hc2 : PE X c2 (tC (.ty u.nm))) (hg : Gl X "isinstance") (hm : X.mg "isinstance" = none)
    (hst : starEach [a, .Tuple [c, c2] kk p2] X.env = (false, eval a X.env) :: starEach [.Tuple [c, c2] kk p2] X.env := by rfl) (hs2 : starEach [.Tuple [c, c2] kk p2] X.env = (false, eval (.Tuple [c, c2] kk p2) X.env) :: starEach [] X.env := by rfl)
    (hs3 : starEach [c, c2] X.env = (false, eval c X.env) :: starEach [c2] X.env := by rfl) (hs4 : starEach [c2] X.env = (false, eval c2 X.env) :: starEach [] X.env := by rfl) (hpl : (backTo pos (starEach [.Tuple [c, c2] kk p2] X.env)).any (·.1) = false := by rfl) :
    YE X W Ξ (.Call (.Name "isinstance" p) [a, .Tuple [c, c2] kk p2] [] pos) (yIs2 t u r) := by
  obtain ⟨ta, pa, ka⟩ := h.ex
  refine ⟨_, pe_callB call_isiT hg hm PyProof.Rows.boot_isinstance (pa_cons pa (pa_cons (pe_tup (pa_cons hc (pa_cons hc2 pa_nil hs4) hs3)) pa_nil hs2) hst) (by decide) (by decide) hst hpl, fun F Hs σ H ε Q' Q R L q k => ?_⟩
  refine ka F Hs σ H ε _ _ R L q fun v H1 Hs1 t1 ε1 e1 R1 p1 q1 => ?_
  obtain ⟨d, v1, q2⟩ := R1.res p1 q1
  obtain ⟨n, b, h1, h2, q3⟩ := isTy_kit t d _ q2
  obtain ⟨n', b', h1', h2', h3⟩ := isTy_kit u d _ q3
  rw [h1] at h1'
  cases h1'
  refine ⟨by show 2 ≤ sizeLine; decide, fun tp htp => ?_⟩
  have R2 : RelS X.K F Hs1 σ (upd H1 tp (.tup [.ty t.nm, .ty u.nm])) ε1 := R1.lay htp
  have v2 : TyX X.K (upd H1 tp (.tup [.ty t.nm, .ty u.nm])) v (.type n) := tyD_rep (v1.up (Evl.Ex.new htp)) R2.ex h1
  exact ⟨v, tp, [.ty t.nm, .ty u.nm], .type n, [.type t.nm, .type u.nm], b || b', rfl, upd_same, .cons (.ty _) (.cons (.ty _) .nil), v2, kitAny_cons (kit_ty h2) (fun hb => kitAny_cons (kit_ty h2') (fun hb' => by rw [hb, hb']; exact kitAny_nil) (fun hb' => by rw [hb']; simp)) (fun hb => by rw [hb]; rfl), k (.bl (b || b')) _ Hs1 (.d (.bl (b || b'))) ε1 e1 R2 (.bl _) h3⟩
end
end
end PL

set_option Elab.async false
set_option linter.all false
set_option autoImplicit false
set_option maxRecDepth 100000
set_option maxHeartbeats 2000000
/-! Statements, loops, comprehensions, over plain data. -/
namespace PL
open PySem PySem.Spec PyProof.Rows L2
open Evl (Ex)

/-! ### readings that hang on the data alone -/
def cE (K : PySem.W.Frag) (W : WX) (Ξ : Xi) (r : PTE) : TE := fun σ H Q => ∃ (F Hs : Hp) (ε : PEnv) (Q' : T → PEnv → Prop), RelS K F Hs σ H ε ∧ Lk K F Hs W Ξ ∧ r ε Q' ∧ KE K F Hs σ Q' Q
def cT (K : PySem.W.Frag) (W : WX) (Ξ : Xi) (r : PTT) : TT := fun σ H Q => ∃ (F Hs : Hp) (ε : PEnv) (Q' : Bool → PEnv → Prop), RelS K F Hs σ H ε ∧ Lk K F Hs W Ξ ∧ r ε Q' ∧ KT K F Hs σ Q' Q
section
variable {X : Cx} {W : WX} {Ξ : Xi} {e : Expr}
theorem YE.canon {r : PTE} (h : YE X W Ξ e r) : PE X e (cE X.K W Ξ r) := by
  obtain ⟨t, p, k⟩ := h.ex
  exact ⟨fun pins s σ H Q I ⟨F, Hs, ε, Q', R, L, q, kk⟩ => p.run pins s σ H Q I (k F Hs σ H ε Q' Q R L q kk)⟩
theorem YT.canon {r : PTT} (h : YT X W Ξ e r) : PT X e (cT X.K W Ξ r) := by
  obtain ⟨t, p, k⟩ := h.ex
  exact ⟨fun pins s σ H Q I ⟨F, Hs, ε, Q', R, L, q, kk⟩ => p.run pins s σ H Q I (k F Hs σ H ε Q' Q R L q kk)⟩
end

/-! ### what another one owns, lent and taken back -/
section
variable {K : PySem.W.Frag} {F Hs H : Hp} {σ : St} {ε : PEnv}
def Nobody (σ : St) (ε : PEnv) (p : Addr) : Prop := ∀ (i : Nat) (s : S), ε[i]? = some (some s) → s.own = true → σ[i]? ≠ some (some (.ref p))
theorem RelS.lend (R : RelS K F Hs σ H ε) {p : Addr} {o : HO} (hH : H p = some o) (hp : Hs p = none) (hn : Nobody σ ε p) : RelS K (upd F p o) Hs σ H ε := by
  refine ⟨R.ex, fun a u q => ?_, R.len, fun j t q => ?_, R.ds⟩
  · by_cases ha : a = p
    · subst ha
      rw [upd_same] at q
      cases q
      exact ⟨hH, hp⟩
    · rw [upd_ne ha] at q
      exact R.fr a u q
  · have z := R.sl j t q
    cases t with
    | v d' => exact z
    | o ds =>
      obtain ⟨b, vs, h1, h2, h3, h4, h5⟩ := z
      have nb : b ≠ p := by
        intro z
        subst z
        exact hn j _ q rfl h1
      exact ⟨b, vs, h1, h2, by rw [upd_ne nb]; exact h3, h4, h5⟩
    | od ds =>
      obtain ⟨b, vs, h1, h2, h3, h4, h5, h6⟩ := z
      have nb : b ≠ p := by
        intro z
        subst z
        exact hn j _ q rfl h1
      exact ⟨b, vs, h1, h2, by rw [upd_ne nb]; exact h3, h4, h5, h6⟩
theorem RelS.back {p : Addr} {o : HO} (R : RelS K (upd F p o) Hs σ H ε) (hF : F p = none) : RelS K F Hs σ H ε ∧ H p = some o ∧ Hs p = none ∧ Nobody σ ε p := by
  have hp := R.fr p o upd_same
  have sub : ∀ b, upd F p o b = none → F b = none := fun b e => by
    by_cases hb : b = p
    · subst hb
      exact hF
    · rw [upd_ne hb] at e
      exact e
  refine ⟨⟨R.ex, fun a u q => ?_, R.len, fun j t q => ?_, R.ds⟩, hp.1, hp.2, fun j t q so z => ?_⟩
  · have ha : a ≠ p := by
      intro z
      subst z
      rw [hF] at q
      cases q
    exact R.fr a u (by rw [upd_ne ha]; exact q)
  · have z := R.sl j t q
    cases t with
    | v d' => exact z
    | o ds =>
      obtain ⟨b, vs, h1, h2, h3, h4, h5⟩ := z
      exact ⟨b, vs, h1, h2, sub _ h3, h4, h5⟩
    | od ds =>
      obtain ⟨b, vs, h1, h2, h3, h4, h5, h6⟩ := z
      exact ⟨b, vs, h1, h2, sub _ h3, h4, h5, h6⟩
  · have y := R.sl j t q
    cases t with
    | v d' => cases so
    | o ds =>
      obtain ⟨b, vs, h1, h2, h3, h4, h5⟩ := y
      rw [z] at h1
      cases h1
      rw [upd_same] at h3
      cases h3
    | od ds =>
      obtain ⟨b, vs, h1, h2, h3, h4, h5, h6⟩ := y
      rw [z] at h1
      cases h1
      rw [upd_same] at h3
      cases h3
/-- what is nobody's may change -/
theorem RelS.touch (R : RelS K F Hs σ H ε) {p : Addr} {o : HO} (hp : Hs p = none) (hF : F p = none) (hn : Nobody σ ε p) : RelS K F Hs σ (upd H p o) ε := by
  refine ⟨fun a u q => ?_, fun a u q => ?_, R.len, fun j t q => ?_, R.ds⟩
  · rw [upd_ne (ne_of_none q hp)]
    exact R.ex a u q
  · rw [upd_ne (ne_of_none q hF)]
    exact R.fr a u q
  · have z := R.sl j t q
    cases t with
    | v d' => exact z
    | o ds =>
      obtain ⟨b, vs, h1, h2, h3, h4, h5⟩ := z
      have nb : b ≠ p := by
        intro z
        subst z
        exact hn j _ q rfl h1
      exact ⟨b, vs, h1, h2, h3, by rw [upd_ne nb]; exact h4, h5⟩
    | od ds =>
      obtain ⟨b, vs, h1, h2, h3, h4, h5, h6⟩ := z
      have nb : b ≠ p := by
        intro z
        subst z
        exact hn j _ q rfl h1
      exact ⟨b, vs, h1, h2, h3, by rw [upd_ne nb]; exact h4, h5, h6⟩
end

/-! ### targets -/
abbrev PTG := D → PEnv → (PEnv → Prop) → Prop
def Only (sl : List Nat) (σ σ' : St) : Prop := ∀ vs : List Nat, (∀ i ∈ sl, i ∈ vs) → L2.wipe σ' vs = L2.wipe σ vs
theorem wipe_set {σ : St} {i : Nat} {x : Option V} : ∀ {vs : List Nat}, i ∈ vs → L2.wipe (σ.set i x) vs = L2.wipe σ vs
  | v :: vs, h => by
    unfold L2.wipe
    by_cases hv : i ∈ vs
    · rw [wipe_set hv]
    · have e : i = v := by
        rcases List.mem_cons.mp h with h | h
        · exact h
        · exact absurd h hv
      subst e
      have out : ∀ {ws : List Nat}, i ∉ ws → (L2.wipe (σ.set i x) ws) = (L2.wipe σ ws).set i x := by
        intro ws
        induction ws with
        | nil => intro _; rfl
        | cons w ws ih =>
          intro hw
          simp only [List.mem_cons, not_or] at hw
          unfold L2.wipe
          rw [ih hw.2, List.set_comm _ _ hw.1]
      rw [out hv, List.set_set]
theorem Only.refl {sl : List Nat} {σ : St} : Only sl σ σ := fun _ _ => rfl
theorem Only.set {i : Nat} {σ : St} {x : Option V} : Only [i] σ (σ.set i x) := fun vs h => wipe_set (h i (by simp))
def KG (K : PySem.W.Frag) (F Hs : Hp) (σ : St) (sl : List Nat) (Q' : PEnv → Prop) (Q : St → Hp → Prop) : Prop := ∀ (σ' : St) (H' Hs' : Hp) (ε' : PEnv), Ex Hs Hs' → Only sl σ σ' → RelS K F Hs' σ' H' ε' → Q' ε' → Q σ' H'
structure YG (X : Cx) (tg : Expr) (g : PTG) (sl : List Nat) : Prop where
  ex : ∃ t, PG X tg t ∧ ∀ (F Hs : Hp) (σ : St) (H : Hp) (ε : PEnv) (v : V) (d : D) (Q' : PEnv → Prop) (Q : St → Hp → Prop), RelS X.K F Hs σ H ε → Rep X.K Hs v d → g d ε Q' → KG X.K F Hs σ sl Q' Q → t v σ H Q
def cG (K : PySem.W.Frag) (g : PTG) (sl : List Nat) : TG := fun v σ H Q => ∃ (F Hs : Hp) (ε : PEnv) (d : D) (Q' : PEnv → Prop), RelS K F Hs σ H ε ∧ Rep K Hs v d ∧ g d ε Q' ∧ KG K F Hs σ sl Q' Q
theorem YG.canon {X : Cx} {tg : Expr} {g : PTG} {sl : List Nat} (h : YG X tg g sl) : PG X tg (cG X.K g sl) := by
  obtain ⟨t, p, k⟩ := h.ex
  exact ⟨fun pins s σ H v u Q I r ⟨F, Hs, ε, d, Q', R, rv, q, kk⟩ => p.run pins s σ H v u Q I r (k F Hs σ H ε v d Q' Q R rv q kk)⟩
def gN (i : Nat) : PTG := fun d ε Q => Q (ε.set i (some (.v d)))
section
variable {X : Cx} {pos : Pos}
theorem yg_name {x : Str} (i : Nat) (hN : X.N.Nodup) (hi : X.N[i]? = some x) (hx : Loc X.env.scope x) (hf : X.fn x = true ∨ X.env.scope.names.lookup x = some .local := by first | exact .inl rfl | exact .inr rfl | assumption) : YG X (.Name x pos) (gN i) [i] :=
  ⟨_, pg_name hN hi hx hf, fun F Hs σ H ε v d Q' Q R rv q k => k _ H Hs _ (Evl.Ex.refl _) Only.set (R.store rv i) q⟩
def gAll : List PTG → List D → PEnv → (PEnv → Prop) → Prop
  | [], [], ε, Q => Q ε
  | g :: gs, d :: ds, ε, Q => g d ε fun ε' => gAll gs ds ε' Q
  | _, _, _, _ => False
structure YGs (X : Cx) (tgs : List Expr) (gs : List PTG) (sl : List Nat) : Prop where
  ex : ∃ t, PGs X tgs t ∧ ∀ (F Hs : Hp) (σ : St) (H : Hp) (ε : PEnv) (vs : List V) (ds : List D) (Q' : PEnv → Prop) (Q : St → Hp → Prop), RelS X.K F Hs σ H ε → Reps X.K Hs vs ds → gAll gs ds ε Q' → KG X.K F Hs σ sl Q' Q → t vs σ H Q
theorem ygs_nil : YGs X [] [] [] := ⟨_, pgs_nil, fun F Hs σ H ε vs ds Q' Q R rv q k => by
  cases rv with
  | nil => exact ⟨rfl, k _ H Hs _ (Evl.Ex.refl _) Only.refl R q⟩
  | cons _ _ => exact q.elim⟩
theorem ygs_cons {e : Expr} {es : List Expr} {g : PTG} {gs : List PTG} {sl ss : List Nat} (h : YG X e g sl) (hs : YGs X es gs ss) (hst : (assignEach (e :: es) X.env).map (·.2) = assign e X.env :: (assignEach es X.env).map (·.2) := by rfl) : YGs X (e :: es) (g :: gs) (sl ++ ss) := by
  obtain ⟨t, p, k⟩ := h.ex
  obtain ⟨ts, ps, ks⟩ := hs.ex
  refine ⟨_, pgs_cons p ps hst, fun F Hs σ H ε vs ds Q' Q R rv q kk => ?_⟩
  cases rv with
  | nil => exact q.elim
  | cons r rs => exact ⟨_, _, rfl, k F Hs σ H ε _ _ _ _ R r q fun σ1 H1 Hs1 ε1 e1 o1 R1 q1 => ks F Hs1 σ1 H1 ε1 _ _ _ _ R1 (rs.mono e1) q1 fun σ2 H2 Hs2 ε2 e2 o2 R2 q2 => kk σ2 H2 Hs2 ε2 (e1.trans e2) (fun vs hv => (o2 vs fun i hi => hv i (List.mem_append_right _ hi)).trans (o1 vs fun i hi => hv i (List.mem_append_left _ hi))) R2 q2⟩
theorem gAll_len : ∀ {gs : List PTG} {ds : List D} {ε : PEnv} {Q : PEnv → Prop}, gAll gs ds ε Q → (∀ g ∈ gs, ∀ d ε Q, g d ε Q → ∃ ε', Q ε') → ds.length = gs.length
  | [], [], _, _, _, _ => rfl
  | g :: gs, d :: ds, ε, Q, h, m => by
    obtain ⟨ε', h2⟩ := m g (List.mem_cons_self ..) d ε _ h
    rw [List.length_cons, List.length_cons, gAll_len h2 fun g hg => m g (List.mem_cons_of_mem _ hg)]
/-- a, b, .. = a tuple -/
def gTupY (n : Nat) (gs : List PTG) : PTG := fun d ε Q => match d with
  | .tup ds => gd (ds.length = n) (gAll gs ds ε Q)
  | _ => False
theorem yg_tup {es : List Expr} {k : Nat} {gs : List PTG} {n : Nat} {sl : List Nat} (hc : X.calm = true) (h : YGs X es gs sl) (hn : (assignEach es X.env).length = n := by rfl) (hst : (assignEach es X.env).findIdx? (·.1) = none := by rfl) : YG X (.Tuple es k pos) (gTupY n gs) sl := by
  obtain ⟨ts, ps, ks⟩ := h.ex
  refine ⟨_, pg_tup hc ps hn hst, fun F Hs σ H ε v d Q' Q R rv q kk => ?_⟩
  unfold gTupY at q
  split at q
  · obtain ⟨hl, q⟩ := gd_elim q
    cases rv with
    | tup h1 r1 => exact ⟨_, _, rfl, Evl.ex_t R.ex h1, by rw [r1.len]; exact hl, ks F Hs σ H ε _ _ _ _ R r1 q kk⟩
  · exact q.elim
/-- a, b, .. = a list -/
def gLstY (n : Nat) (gs : List PTG) : PTG := fun d ε Q => match d with
  | .lst ds => gd (ds.length = n) (gAll gs ds ε Q)
  | _ => False
theorem yg_lst {es : List Expr} {k : Nat} {gs : List PTG} {n : Nat} {sl : List Nat} (hc : X.calm = true) (h : YGs X es gs sl) (hn : (assignEach es X.env).length = n := by rfl) (hst : (assignEach es X.env).findIdx? (·.1) = none := by rfl) : YG X (.Tuple es k pos) (gLstY n gs) sl := by
  obtain ⟨ts, ps, ks⟩ := h.ex
  refine ⟨_, pg_lst hc ps hn hst, fun F Hs σ H ε v d Q' Q R rv q kk => ?_⟩
  unfold gLstY at q
  split at q
  · obtain ⟨hl, q⟩ := gd_elim q
    cases rv with
    | lst h1 r1 => exact ⟨_, _, rfl, SqL.of (R.ex _ _ h1), by rw [r1.len]; exact hl, ks F Hs σ H ε _ _ _ _ R r1 q kk⟩
  · exact q.elim
end

/-! ### what is walked -/
structure Seqs (K : PySem.W.Frag) (Hs : Hp) (J : It) (ds : List D) : Prop where
  go : ∀ i H, Ex Hs H → i < ds.length → J.go i H
  stop : ∀ i H, Ex Hs H → ds.length ≤ i → J.stop i H
  yld : ∀ (i : Nat) (F Hc : Hp) (σ : St) (H : Hp) (ε : PEnv) (x : V) (H' : Hp), Ex Hs Hc → RelS K F Hc σ H ε → i < ds.length → J.yld i H x H' → ∃ Hc' d, Ex Hc Hc' ∧ RelS K F Hc' σ H' ε ∧ ds[i]? = some d ∧ Rep K Hc' x d
structure YI (X : Cx) (W : WX) (Ξ : Xi) (tg iter : Expr) (r : PTN) : Prop where
  ex : ∃ wi, PI X tg iter wi ∧ ∀ (F Hs : Hp) (σ : St) (H : Hp) (ε : PEnv) (Q' : List D → PEnv → Prop) (R' : It → Hp → Prop), RelS X.K F Hs σ H ε → Lk X.K F Hs W Ξ → r ε Q' →
    (∀ J H' Hs' ds ε', Ex Hs Hs' → RelS X.K F Hs' σ H' ε' → Seqs X.K Hs' J ds → Q' ds ε' → R' J H') → wi σ H R'
theorem seqs_list {K : PySem.W.Frag} {Hs : Hp} {a : Addr} {vs : List V} {ds : List D} (h : SqL K Hs a vs) (r : Reps K Hs vs ds) : Seqs K Hs (Itl K a) ds where
  go := fun i H e hi => by
    rw [← r.len] at hi
    exact ⟨vs, vs[i], Evl.ex_l e h, by simp [hi]⟩
  stop := fun i H e hi => ⟨vs, Evl.ex_l e h, by rw [r.len]; exact hi⟩
  yld := fun i F Hc σ H ε x H' e R hi y => by
    obtain ⟨rfl, y⟩ := y
    have e2 := y vs (Evl.ex_l (e.trans R.ex) h)
    obtain ⟨d, h1, h2⟩ := r.getV e2
    exact ⟨Hc, d, Evl.Ex.refl _, R, h1, h2.mono e⟩
theorem seqs_tup {K : PySem.W.Frag} {Hs : Hp} {a : Addr} {vs : List V} {ds : List D} (h : SqT K Hs a vs) (r : Reps K Hs vs ds) : Seqs K Hs (Itt K a) ds where
  go := fun i H e hi => by
    rw [← r.len] at hi
    exact ⟨vs, vs[i], Evl.ex_t e h, by simp [hi]⟩
  stop := fun i H e hi => ⟨vs, Evl.ex_t e h, by rw [r.len]; exact hi⟩
  yld := fun i F Hc σ H ε x H' e R hi y => by
    obtain ⟨rfl, y⟩ := y
    have e2 := y vs (Evl.ex_t (e.trans R.ex) h)
    obtain ⟨d, h1, h2⟩ := r.getV e2
    exact ⟨Hc, d, Evl.Ex.refl _, R, h1, h2.mono e⟩
def rangeD (lo : Int) (n : Nat) : List D := (List.range n).map fun (i : Nat) => D.int (lo + (i : Int))
theorem rangeD_len {lo : Int} {n : Nat} : (rangeD lo n).length = n := by unfold rangeD; rw [List.length_map, List.length_range]
theorem rangeD_get {lo : Int} {n i : Nat} {d : D} (h : (rangeD lo n)[i]? = some d) : i < n ∧ d = .int (lo + (i : Int)) := by
  unfold rangeD at h
  rw [List.getElem?_map] at h
  by_cases hi : i < n
  · rw [List.getElem?_range hi] at h
    exact ⟨hi, (Option.some.inj h).symm⟩
  · rw [List.getElem?_eq_none (by rw [List.length_range]; omega)] at h
    cases h
theorem seqs_range {K : PySem.W.Frag} {Hs : Hp} {lo : Int} {n : Nat} : Seqs K Hs (Itr lo n) (rangeD lo n) where
  go := fun i H e hi => by rw [rangeD_len] at hi; exact hi
  stop := fun i H e hi => by rw [rangeD_len] at hi; exact hi
  yld := fun i F Hc σ H ε x H' e R hi y => by
    rw [rangeD_len] at hi
    obtain ⟨rfl, rfl⟩ := y
    refine ⟨Hc, .int (lo + i), Evl.Ex.refl _, R, ?_, .int _⟩
    unfold rangeD
    rw [List.getElem?_map, List.getElem?_range hi] <;> rfl
section
variable {X : Cx} {W : WX} {Ξ : Xi} {tg a b : Expr} {pos p : Pos}
/-- for x in a list -/
def yiLst (r : PTE) : PTN := fun ε Q => r ε fun t ε' => out ε' t fun d ε2 => match d with
  | .lst ds => Q ds ε2
  | _ => False
theorem yi_lst {r : PTE} (h : YE X W Ξ a r) : YI X W Ξ tg a (yiLst r) := by
  obtain ⟨t, p, k⟩ := h.ex
  refine ⟨_, pi_list p, fun F Hs σ H ε Q' R' R L q kk => k F Hs σ H ε _ _ R L q fun v H1 Hs1 t ε1 e1 R1 p1 q1 => ?_⟩
  obtain ⟨d, ε2, Hs2, e2, R2, rv, q2⟩ := R1.out p1 q1
  split at q2
  · cases rv with
    | lst h1 r1 => exact ⟨_, rfl, ⟨_, SqL.of (R2.ex _ _ h1)⟩, kk _ H1 Hs2 _ ε2 (e1.trans e2) R2 (seqs_list (SqL.of h1) r1) q2⟩
  · exact q2.elim
/-- for x in a list that is only read -/
def yiFrl (r : PTE) : PTN := fun ε Q => r ε fun t ε' => out ε' t fun d ε2 => match d with
  | .frl ds => Q ds ε2
  | _ => False
theorem yi_frl {r : PTE} (h : YE X W Ξ a r) : YI X W Ξ tg a (yiFrl r) := by
  obtain ⟨t, p, k⟩ := h.ex
  refine ⟨_, pi_list p, fun F Hs σ H ε Q' R' R L q kk => k F Hs σ H ε _ _ R L q fun v H1 Hs1 t ε1 e1 R1 p1 q1 => ?_⟩
  obtain ⟨d, ε2, Hs2, e2, R2, rv, q2⟩ := R1.out p1 q1
  split at q2
  · cases rv with
    | frl h1 r1 => exact ⟨_, rfl, ⟨_, Evl.ex_l R2.ex h1.sq⟩, kk _ H1 Hs2 _ ε2 (e1.trans e2) R2 (seqs_list h1.sq r1) q2⟩
  · exact q2.elim
def yiTup (r : PTE) : PTN := fun ε Q => r ε fun t ε' => out ε' t fun d ε2 => match d with
  | .tup ds => Q ds ε2
  | _ => False
theorem yi_tup {r : PTE} (h : YE X W Ξ a r) : YI X W Ξ tg a (yiTup r) := by
  obtain ⟨t, p, k⟩ := h.ex
  refine ⟨_, pi_tup p, fun F Hs σ H ε Q' R' R L q kk => k F Hs σ H ε _ _ R L q fun v H1 Hs1 t ε1 e1 R1 p1 q1 => ?_⟩
  obtain ⟨d, ε2, Hs2, e2, R2, rv, q2⟩ := R1.out p1 q1
  split at q2
  · cases rv with
    | tup h1 r1 => exact ⟨_, rfl, ⟨_, Evl.ex_t R2.ex h1⟩, kk _ H1 Hs2 _ ε2 (e1.trans e2) R2 (seqs_tup h1 r1) q2⟩
  · exact q2.elim
def smallB : Int → Bool
  | .ofNat n => Nat.ble n 4611686018427387903
  | .negSucc n => Nat.ble n 4611686018427387903
theorem small_of {j : Int} (h : smallB j = true) : -4611686018427387904 ≤ j ∧ j < 4611686018427387904 := by
  cases j with
  | ofNat n =>
    have h := Nat.le_of_ble_eq_true h
    constructor
    · show _ ≤ ((n : Nat) : Int)
      omega
    · show ((n : Nat) : Int) < _
      omega
  | negSucc n =>
    have h := Nat.le_of_ble_eq_true h
    rw [Int.negSucc_eq]
    omega
theorem small_by {j : Int} (h0 : 0 ≤ j) (h : j < 4611686018427387904) : smallB j = true := by
  cases j with
  | ofNat n =>
    replace h : ((n : Nat) : Int) < _ := h
    exact Nat.ble_eq_true_of_le (by omega)
  | negSucc n =>
    rw [Int.negSucc_eq] at h0
    omega
def rg1 (Q : List D → Prop) : List D → Prop
  | [.int j] => gd (smallB j = true) (Q (rangeD 0 j.toNat))
  | _ => False
def rg2 (Q : List D → Prop) : List D → Prop
  | [.int i, .int j] => gd (smallB i = true ∧ smallB j = true) (Q (rangeD i (j - i).toNat))
  | _ => False
def yiRg1 (rs : PTL) : PTN := fun ε Q => rs ε fun ts ε1 => ress ε1 ts (rg1 fun ds => Q ds ε1)
def yiRg2 (rs : PTL) : PTN := fun ε Q => rs ε fun ts ε1 => ress ε1 ts (rg2 fun ds => Q ds ε1)
theorem yi_range1 {rs : PTL} (hg : Gl X "range") (hm : X.mg "range" = none) (h : YL X W Ξ [a] rs) (hs : starEach [a] X.env = [(false, eval a X.env)] := by rfl) : YI X W Ξ tg (.Call (.Name "range" p) [a] [] pos) (yiRg1 rs) := by
  obtain ⟨t, pa, k⟩ := h.ex
  refine ⟨_, pi_range1 hg hm pa hs, fun F Hs σ H ε Q' R' R L q kk => k F Hs σ H ε _ _ R L q fun vs H1 Hs1 ts ε1 e1 R1 p1 q1 => ?_⟩
  obtain ⟨ds, rv, q2⟩ := R1.ress p1 q1
  unfold rg1 at q2
  split at q2
  · obtain ⟨v, rfl, r⟩ := rv.one
    have q2 := gd_elim q2
    exact ⟨_, by rw [r.int'], (small_of q2.1).1, (small_of q2.1).2, kk _ H1 Hs1 _ ε1 e1 R1 seqs_range q2.2⟩
  · exact q2.elim
theorem yi_range2 {rs : PTL} (hg : Gl X "range") (hm : X.mg "range" = none) (h : YL X W Ξ [a, b] rs) (hs : starEach [a, b] X.env = [(false, eval a X.env), (false, eval b X.env)] := by rfl) (hs2 : starEach [b] X.env = [(false, eval b X.env)] := by rfl) : YI X W Ξ tg (.Call (.Name "range" p) [a, b] [] pos) (yiRg2 rs) := by
  obtain ⟨t, pa, k⟩ := h.ex
  refine ⟨_, pi_range2 hg hm pa hs hs2, fun F Hs σ H ε Q' R' R L q kk => k F Hs σ H ε _ _ R L q fun vs H1 Hs1 ts ε1 e1 R1 p1 q1 => ?_⟩
  obtain ⟨ds, rv, q2⟩ := R1.ress p1 q1
  unfold rg2 at q2
  split at q2
  · obtain ⟨v, w, rfl, r1, r2⟩ := rv.two
    have q2 := gd_elim q2
    exact ⟨_, _, by rw [r1.int', r2.int'], ⟨(small_of q2.1.1).1, (small_of q2.1.1).2, (small_of q2.1.2).1, (small_of q2.1.2).2⟩, kk _ H1 Hs1 _ ε1 e1 R1 seqs_range q2.2⟩
  · exact q2.elim

/-! ### comprehensions -/
def wipeE (ε : PEnv) : List Nat → PEnv
  | [] => ε
  | v :: vs => (wipeE ε vs).set v none
/-- nothing that is owned stands in these slots -/
def freeE (ε : PEnv) : List Nat → Prop
  | [] => True
  | v :: vs => (match ε[v]? with
    | some (some (.o _)) => False
    | some (some (.od _)) => False
    | _ => True) ∧ freeE ε vs
theorem wipeE_len (ε : PEnv) : ∀ vs : List Nat, (wipeE ε vs).length = ε.length
  | [] => rfl
  | v :: vs => by unfold wipeE; rw [List.length_set, wipeE_len ε vs]
theorem wipeE_some {ε : PEnv} {i : Nat} {s : S} : ∀ {vs : List Nat}, (wipeE ε vs)[i]? = some (some s) → ε[i]? = some (some s) ∧ i ∉ vs
  | [], h => ⟨h, by simp⟩
  | v :: vs, h => by
    unfold wipeE at h
    by_cases hi : v = i
    · subst hi
      by_cases hv : v < (wipeE ε vs).length
      · rw [List.getElem?_set_self hv] at h; cases h
      · rw [List.getElem?_eq_none (by simpa using hv)] at h; cases h
    · rw [List.getElem?_set_ne hi] at h
      obtain ⟨h1, h2⟩ := wipeE_some h
      exact ⟨h1, by simp only [List.mem_cons, not_or]; exact ⟨fun e => hi e.symm, h2⟩⟩
theorem wipeE_get {ε : PEnv} {i : Nat} : ∀ {vs : List Nat}, i ∉ vs → (wipeE ε vs)[i]? = ε[i]?
  | [], _ => rfl
  | v :: vs, h => by
    simp only [List.mem_cons, not_or] at h
    unfold wipeE
    rw [List.getElem?_set_ne (Ne.symm h.1), wipeE_get h.2]
theorem wipe_get {σ : St} {i : Nat} : ∀ {vs : List Nat}, i ∉ vs → (wipe σ vs)[i]? = σ[i]?
  | [], _ => rfl
  | v :: vs, h => by
    simp only [List.mem_cons, not_or] at h
    unfold wipe
    rw [List.getElem?_set_ne (Ne.symm h.1), wipe_get h.2]
theorem freeE_own {ε : PEnv} {i : Nat} {s : S} (e : ε[i]? = some (some s)) (so : s.own = true) : ∀ {vs : List Nat}, freeE ε vs → i ∉ vs
  | [], _ => by simp
  | v :: vs, h => by
    simp only [List.mem_cons, not_or]
    refine ⟨fun z => ?_, freeE_own e so h.2⟩
    subst z
    have h1 := h.1
    rw [e] at h1
    cases s <;> first | exact h1 | cases so
section
variable {K : PySem.W.Frag} {F Hs Hs' H H' : Hp} {σ : St} {ε : PEnv}
theorem SlotOk.at {i : Nat} {s : S} {σ' : St} (h : SlotOk K F Hs σ H i s) (e : σ'[i]? = σ[i]?) : SlotOk K F Hs σ' H i s := by
  cases s <;> (unfold SlotOk at h ⊢; dsimp only at h ⊢; rw [e]; exact h)
theorem RelS.wipe (R : RelS K F Hs σ H ε) (vs : List Nat) : RelS K F Hs (L2.wipe σ vs) H (wipeE ε vs) := by
  refine ⟨R.ex, R.fr, by rw [wipe_length, wipeE_len]; exact R.len, fun j t q => ?_, fun j k t u hn h1 h2 h3 h4 => ?_⟩
  · obtain ⟨h1, h2⟩ := wipeE_some q
    exact (R.sl j t h1).at (wipe_get h2)
  · obtain ⟨g1, n1⟩ := wipeE_some h1
    obtain ⟨g2, n2⟩ := wipeE_some h2
    rw [wipe_get n1, wipe_get n2]
    exact R.ds j k t u hn g1 g2 h3 h4
theorem RelS.unwipe {vs : List Nat} (R : RelS K F Hs σ H ε) (R' : RelS K F Hs' (L2.wipe σ vs) H' (wipeE ε vs)) (e : Ex Hs Hs') (hf : freeE ε vs) : RelS K F Hs' σ H' ε := by
  refine ⟨R'.ex, R'.fr, R.len, fun j t q => ?_, R.ds⟩
  by_cases hj : j ∈ vs
  · have z := R.sl j t q
    cases t with
    | v d =>
      obtain ⟨v, h1, h2⟩ := z
      exact ⟨v, h1, h2.mono e⟩
    | o ds => exact absurd hj (freeE_own q rfl hf)
    | od ds => exact absurd hj (freeE_own q rfl hf)
  · exact (R'.sl j t (by rw [wipeE_get hj]; exact q)).at (wipe_get hj).symm
end
/-- [e for target in iter if test] -/
def ynLc (ri : PTN) (g : PTG) (rt : PTT) (re : PTE) (vs : List Nat) : PTN := fun ε Q => ri ε fun ds ε1 => freeE ε1 vs ∧ ds.length ≤ 16777216 ∧ ∃ Wp : Nat → List D → Prop, Wp 0 [] ∧
  (∀ i d acc, i < ds.length → ds[i]? = some d → acc.length ≤ i → Wp i acc → g d (wipeE ε1 vs) fun ε2 => rt ε2 fun k ε3 => match k with
    | true => re ε3 fun t ε4 => out ε4 t fun y ε5 => wipeE ε5 vs = wipeE ε1 vs ∧ Wp (i + 1) (acc ++ [y])
    | false => wipeE ε3 vs = wipeE ε1 vs ∧ Wp (i + 1) acc) ∧ ∀ acc, acc.length ≤ ds.length → Wp ds.length acc → Q acc ε1
def yYes : PTT := fun ε Q => Q true ε
/-- a clause's tests -/
structure YTs (X : Cx) (W : WX) (Ξ : Xi) (es : List Expr) (r : PTT) : Prop where
  ex : ∃ t, PTs X es t ∧ ∀ (F Hs : Hp) (σ : St) (H : Hp) (ε : PEnv) (Q' : Bool → PEnv → Prop) (Q : Bool → Hp → Prop), RelS X.K F Hs σ H ε → Lk X.K F Hs W Ξ → r ε Q' → KT X.K F Hs σ Q' Q → t σ H Q
theorem yts_nil : YTs X W Ξ [] yYes := ⟨_, pts_nil, fun F Hs σ H ε Q' Q R _ q k => k true H Hs ε (Evl.Ex.refl _) R q⟩
theorem yts_one {r : PTT} (h : YT X W Ξ a r) : YTs X W Ξ [a] r := by
  obtain ⟨t, p, k⟩ := h.ex
  exact ⟨t, pts_one p, k⟩
theorem YTs.canon {es : List Expr} {r : PTT} (h : YTs X W Ξ es r) : PTs X es (cT X.K W Ξ r) := by
  obtain ⟨t, p, k⟩ := h.ex
  exact ⟨fun pins s σ H Q I ⟨F, Hs, ε, Q', R, L, q, kk⟩ => p.run pins s σ H Q I (k F Hs σ H ε Q' Q R L q kk)⟩


theorem lc_reads {X : Cx} {W : WX} {Ξ : Xi} {own : List (Str × Nat)} {ri : PTN} {g : PTG} {rt : PTT} {re : PTE} {sl : List Nat} {wi : TI}
    (ki : ∀ (F Hs : Hp) (σ : St) (H : Hp) (ε : PEnv) (Q' : List D → PEnv → Prop) (R' : It → Hp → Prop), RelS X.K F Hs σ H ε → Lk X.K F Hs W Ξ → ri ε Q' →
      (∀ J H' Hs' ds ε', Ex Hs Hs' → RelS X.K F Hs' σ H' ε' → Seqs X.K Hs' J ds → Q' ds ε' → R' J H') → wi σ H R')
    (hsl : (sl.all fun i => (own.map (·.2)).contains i) = true) (F Hs : Hp) (σ : St) (H : Hp) (ε : PEnv) (Q' : List D → PEnv → Prop) (Q : VK) (R : RelS X.K F Hs σ H ε) (L : Lk X.K F Hs W Ξ) (q : ynLc ri g rt re (own.map (·.2)) ε Q') (k : KN X.K F Hs σ Q' Q) :
    tLc wi (cG X.K g sl) (cT X.K W0 Ξ0 rt) (cE X.K W0 Ξ0 re) (own.map (·.2)) σ H Q := by
  have hsl' : ∀ i ∈ sl, i ∈ own.map (·.2) := fun i hi => by simpa using List.all_eq_true.mp hsl i hi
  generalize own.map (·.2) = ws at hsl' q ⊢
  refine ki F Hs σ H ε _ _ R L q fun J H1 Hs1 ds ε1 e1 R1 sq ⟨hf, hl, Wp, w0, wt, wd⟩ => fun Dl hD => ?_
  obtain ⟨n1, n2, n3⟩ := R1.nobody hD
  have R2 : RelS X.K F Hs1 σ (upd H1 Dl (.lst [])) ε1 := R1.lay hD
  have lt' : Lk X.K F Hs1 W Ξ := L.mono e1
  -- the turns
  refine ⟨fun i m H => m = ds.length - i ∧ i ≤ ds.length ∧ ∃ (Hc : Hp) (av : List V) (acc : List D), Ex Hs1 Hc ∧ RelS X.K (upd F Dl (.lst av)) Hc (L2.wipe σ ws) H (wipeE ε1 ws) ∧ Reps X.K Hc av acc ∧ acc.length ≤ i ∧ Wp i acc, ⟨ds.length, by simp, Nat.zero_le _, Hs1, [], [], Evl.Ex.refl _, ?_, .nil, Nat.le_refl _, w0⟩, ?_⟩
  · refine (R2.wipe ws).lend upd_same n1 fun i s e so z => ?_
    obtain ⟨g1, g2⟩ := wipeE_some e
    rw [wipe_get g2] at z
    exact n3 i s g1 so z
  · rintro i m H2 ⟨rfl, hil, Hc, av, acc, ec, Rc, ra, hla, wp⟩
    by_cases hlt : i < ds.length
    · refine .inr ⟨sq.go i H2 (ec.trans Rc.ex) hlt, fun H' => i + 1 ≤ ds.length ∧ ∃ (Hc : Hp) (av : List V) (acc : List D), Ex Hs1 Hc ∧ RelS X.K (upd F Dl (.lst av)) Hc (L2.wipe σ ws) H' (wipeE ε1 ws) ∧ Reps X.K Hc av acc ∧ acc.length ≤ i + 1 ∧ Wp (i + 1) acc,
        fun H' n' => ⟨ds.length - (i + 1), by omega, rfl, n'.1, n'.2⟩, fun x H3 y => ?_⟩
      obtain ⟨Hc3, d, e3, R3, hd, rx⟩ := sq.yld i _ Hc _ H2 _ x H3 ec Rc hlt y
      refine ⟨_, Hc3, _, d, _, R3, rx, wt i d acc hlt hd hla wp, fun σ4 H4 Hc4 ε4 e4 o4 R4 q4 => ?_⟩
      have w4 : L2.wipe σ4 ws = L2.wipe σ ws := by
        rw [o4 ws hsl']
        have idem : ∀ (vs us : List Nat), (∀ v ∈ vs, v ∈ us) → L2.wipe (L2.wipe σ us) vs = L2.wipe σ us := by
          intro vs
          induction vs with
          | nil => intro _ _; rfl
          | cons v vs ih =>
            intro us hv
            show (L2.wipe (L2.wipe σ us) vs).set v none = L2.wipe σ us
            rw [ih us fun w hw => hv w (List.mem_cons_of_mem _ hw)]
            have in_ : ∀ {us : List Nat}, v ∈ us → (L2.wipe σ us).set v none = L2.wipe σ us := by
              intro us
              induction us with
              | nil => intro h; cases h
              | cons u us ih =>
                intro h
                show ((L2.wipe σ us).set u none).set v none = (L2.wipe σ us).set u none
                by_cases e : u = v
                · subst e
                  rw [List.set_set]
                · rw [List.set_comm _ _ e, ih (by
                    rcases List.mem_cons.mp h with h | h
                    · exact absurd h.symm e
                    · exact h)]
            exact in_ (hv v (List.mem_cons_self ..))
        exact idem ws ws fun _ h => h
      refine ⟨w4, ⟨_, Hc4, ε4, _, R4, Lk.none, q4, fun b H5 Hc5 ε5 e5 R5 q5 => ?_⟩⟩
      cases b with
      | true =>
        show (if true = true then _ else _)
        rw [if_pos rfl]
        refine ⟨_, Hc5, ε5, _, R5, Lk.none, q5, fun z H6 Hc6 t6 ε6 e6 R6 p6 q6 => ?_⟩
        obtain ⟨yd, ε7, Hc7, e7, R7, ry, we, wp7⟩ := R6.out p6 q6
        have ex : Ex Hc Hc7 := (((e3.trans e4).trans e5).trans e6).trans e7
        have R8 := R7.wipe ws
        rw [w4, we] at R8
        obtain ⟨R9, b1, b2, b3⟩ := R8.back n2
        refine ⟨av, b1, by rw [ra.len]; exact line_lt (by omega), hlt, Hc7, av ++ [z], acc ++ [yd], ec.trans ex, ?_, (ra.mono ex).append (.cons ry .nil), by rw [List.length_append]; simp; omega, wp7⟩
        exact (R9.touch b2 n2 b3).lend upd_same b2 b3
      | false =>
        show (if false = true then _ else _)
        rw [if_neg Bool.false_ne_true]
        obtain ⟨we, wp7⟩ := q5
        have ex : Ex Hc Hc5 := (e3.trans e4).trans e5
        have R8 := R5.wipe ws
        rw [w4, we] at R8
        exact ⟨hlt, Hc5, av, acc, ec.trans ex, R8, ra.mono ex, by omega, wp7⟩
    · have ei : i = ds.length := by omega
      subst ei
      refine .inl ⟨sq.stop _ H2 (ec.trans Rc.ex) (Nat.le_refl _), ?_⟩
      obtain ⟨R9, b1, b2, b3⟩ := Rc.back n2
      have R10 := R2.unwipe R9 ec hf
      refine k Dl H2 Hc av acc ε1 (e1.trans ec) R10 b1 b2 n2 (fun i s e so z => ?_) ra (wd acc hla wp)
      have hi := freeE_own e so hf
      exact b3 i s (by rw [wipeE_get hi]; exact e) so (by rw [wipe_get hi]; exact z)
theorem yn_lc {tg iter elt : Expr} {ifs : List Expr} {scope : Scope} {own : List (Str × Nat)} {ri : PTN} {g : PTG} {rt : PTT} {re : PTE} {sl : List Nat} (hc : X.calm = true) (hN : X.N.Nodup) (hi : YI X W Ξ tg iter ri) (ok : BlkOk X.N X.env.scope scope own)
    (hg : ∀ (s : Shared) (H : Hp) (C : Addr) (cl : List (Str × Addr)) (fp : List Addr), YG (X.blk s H scope (compEnvC scope cl C X.env) fp) tg g sl)
    (ht : ∀ (s : Shared) (H : Hp) (C : Addr) (cl : List (Str × Addr)) (fp : List Addr), YTs (X.blk s H scope (compEnvC scope cl C X.env) fp) W0 Ξ0 ifs rt)
    (he : ∀ (s : Shared) (H : Hp) (C : Addr) (cl : List (Str × Addr)) (fp : List Addr), YE (X.blk s H scope (compEnvC scope cl C X.env) fp) W0 Ξ0 elt re)
    (hsl : (sl.all fun i => (own.map (·.2)).contains i) = true := by decide) (hs : ∀ x, foldedSetIterable iter X.env x = pure x := by intro _; rfl) :
    YN X W Ξ (.ListComp elt [⟨tg, iter, ifs, 0⟩] scope pos) (ynLc ri g rt re (own.map (·.2))) := by
  obtain ⟨wi, pi, ki⟩ := hi.ex
  exact ⟨_, pe_lc (g := cG X.K g sl) (tt := cT X.K W0 Ξ0 rt) (te := cE X.K W0 Ξ0 re) hc hN pi ok (fun s H C cl fp => (hg s H C cl fp).canon) (fun s H C cl fp => (ht s H C cl fp).canon) (fun s H C cl fp => (he s H C cl fp).canon) hs, lc_reads ki hsl⟩
end
end PL

set_option Elab.async false
set_option linter.all false
set_option autoImplicit false
set_option maxRecDepth 100000
set_option maxHeartbeats 2000000
/-! Statements and defs, over plain data. -/
namespace PL
open PySem PySem.Spec PyProof.Rows L2
open Evl (Ex)

structure PEnds where
  nx : PEnv → Prop
  rt : D → PEnv → Prop
  bk : PEnv → Prop := fun _ => False
  ct : PEnv → Prop := fun _ => False
abbrev PTS := PEnds → PEnv → Prop
structure EOk (K : PySem.W.Frag) (F Hs : Hp) (Δ : PEnds) (Dd : Ends) : Prop where
  nx : ∀ (σ' : St) (H' Hs' : Hp) (ε' : PEnv), Ex Hs Hs' → RelS K F Hs' σ' H' ε' → Δ.nx ε' → Dd.nx σ' H'
  rt : ∀ (v : V) (σ' : St) (H' Hs' : Hp) (d : D) (ε' : PEnv), Ex Hs Hs' → RelS K F Hs' σ' H' ε' → Rep K Hs' v d → Δ.rt d ε' → Dd.rt v H'
  bk : ∀ (σ' : St) (H' Hs' : Hp) (ε' : PEnv), Ex Hs Hs' → RelS K F Hs' σ' H' ε' → Δ.bk ε' → Dd.bk σ' H'
  ct : ∀ (σ' : St) (H' Hs' : Hp) (ε' : PEnv), Ex Hs Hs' → RelS K F Hs' σ' H' ε' → Δ.ct ε' → Dd.ct σ' H'
theorem EOk.mono {K : PySem.W.Frag} {F Hs Hs' : Hp} {Δ : PEnds} {Dd : Ends} (e : Ex Hs Hs') (h : EOk K F Hs Δ Dd) : EOk K F Hs' Δ Dd :=
  ⟨fun σ' H' Hs' ε' e2 => h.nx σ' H' Hs' ε' (e.trans e2), fun v σ' H' Hs' d ε' e2 => h.rt v σ' H' Hs' d ε' (e.trans e2), fun σ' H' Hs' ε' e2 => h.bk σ' H' Hs' ε' (e.trans e2), fun σ' H' Hs' ε' e2 => h.ct σ' H' Hs' ε' (e.trans e2)⟩
structure YS (X : Cx) (W : WX) (Ξ : Xi) (st : Stmt) (r : PTS) : Prop where
  ex : ∃ t, PS X st t ∧ ∀ (F Hs : Hp) (σ : St) (H : Hp) (ε : PEnv) (Δ : PEnds) (Dd : Ends), RelS X.K F Hs σ H ε → Lk X.K F Hs W Ξ → r Δ ε → EOk X.K F Hs Δ Dd → t Dd σ H
structure YSs (X : Cx) (W : WX) (Ξ : Xi) (st : List Stmt) (r : PTS) : Prop where
  ex : ∃ t, PSs X st t ∧ ∀ (F Hs : Hp) (σ : St) (H : Hp) (ε : PEnv) (Δ : PEnds) (Dd : Ends), RelS X.K F Hs σ H ε → Lk X.K F Hs W Ξ → r Δ ε → EOk X.K F Hs Δ Dd → t Dd σ H
def cSs (K : PySem.W.Frag) (W : WX) (Ξ : Xi) (r : PTS) : TS := fun Dd σ H => ∃ (F Hs : Hp) (ε : PEnv) (Δ : PEnds), RelS K F Hs σ H ε ∧ Lk K F Hs W Ξ ∧ r Δ ε ∧ EOk K F Hs Δ Dd
theorem YSs.canon {X : Cx} {W : WX} {Ξ : Xi} {st : List Stmt} {r : PTS} (h : YSs X W Ξ st r) : PSs X st (cSs X.K W Ξ r) := by
  obtain ⟨t, p, k⟩ := h.ex
  exact ⟨fun pins s σ H Dd I ⟨F, Hs, ε, Δ, R, L, q, kk⟩ => p.run pins s σ H Dd I (k F Hs σ H ε Δ Dd R L q kk)⟩

section
variable {X : Cx} {W : WX} {Ξ : Xi} {st : Stmt} {rest : List Stmt} {r u : PTS} {e : Expr} {pos : Pos}
def ysNext : PTS := fun Δ ε => Δ.nx ε
def ysSeq (r u : PTS) : PTS := fun Δ ε => r { Δ with nx := fun ε' => u Δ ε' } ε
theorem yss_nil : YSs X W Ξ [] ysNext := ⟨_, pss_nil, fun F Hs σ H ε Δ Dd R L q k => k.nx σ H Hs ε (Evl.Ex.refl _) R q⟩
theorem yss_cons (h1 : YS X W Ξ st r) (h2 : YSs X W Ξ rest u) : YSs X W Ξ (st :: rest) (ysSeq r u) := by
  obtain ⟨t, p, k⟩ := h1.ex
  obtain ⟨t2, p2, k2⟩ := h2.ex
  refine ⟨_, pss_cons p p2, fun F Hs σ H ε Δ Dd R L q kk => k F Hs σ H ε _ _ R L q ⟨fun σ' H' Hs' ε' e R' q' => ?_, kk.rt, kk.bk, kk.ct⟩⟩
  exact k2 F Hs' σ' H' ε' Δ Dd R' (L.mono e) q' (kk.mono e)
theorem yss_one (h1 : YS X W Ξ st r) : YSs X W Ξ [st] r := by
  obtain ⟨t, p, k⟩ := h1.ex
  exact ⟨_, pss_one p, k⟩
theorem ys_pass : YS X W Ξ (.Pass pos) ysNext := ⟨_, ps_pass, fun F Hs σ H ε Δ Dd R L q k => k.nx σ H Hs ε (Evl.Ex.refl _) R q⟩
def ysBrk : PTS := fun Δ ε => Δ.bk ε
def ysCnt : PTS := fun Δ ε => Δ.ct ε
theorem ys_break : YS X W Ξ (.Break pos) ysBrk := ⟨_, ps_break, fun F Hs σ H ε Δ Dd R L q k => k.bk σ H Hs ε (Evl.Ex.refl _) R q⟩
theorem ys_continue : YS X W Ξ (.Continue pos) ysCnt := ⟨_, ps_continue, fun F Hs σ H ε Δ Dd R L q k => k.ct σ H Hs ε (Evl.Ex.refl _) R q⟩
/-- x = e -/
def ysAsg (re : PTE) (i : Nat) : PTS := fun Δ ε => re ε fun t ε' => out ε' t fun d ε2 => Δ.nx (ε2.set i (some (.v d)))
theorem ys_set (i : Nat) {x : Str} {pos' : Pos} {re : PTE} (hN : X.N.Nodup) (hi : X.N[i]? = some x) (hx : Loc X.env.scope x) (he : YE X W Ξ e re) (hs : swapsWith e (some (.Name x pos')) pos.line X.env = pure false := by rfl)
    (hf : X.fn x = true ∨ X.env.scope.names.lookup x = some .local := by first | exact .inl rfl | exact .inr rfl | assumption) : YS X W Ξ (.Assign [.Name x pos'] e pos) (ysAsg re i) := by
  obtain ⟨t, p, k⟩ := he.ex
  refine ⟨_, ps_set hN hi hx p hs hf, fun F Hs σ H ε Δ Dd R L q kk => k F Hs σ H ε _ _ R L q fun v H1 Hs1 t1 ε1 e1 R1 p1 q1 => ?_⟩
  obtain ⟨d, ε2, Hs2, e2, R2, rv, q2⟩ := R1.out p1 q1
  exact kk.nx _ H1 Hs2 _ (e1.trans e2) (R2.store rv i) q2
/-- x = a new list, that x owns -/
def ysAsgO (rn : PTN) (i : Nat) : PTS := fun Δ ε => rn ε fun ds ε' => Δ.nx (ε'.set i (some (.o ds)))
theorem storeO_of {K : PySem.W.Frag} {F Hs H : Hp} {σ : St} {ε : PEnv} {p : Addr} {vs : List V} {ds : List D} (R : RelS K F Hs σ H ε) (i : Nat) (hH : H p = some (.lst vs)) (hp : Hs p = none) (hF : F p = none) (hn : Nobody σ ε p) (r : Reps K Hs vs ds) :
    RelS K F Hs (σ.set i (some (.ref p))) H (ε.set i (some (.o ds))) := by
  refine R.storeO rfl i hn fun hi => ?_
  exact ⟨p, vs, by rw [List.getElem?_set_self (by rw [R.len]; exact hi)], hp, hF, hH, r⟩
theorem ys_setO (i : Nat) {x : Str} {pos' : Pos} {rn : PTN} (hN : X.N.Nodup) (hi : X.N[i]? = some x) (hx : Loc X.env.scope x) (he : YN X W Ξ e rn) (hs : swapsWith e (some (.Name x pos')) pos.line X.env = pure false := by rfl)
    (hf : X.fn x = true ∨ X.env.scope.names.lookup x = some .local := by first | exact .inl rfl | exact .inr rfl | assumption) : YS X W Ξ (.Assign [.Name x pos'] e pos) (ysAsgO rn i) := by
  obtain ⟨t, p, k⟩ := he.ex
  refine ⟨_, ps_set hN hi hx p hs hf, fun F Hs σ H ε Δ Dd R L q kk => k F Hs σ H ε _ _ R L q fun p H' Hs' vs ds ε' e R' g1 g2 g3 g4 rs q' => ?_⟩
  exact kk.nx _ H' Hs' _ e (storeO_of R' i g1 g2 g3 g4 rs) q'
/-- x = [.. for ..] -/
theorem ys_setLc (i : Nat) {y : Str} {py spos : Pos} {tg iter elt : Expr} {ifs : List Expr} {scope : Scope} {own : List (Str × Nat)} {ri : PTN} {g : PTG} {rt : PTT} {re : PTE} {sl : List Nat} (o : Bool) (hc : X.calm = true) (hN : X.N.Nodup) (hy : X.N[i]? = some y) (hyl : X.env.scope.names.lookup y = some .local)
    (hsw : swapsWith (.ListComp elt [⟨tg, iter, ifs, 0⟩] scope pos) (some (.Name y py)) spos.line X.env = pure true) (hi : YI X W Ξ tg iter ri) (ok : BlkOk X.N X.env.scope scope own)
    (hg : ∀ (s : Shared) (H : Hp) (C : Addr) (cl : List (Str × Addr)) (fp : List Addr), YG (X.blk s H scope (compEnvC scope cl C X.env) fp) tg g sl)
    (ht : ∀ (s : Shared) (H : Hp) (C : Addr) (cl : List (Str × Addr)) (fp : List Addr), YTs (X.blk s H scope (compEnvC scope cl C X.env) fp) W0 Ξ0 ifs rt)
    (he : ∀ (s : Shared) (H : Hp) (C : Addr) (cl : List (Str × Addr)) (fp : List Addr), YE (X.blk s H scope (compEnvC scope cl C X.env) fp) W0 Ξ0 elt re)
    (hsl : (sl.all fun i => (own.map (·.2)).contains i) = true := by decide) (hs : ∀ x, foldedSetIterable iter X.env x = pure x := by intro _; rfl) :
    YS X W Ξ (.Assign [.Name y py] (.ListComp elt [⟨tg, iter, ifs, 0⟩] scope pos) spos) (match o with
      | true => ysAsgO (ynLc ri g rt re (own.map (·.2))) i
      | false => ysAsg (yNew (ynLc ri g rt re (own.map (·.2)))) i) := by
  obtain ⟨wi, pi, ki⟩ := hi.ex
  refine ⟨_, ps_setLc (g := cG X.K g sl) (tt := cT X.K W0 Ξ0 rt) (te := cE X.K W0 Ξ0 re) hc hN hy hyl hsw pi ok (fun s H C cl fp => (hg s H C cl fp).canon) (fun s H C cl fp => (ht s H C cl fp).canon) (fun s H C cl fp => (he s H C cl fp).canon) hs, fun F Hs σ H ε Δ Dd R L q kk => ?_⟩
  cases o with
  | true =>
    refine lc_reads ki hsl F Hs σ H ε _ _ R L q fun p H' Hs' vs ds ε' e R' g1 g2 g3 g4 rs q' => ?_
    exact kk.nx _ H' Hs' _ e (storeO_of R' i g1 g2 g3 g4 rs) q'
  | false =>
    refine lc_reads ki hsl F Hs σ H ε _ _ R L q fun p H' Hs' vs ds ε' e R' g1 g2 g3 g4 rs q' => ?_
    exact kk.nx _ H' _ _ (e.trans (ex_upd g2)) ((R'.adopt g1 g2 g3 g4).store (.lst upd_same (rs.mono (ex_upd g2))) i) q'
/-- targets = e -/
def ysAsgG (re : PTE) (g : PTG) : PTS := fun Δ ε => re ε fun t ε' => out ε' t fun d ε2 => g d ε2 Δ.nx
theorem ys_asg {tg : Expr} {re : PTE} {g : PTG} {sl : List Nat} (he : YE X W Ξ e re) (hg : YG X tg g sl) (hs : swapsWithSole [tg] e pos.line X.env = pure false := by rfl) (hw : swappedStores [tg] e X.env = pure none := by rfl)
    (h1 : (assignEach [tg] X.env).map (·.2) = [assign tg X.env] := by rfl) : YS X W Ξ (.Assign [tg] e pos) (ysAsgG re g) := by
  obtain ⟨t, p, k⟩ := he.ex
  obtain ⟨tg', pg, kg⟩ := hg.ex
  refine ⟨_, ps_asg p pg hs hw h1, fun F Hs σ H ε Δ Dd R L q kk => k F Hs σ H ε _ _ R L q fun v H1 Hs1 t1 ε1 e1 R1 p1 q1 => ?_⟩
  obtain ⟨d, ε2, Hs2, e2, R2, rv, q2⟩ := R1.out p1 q1
  exact kg F Hs2 σ H1 ε2 v d _ _ R2 rv q2 fun σ3 H3 Hs3 ε3 e3 _ R3 q3 => kk.nx σ3 H3 Hs3 ε3 ((e1.trans e2).trans e3) R3 q3
/-- x += e -/
def ysAug (f : Int → Int → Int) (i : Nat) (re : PTE) : PTS := fun Δ ε => match ε[i]? with
  | some (some (.v (.int a))) => re ε fun t ε' => res ε' t (asI fun b => Δ.nx (ε'.set i (some (.v (.int (f a b))))))
  | _ => False
theorem ys_aug (i : Nat) {x : Str} {pos' : Pos} {op : Operator} {f : Int → Int → Int} {re : PTE} (ho : PIp X op (ipI f)) (hN : X.N.Nodup) (hi : X.N[i]? = some x) (hx : Loc X.env.scope x) (he : YE X W Ξ e re) (hf : X.fn x = true ∨ X.env.scope.names.lookup x = some .local := by first | exact .inl rfl | exact .inr rfl | assumption) :
    YS X W Ξ (.AugAssign (.Name x pos') op e pos) (ysAug f i re) := by
  obtain ⟨t, p, k⟩ := he.ex
  refine ⟨_, ps_aug hN hi hx p ho hf, fun F Hs σ H ε Δ Dd R L q kk => ?_⟩
  unfold ysAug at q
  split at q
  · rename_i a ea
    obtain ⟨v, h1, h2⟩ := R.sl i _ ea
    cases h2
    refine ⟨_, h1, k F Hs σ H ε _ _ R L q fun v H1 Hs1 t1 ε1 e1 R1 p1 q1 => ?_⟩
    obtain ⟨d, rv, q2⟩ := R1.res p1 q1
    cases d with
    | int b => exact ⟨a, b, rfl, rv.int', kk.nx _ H1 Hs1 _ e1 (R1.store (.int _) i) q2⟩
    | _ => exact False.elim q2
  · exact q.elim
theorem ys_augAdd (i : Nat) {x : Str} {pos' : Pos} {re : PTE} (hN : X.N.Nodup) (hi : X.N[i]? = some x) (hx : Loc X.env.scope x) (he : YE X W Ξ e re) (hf : X.fn x = true ∨ X.env.scope.names.lookup x = some .local := by first | exact .inl rfl | exact .inr rfl | assumption) :
    YS X W Ξ (.AugAssign (.Name x pos') .Add e pos) (ysAug (fun a b => a + b) i re) := ys_aug i ip_add hN hi hx he hf
/-- e -/
def ysDrop (re : PTE) : PTS := fun Δ ε => re ε fun _ ε' => Δ.nx ε'
theorem ys_expr {re : PTE} (he : YE X W Ξ e re) (hs : swapsWith e none pos.line X.env = pure false := by rfl) : YS X W Ξ (.Expr e pos) (ysDrop re) := by
  obtain ⟨t, p, k⟩ := he.ex
  exact ⟨_, ps_expr p hs, fun F Hs σ H ε Δ Dd R L q kk => k F Hs σ H ε _ _ R L q fun v H1 Hs1 t1 ε1 e1 R1 p1 q1 => kk.nx σ H1 Hs1 ε1 e1 R1 q1⟩
def ysRet (re : PTE) : PTS := fun Δ ε => re ε fun t ε' => out ε' t fun d ε2 => Δ.rt d ε2
theorem ys_ret {re : PTE} (he : YE X W Ξ e re) : YS X W Ξ (.Return (some e) pos) (ysRet re) := by
  obtain ⟨t, p, k⟩ := he.ex
  refine ⟨_, ps_ret p, fun F Hs σ H ε Δ Dd R L q kk => k F Hs σ H ε _ _ R L q fun v H1 Hs1 t1 ε1 e1 R1 p1 q1 => ?_⟩
  obtain ⟨d, ε2, Hs2, e2, R2, rv, q2⟩ := R1.out p1 q1
  exact kk.rt v σ H1 Hs2 d ε2 (e1.trans e2) R2 rv q2
def ysIf (rt : PTT) (r u : PTS) : PTS := fun Δ ε => rt ε fun k ε' => match k with
  | true => r Δ ε'
  | false => u Δ ε'
theorem ys_if {c : Expr} {a b : List Stmt} {rt : PTT} (hc : YT X W Ξ c rt) (ha : YSs X W Ξ a r) (hb : YSs X W Ξ b u) : YS X W Ξ (.If c a b pos) (ysIf rt r u) := by
  obtain ⟨t, p, k⟩ := hc.ex
  obtain ⟨t1, p1, k1⟩ := ha.ex
  obtain ⟨t2, p2, k2⟩ := hb.ex
  refine ⟨_, ps_if p p1 p2, fun F Hs σ H ε Δ Dd R L q kk => k F Hs σ H ε _ _ R L q fun b H1 Hs1 ε1 e1 R1 q1 => ?_⟩
  cases b with
  | true =>
    show (if true = true then _ else _)
    rw [if_pos rfl]
    exact k1 F Hs1 σ H1 ε1 Δ Dd R1 (L.mono e1) q1 (kk.mono e1)
  | false =>
    show (if false = true then _ else _)
    rw [if_neg Bool.false_ne_true]
    exact k2 F Hs1 σ H1 ε1 Δ Dd R1 (L.mono e1) q1 (kk.mono e1)
/-- while, by an invariant and a measure -/
def ysWhile (rt : PTT) (rb : PTS) : PTS := fun Δ ε => ∃ Wp : Nat → PEnv → Prop, (∃ m, Wp m ε) ∧ ∀ m ε, Wp m ε → rt ε fun k ε' => match k with
  | true => rb { Δ with nx := fun ε2 => ∃ m', m' < m ∧ Wp m' ε2, ct := fun ε2 => ∃ m', m' < m ∧ Wp m' ε2, bk := Δ.nx } ε'
  | false => Δ.nx ε'
theorem ys_while {c : Expr} {body : List Stmt} {rt : PTT} {rb : PTS} (hp : PassesOwn (model X.prog X.w) X.A X.env X.xe) (hc : YT X W Ξ c rt) (hb : YSs X W Ξ body rb) : YS X W Ξ (.While c body [] pos) (ysWhile rt rb) := by
  obtain ⟨t, p, k⟩ := hc.ex
  obtain ⟨t1, p1, k1⟩ := hb.ex
  refine ⟨_, ps_while hp p p1, fun F Hs σ H ε Δ Dd R L q kk => ?_⟩
  obtain ⟨Wp, ⟨m0, w0⟩, turn⟩ := q
  refine ⟨fun m σ H => ∃ Hc ε, Ex Hs Hc ∧ RelS X.K F Hc σ H ε ∧ Wp m ε, ⟨m0, Hs, ε, Evl.Ex.refl _, R, w0⟩, ?_⟩
  rintro m σ1 H1 ⟨Hc, ε1, ec, R1, w1⟩
  refine k F Hc σ1 H1 ε1 _ _ R1 (L.mono ec) (turn m ε1 w1) fun b H2 Hs2 ε2 e2 R2 q2 => ?_
  cases b with
  | true =>
    show (if true = true then _ else _)
    rw [if_pos rfl]
    refine ⟨fun σ' H' => ∃ m', m' < m ∧ ∃ Hc ε, Ex Hs Hc ∧ RelS X.K F Hc σ' H' ε ∧ Wp m' ε, fun σ' H' ⟨m', hm, z⟩ => ⟨m', hm, z⟩, ?_⟩
    have again : ∀ (σ' : St) (H' Hs' : Hp) (ε' : PEnv), Ex Hs2 Hs' → RelS X.K F Hs' σ' H' ε' → (∃ m', m' < m ∧ Wp m' ε') → ∃ m', m' < m ∧ ∃ Hc ε, Ex Hs Hc ∧ RelS X.K F Hc σ' H' ε ∧ Wp m' ε :=
      fun σ' H' Hs' ε' e' R' ⟨m', hm, w'⟩ => ⟨m', hm, Hs', ε', (ec.trans e2).trans e', R', w'⟩
    exact k1 F Hs2 σ1 H2 ε2 _ _ R2 (L.mono (ec.trans e2)) q2 ⟨again, fun v σ' H' Hs' d ε' e' => kk.rt v σ' H' Hs' d ε' ((ec.trans e2).trans e'), fun σ' H' Hs' ε' e' => kk.nx σ' H' Hs' ε' ((ec.trans e2).trans e'), again⟩
  | false =>
    show (if false = true then _ else _)
    rw [if_neg Bool.false_ne_true]
    exact kk.nx σ1 H2 Hs2 ε2 (ec.trans e2) R2 q2
/-- for, by an invariant over the turn -/
def ysFor (ri : PTN) (g : PTG) (rb : PTS) : PTS := fun Δ ε => ri ε fun ds ε1 => ∃ Wp : Nat → PEnv → Prop, Wp 0 ε1 ∧
  (∀ i d ε, i < ds.length → ds[i]? = some d → Wp i ε → g d ε fun ε2 => rb { Δ with nx := Wp (i + 1), ct := Wp (i + 1), bk := Δ.nx } ε2) ∧ ∀ ε, Wp ds.length ε → Δ.nx ε
theorem ys_for {tg iter : Expr} {body : List Stmt} {ri : PTN} {g : PTG} {rb : PTS} {sl : List Nat} (hp : PassesOwn (model X.prog X.w) X.A X.env X.xe) (hc : X.calm = true) (hi : YI X W Ξ tg iter ri) (hg : YG X tg g sl) (hb : YSs X W Ξ body rb)
    (hs : ∀ x, foldedSetIterable iter X.env x = pure x := by intro _; rfl) : YS X W Ξ (.For tg iter body [] pos) (ysFor ri g rb) := by
  obtain ⟨wi, pi, ki⟩ := hi.ex
  obtain ⟨tg', pg, kg⟩ := hg.ex
  obtain ⟨t1, p1, k1⟩ := hb.ex
  refine ⟨_, ps_for hp hc pi pg p1 hs, fun F Hs σ H ε Δ Dd R L q kk => ?_⟩
  refine ki F Hs σ H ε _ _ R L q fun J H1 Hs1 ds ε1 e1 R1 sq ⟨Wp, w0, turn, done⟩ => ?_
  refine ⟨fun i m σ H => m = ds.length - i ∧ i ≤ ds.length ∧ ∃ Hc ε, Ex Hs1 Hc ∧ RelS X.K F Hc σ H ε ∧ Wp i ε, ⟨ds.length, by simp, Nat.zero_le _, Hs1, ε1, Evl.Ex.refl _, R1, w0⟩, ?_⟩
  rintro i m σ2 H2 ⟨rfl, hil, Hc, ε2, ec, R2, w2⟩
  by_cases hlt : i < ds.length
  · refine .inr ⟨sq.go i H2 (ec.trans R2.ex) hlt, fun σ' H' => ∃ Hc ε, Ex Hs1 Hc ∧ RelS X.K F Hc σ' H' ε ∧ Wp (i + 1) ε, fun σ' H' n' => ⟨ds.length - (i + 1), by omega, rfl, hlt, n'⟩, fun x H3 y => ?_⟩
    obtain ⟨Hc3, d, e3, R3, hd, rx⟩ := sq.yld i F Hc σ2 H2 ε2 x H3 ec R2 hlt y
    refine kg F Hc3 σ2 H3 ε2 x d _ _ R3 rx (turn i d ε2 hlt hd w2) fun σ4 H4 Hc4 ε4 e4 _ R4 q4 => ?_
    have ex4 : Ex Hs1 Hc4 := (ec.trans e3).trans e4
    have again : ∀ (σ' : St) (H' Hs' : Hp) (ε' : PEnv), Ex Hc4 Hs' → RelS X.K F Hs' σ' H' ε' → Wp (i + 1) ε' → ∃ Hc ε, Ex Hs1 Hc ∧ RelS X.K F Hc σ' H' ε ∧ Wp (i + 1) ε := fun σ' H' Hs' ε' e' R' w' => ⟨Hs', ε', ex4.trans e', R', w'⟩
    exact k1 F Hc4 σ4 H4 ε4 _ _ R4 (L.mono (e1.trans ex4)) q4 ⟨again, fun v σ' H' Hs' d ε' e' => kk.rt v σ' H' Hs' d ε' ((e1.trans ex4).trans e'), fun σ' H' Hs' ε' e' => kk.nx σ' H' Hs' ε' ((e1.trans ex4).trans e'), again⟩
  · have ei : i = ds.length := by omega
    subst ei
    exact .inl ⟨sq.stop _ H2 (ec.trans R2.ex) (Nat.le_refl _), kk.nx σ2 H2 Hc ε2 (e1.trans ec) R2 (done ε2 w2)⟩

/-! ### a name's own list: append, extend, pop, an item stored -/
def ysApp (i : Nat) (re : PTE) : PTS := fun Δ ε => match ε[i]? with
  | some (some (.o _)) => re ε fun t ε' => out ε' t fun d ε2 => match ε2[i]? with
    | some (some (.o ds)) => gd (ds.length < 16777216) (Δ.nx (ε2.set i (some (.o (ds ++ [d])))))
    | _ => False
  | _ => False
theorem ys_app (i : Nat) {x : Str} {px pa pc : Pos} {re : PTE} (hN : X.N[i]? = some x) (hv : Vis X.env.scope x) (he : YE X W Ξ e re) (hd : (x == ("__debug__" : Str)) = false := by decide) (hcd : (x == ("__classdict__" : Str)) = false := by decide)
    (hbase : attributeBase (.Name x px) "append" X.env (eval (.Name x px) X.env) = eval (.Name x px) X.env := by rfl)
    (hfew : ((backTo pc (starEach (e :: []) X.env)).all (fun x => !x.1) && (backToKw pc (keywordEach [] X.env)).all (fun x => x.1.isSome)
      && decide ((e :: []).length + ([] : List Keyword).length + (if ([] : List Keyword).isEmpty then 0 else 1) < 30)) = true := by rfl)
    (hline : (pa.endLine == pc.line) = true := by rfl) (hs : starEach (e :: []) X.env = (false, eval e X.env) :: starEach [] X.env := by rfl) (hplain : (backTo pc (starEach [] X.env)).any (·.1) = false := by rfl)
    (hsw : swapsWith (.Call (.Attribute (.Name x px) "append" pa) [e] [] pc) none pos.line X.env = pure false := by rfl) :
    YS X W Ξ (.Expr (.Call (.Attribute (.Name x px) "append" pa) [e] [] pc) pos) (ysApp i re) := by
  obtain ⟨t, p, k⟩ := he.ex
  refine ⟨_, ps_expr (pe_bm PySem.F.plainAttrs_list PySem.F.slot_list_append PySem.F.type_list_append mt_append (pe_var hN hv hd hcd) (pa_cons p pa_nil hs) hbase hfew hline hs hplain) hsw, fun F Hs σ H ε Δ Dd R L q kk => ?_⟩
  unfold ysApp at q
  split at q
  · rename_i ds0 e0
    obtain ⟨p0, vs0, h1, h2, h3, h4, h5⟩ := R.sl i _ e0
    refine ⟨_, h1, .inl ⟨rfl, _, SqL.of h4⟩, ?_⟩
    refine k F Hs σ H ε _ _ R L q fun v H1 Hs1 t1 ε1 e1 R1 p1 q1 => ?_
    obtain ⟨d, ε2, Hs2, e2, R2, rv, q2⟩ := R1.out p1 q1
    split at q2
    · rename_i ds ei
      obtain ⟨p3, vs, g1, g2, g3, g4, g5⟩ := R2.sl i _ ei
      rw [h1] at g1
      cases g1
      have q2 := gd_elim q2
      refine ⟨_, vs, v, rfl, rfl, g4, by rw [g5.len]; exact line_lt q2.1, ?_⟩
      refine kk.nx σ _ Hs2 _ (e1.trans e2) (R2.change (s' := .o (ds ++ [d])) ei rfl rfl h1 g2 g3 ⟨_, _, h1, g2, g3, upd_same, g5.append (.cons rv .nil)⟩) q2.2
    · exact q2.elim
  · exact q.elim
def ysExt (i : Nat) (re : PTE) : PTS := fun Δ ε => match ε[i]? with
  | some (some (.o _)) => re ε fun t ε' => out ε' t fun d ε2 => match d, ε2[i]? with
    | .lst es, some (some (.o ds)) => gd (ds.length + es.length ≤ 16777216) (Δ.nx (ε2.set i (some (.o (ds ++ es)))))
    | _, _ => False
  | _ => False
theorem ys_ext (i : Nat) {x : Str} {px pa pc : Pos} {re : PTE} (hN : X.N[i]? = some x) (hv : Vis X.env.scope x) (he : YE X W Ξ e re) (hd : (x == ("__debug__" : Str)) = false := by decide) (hcd : (x == ("__classdict__" : Str)) = false := by decide)
    (hbase : attributeBase (.Name x px) "extend" X.env (eval (.Name x px) X.env) = eval (.Name x px) X.env := by rfl)
    (hfew : ((backTo pc (starEach (e :: []) X.env)).all (fun x => !x.1) && (backToKw pc (keywordEach [] X.env)).all (fun x => x.1.isSome)
      && decide ((e :: []).length + ([] : List Keyword).length + (if ([] : List Keyword).isEmpty then 0 else 1) < 30)) = true := by rfl)
    (hline : (pa.endLine == pc.line) = true := by rfl) (hs : starEach (e :: []) X.env = (false, eval e X.env) :: starEach [] X.env := by rfl) (hplain : (backTo pc (starEach [] X.env)).any (·.1) = false := by rfl)
    (hsw : swapsWith (.Call (.Attribute (.Name x px) "extend" pa) [e] [] pc) none pos.line X.env = pure false := by rfl) :
    YS X W Ξ (.Expr (.Call (.Attribute (.Name x px) "extend" pa) [e] [] pc) pos) (ysExt i re) := by
  obtain ⟨t, p, k⟩ := he.ex
  refine ⟨_, ps_expr (pe_bm PySem.F.plainAttrs_list PySem.F.slot_list_extend PySem.F.type_list_extend mt_extend (pe_var hN hv hd hcd) (pa_cons p pa_nil hs) hbase hfew hline hs hplain) hsw, fun F Hs σ H ε Δ Dd R L q kk => ?_⟩
  unfold ysExt at q
  split at q
  · rename_i ds0 e0
    obtain ⟨p0, vs0, h1, h2, h3, h4, h5⟩ := R.sl i _ e0
    refine ⟨_, h1, .inl ⟨rfl, _, SqL.of h4⟩, ?_⟩
    refine k F Hs σ H ε _ _ R L q fun v H1 Hs1 t1 ε1 e1 R1 p1 q1 => ?_
    obtain ⟨d, ε2, Hs2, e2, R2, rv, q2⟩ := R1.out p1 q1
    split at q2
    · rename_i es ds ei
      obtain ⟨p3, vs, g1, g2, g3, g4, g5⟩ := R2.sl i _ ei
      rw [h1] at g1
      cases g1
      have q2 := gd_elim q2
      cases rv with
      | lst hb rb =>
        refine ⟨_, _, vs, _, rfl, rfl, g4, R2.ex _ _ hb, by rw [g5.len, rb.len]; exact line_le q2.1, ?_⟩
        exact kk.nx σ _ Hs2 _ (e1.trans e2) (R2.change (s' := .o (ds ++ es)) ei rfl rfl h1 g2 g3 ⟨_, _, h1, g2, g3, upd_same, g5.append rb⟩) q2.2
    · exact q2.elim
  · exact q.elim
def unsnoc : List D → Option (List D × D)
  | [] => none
  | [d] => some ([], d)
  | d :: e :: ds => match unsnoc (e :: ds) with
    | some (es, x) => some (d :: es, x)
    | none => none
theorem unsnoc_snoc : ∀ (es : List D) (d : D), unsnoc (es ++ [d]) = some (es, d)
  | [], d => rfl
  | [e], d => rfl
  | e :: e2 :: es, d => by
    show (match unsnoc ((e2 :: es) ++ [d]) with
      | some (es, x) => some (e :: es, x)
      | none => none) = some (e :: e2 :: es, d)
    rw [unsnoc_snoc (e2 :: es) d]
theorem unsnoc_elim : ∀ {ds es : List D} {d : D}, unsnoc ds = some (es, d) → ds = es ++ [d]
  | [], _, _, h => by cases h
  | [x], _, _, h => by cases h; rfl
  | x :: y :: ds, es, d, h => by
    have h2 : (match unsnoc (y :: ds) with
      | some (es, z) => some (x :: es, z)
      | none => none) = some (es, d) := h
    split at h2
    · rename_i e
      cases h2
      rw [unsnoc_elim e] <;> rfl
    · cases h2
def yPop (i : Nat) : PTE := fun ε Q => match ε[i]? with
  | some (some (.o ds)) => opt (unsnoc ds) fun p => Q (.d p.2) (ε.set i (some (.o p.1)))
  | _ => False
theorem Reps.last {K : PySem.W.Frag} {H : Hp} {vs : List V} {es : List D} {d : D} (r : Reps K H vs (es ++ [d])) : ∃ v, vs[vs.length - 1]? = some v ∧ Rep K H v d ∧ Reps K H vs.dropLast es := by
  have hl := r.len
  rw [List.length_append] at hl
  have h1 : (es ++ [d])[vs.length - 1]? = some d := by
    have e : vs.length - 1 = es.length := by
      have : ([d] : List D).length = 1 := rfl
      omega
    rw [e]
    simp
  obtain ⟨v, h2, h3⟩ := r.get h1
  refine ⟨v, h2, h3, ?_⟩
  rw [List.dropLast_eq_take]
  have h4 := r.take (vs.length - 1)
  have e : (es ++ [d]).take (vs.length - 1) = es := by
    have e : vs.length - 1 = es.length := by
      have : ([d] : List D).length = 1 := rfl
      omega
    rw [e]
    simp
  rw [e] at h4
  exact h4
theorem ye_pop (i : Nat) {x : Str} {px pa pc : Pos} (hN : X.N[i]? = some x) (hv : Vis X.env.scope x) (hd : (x == ("__debug__" : Str)) = false := by decide) (hcd : (x == ("__classdict__" : Str)) = false := by decide)
    (hbase : attributeBase (.Name x px) "pop" X.env (eval (.Name x px) X.env) = eval (.Name x px) X.env := by rfl) (hline : (pa.endLine == pc.line) = true := by rfl) :
    YE X W Ξ (.Call (.Attribute (.Name x px) "pop" pa) [] [] pc) (yPop i) := by
  refine ⟨_, pe_bm0 PySem.F.plainAttrs_list PySem.F.slot_list_pop PySem.F.type_list_pop mt_pop (pe_var hN hv hd hcd) hbase hline, fun F Hs σ H ε Q' Q R L q k => ?_⟩
  unfold yPop at q
  split at q
  · rename_i ds e0
    obtain ⟨⟨es, d⟩, eu, q2⟩ := opt_elim q
    have eu := unsnoc_elim eu
    subst eu
    obtain ⟨p0, vs, h1, h2, h3, h4, h5⟩ := R.sl i _ e0
    obtain ⟨v, l1, l2, l3⟩ := h5.last
    refine ⟨_, h1, .inl ⟨rfl, _, SqL.of h4⟩, _, vs, v, rfl, rfl, h4, l1, ?_⟩
    exact k v _ Hs (.d d) _ (Evl.Ex.refl _) (R.change (s' := .o es) e0 rfl rfl h1 h2 h3 ⟨_, _, h1, h2, h3, upd_same, l3⟩) l2 q2
  · exact q.elim
def ysSetIx (i : Nat) (rj re : PTE) : PTS := fun Δ ε => re ε fun t ε1 => out ε1 t fun d ε2 => (match ε2[i]? with
  | some (some (.o _)) => rj ε2 fun t2 ε3 => res ε3 t2 (asI fun j => match ε3[i]? with
    | some (some (.o ds)) => opt (ixN ds.length j) fun n => Δ.nx (ε3.set i (some (.o (ds.set n d))))
    | _ => False)
  | _ => False)
theorem ys_setIx (i : Nat) {x : Str} {px ps : Pos} {j : Expr} {rj re : PTE} (hN : X.N[i]? = some x) (hv : Vis X.env.scope x) (hj : YE X W Ξ j rj) (he : YE X W Ξ e re) (hd : (x == ("__debug__" : Str)) = false := by decide) (hcd : (x == ("__classdict__" : Str)) = false := by decide)
    (ha : ∀ v, assign (.Subscript (.Name x px) j ps) X.env v = (do
      let ov ← holding [v] (eval (.Name x px) X.env)
      let iv ← holding [v, ov] (eval j X.env)
      standAt ps
      holding [v, ov, iv] (setItem ov iv v)
      release [v, ov, iv] []) := by intro _; rfl) (hs : swapsWithSole [.Subscript (.Name x px) j ps] e pos.line X.env = pure false := by rfl) (hw : swappedStores [.Subscript (.Name x px) j ps] e X.env = pure none := by rfl)
    (h1 : (assignEach [.Subscript (.Name x px) j ps] X.env).map (·.2) = [assign (.Subscript (.Name x px) j ps) X.env] := by rfl) :
    YS X W Ξ (.Assign [.Subscript (.Name x px) j ps] e pos) (ysSetIx i rj re) := by
  obtain ⟨t, p, k⟩ := he.ex
  obtain ⟨t2, p2, k2⟩ := hj.ex
  refine ⟨_, ps_asg p (pg_sub (pe_var hN hv hd hcd) p2 set_list ha) hs hw h1, fun F Hs σ H ε Δ Dd R L q kk => ?_⟩
  refine k F Hs σ H ε _ _ R L q fun v H1 Hs1 t1 ε1 e1 R1 p1 q1 => ?_
  obtain ⟨d, ε2, Hs2, e2, R2, rv, q2⟩ := R1.out p1 q1
  split at q2
  · rename_i ds0 e0
    obtain ⟨p0, vs0, g1, _⟩ := R2.sl i _ e0
    refine ⟨_, g1, ?_⟩
    refine k2 F Hs2 σ H1 ε2 _ _ R2 (L.mono (e1.trans e2)) q2 fun w H3 Hs3 t3 ε3 e3 R3 p3 q3 => ?_
    obtain ⟨dj, rj, q4⟩ := R3.res p3 q3
    cases dj with
    | int jj =>
      have q4 : (match ε3[i]? with
        | some (some (.o ds)) => opt (ixN ds.length jj) fun n => Δ.nx (ε3.set i (some (.o (ds.set n d))))
        | _ => False) := q4
      split at q4
      · rename_i ds ei
        obtain ⟨n, hn, q5⟩ := opt_elim q4
        obtain ⟨p3, vs, f1, f2, f3, f4, f5⟩ := R3.sl i _ ei
        rw [g1] at f1
        cases f1
        refine ⟨_, vs, jj, n, rfl, rj.int', f4, by rw [f5.len]; exact hn, ?_⟩
        exact kk.nx σ _ Hs3 _ ((e1.trans e2).trans e3) (R3.change (s' := .o (ds.set n d)) ei rfl rfl g1 f2 f3 ⟨_, _, g1, f2, f3, upd_same, f5.set (rv.mono e3) n⟩) q5
      · exact q4.elim
    | _ => exact False.elim q4
  · exact q2.elim

/-! ### raise -/
def ysRaise (c : Nat) (Ξ : Xi) : PTS := fun _ ε => Ξ c ε
theorem pmk_own0 {C : Addr} {bmB : List Value} {B newId initId : String} {x : Str} {p : Pos} (F : ExcBaseFacts B newId initId bmB) (q : PySem.W.excIn X.K C bmB newId = true) (gC : X.mg x = some (.ref C))
    (kC : PySem.W.keepIn X.K (.ref C) = true) (r : Raises X (.ref C)) (hg : Gl X x) (hdb : (x == ("__debug__" : Str)) = false := by decide) : PMk X (.Call (.Name x p) [] [] pos) (fun _ H Q => Q (.ref C) none H) := by
  intro pins s σ H Q I h
  refine wpAny_Call_Name_kw (ld_glob I hg gC ?_ hdb)
  refine PySem.W.callWith_K0 I.kIn kC ?_
  obtain ⟨bm, N, nm, qn, bs, hdct, sn, sub, ab, col, dd, k0, k1, k2, k3, k5, mN, hC, hN, hni, T⟩ := exc_obj I.kIn q
  refine wpAny_call_exc_subT F T hC hN hni (fun h' e hm => ?_) (by decide)
  exact mk_of I hm r h (I.hok.gone hm.new)
theorem ys_raise (c : Nat) {bmB : List Value} {B newId initId : String} {p p2 : Pos} (hc : X.calm = true) (tk : Takes X W) (F : ExcBaseFacts B newId initId bmB) (q : PySem.W.excIn X.K (exA X.K c) bmB newId = true) (gC : X.mg (exS c) = some (.ref (exA X.K c)))
    (kC : PySem.W.keepIn X.K (.ref (exA X.K c)) = true) (r : Raises X (.ref (exA X.K c))) {x : Str} (hx : exS c = x := by rfl) (hg : Gl X x) (hdb : (x == ("__debug__" : Str)) = false := by decide) : YS X W Ξ (.Raise (some (.Call (.Name x p) [] [] p2)) none pos) (ysRaise c Ξ) := by
  subst hx
  exact
  ⟨_, ps_raise hc tk (pmk_own0 F q gC kC r hg hdb), fun F Hs σ H ε Δ Dd R L q k => L c σ H Hs ε q (Evl.Ex.refl _) R⟩
end

/-! ### a def -/
def startE (N : List Str) (ds : List D) : PEnv := ds.map (fun d => some (.v d)) ++ List.replicate (N.length - ds.length) none
def foreign (Hs H : Hp) : Hp := fun p => match Hs p with
  | none => H p
  | some _ => none
theorem foreign_some {Hs H : Hp} {p : Addr} {o : HO} (h : foreign Hs H p = some o) : H p = some o ∧ Hs p = none := by
  unfold foreign at h
  cases e : Hs p with
  | none => rw [e] at h; exact ⟨h, rfl⟩
  | some u => rw [e] at h; cases h
theorem foreign_of {Hs H : Hp} {p : Addr} {o : HO} (h : H p = some o) (hn : Hs p = none) : foreign Hs H p = some o := by
  unfold foreign
  rw [hn]
  exact h
theorem RelS.keeps {K : PySem.W.Frag} {Hs H Hs' H' : Hp} {σ' : St} {ε' : PEnv} (R : RelS K (foreign Hs H) Hs' σ' H' ε') (e : Ex Hs Hs') : Keeps Hs H Hs' H' := ⟨e, R.ex, fun p o h hn => R.fr p o (foreign_of h hn)⟩
theorem start_get {N : List Str} {ds : List D} {i : Nat} {s : S} (h : (startE N ds)[i]? = some (some s)) : ∃ d, ds[i]? = some d ∧ s = .v d := by
  unfold startE at h
  by_cases hi : i < ds.length
  · rw [List.getElem?_append_left (by rw [List.length_map]; exact hi), List.getElem?_map] at h
    cases e : ds[i]? with
    | none => rw [e] at h; cases h
    | some d =>
      rw [e] at h
      refine ⟨d, rfl, ?_⟩
      exact (Option.some.inj (Option.some.inj h)).symm
  · rw [List.getElem?_append_right (by rw [List.length_map]; omega), List.getElem?_replicate] at h
    split at h <;> cases h
theorem start_at {N : List Str} {vs : List V} {i : Nat} {v : V} (h : vs[i]? = some v) : (L2.start N vs)[i]? = some (some v) := by
  unfold L2.start
  have hi : i < vs.length := (List.getElem?_eq_some_iff.mp h).1
  rw [List.getElem?_append_left (by rw [List.length_map]; exact hi), List.getElem?_map, h] <;> rfl
theorem rel_start {K : PySem.W.Frag} {Hs H : Hp} {N : List Str} {vs : List V} {ds : List D} (e : Ex Hs H) (r : Reps K Hs vs ds) : RelS K (foreign Hs H) Hs (L2.start N vs) H (startE N ds) := by
  refine ⟨e, fun p o h => foreign_some h, ?_, fun i s h => ?_, fun i j s t hn h1 h2 h3 h4 => ?_⟩
  · unfold L2.start startE
    rw [List.length_append, List.length_append, List.length_map, List.length_map, List.length_replicate, List.length_replicate, r.len]
  · obtain ⟨d, hd, rfl⟩ := start_get h
    obtain ⟨v, hv, rv⟩ := r.get hd
    exact ⟨v, start_at hv, rv⟩
  · obtain ⟨d, hd, rfl⟩ := start_get h1
    cases h3
section
variable {P : Program} {w : World} {K : PySem.W.Frag} {mg : Str → Option Value} {base : Heap} {x qual : Str} {params : Arguments} {body : List Stmt} {scope : Scope} {dvs : List V} {kws : List (Str × V)} {f : Addr} {fd : FuncData} {N ps : List Str} {k : Nat} {φ : Spec}
abbrev cxY (P : Program) (w : World) (K : PySem.W.Frag) (mg : Str → Option Value) (base : Heap) (N : List Str) (qual : Str) (scope : Scope) (f : Addr) (cdv : Value) (A : Around) (outer : List Env) (s : Shared) (H : Hp) (E : XK) : Cx := cxOf (L2.CX P w) P w K mg base N qual scope f cdv A outer s H E
abbrev wY (E : XK) : WX := fun cls d _ H => E cls d H
theorem fun_ok (F : FunD K x qual params body scope dvs kws f fd) (S : FnScope N ps scope) (len : ∀ ds Q E, φ ds Q E → ds.length = ps.length) (r : Xi → PTS)
    (hbody : ∀ (cdv : Value) (A : Around) (outer : List Env) (s : Shared) (H : Hp) (E : XK) (Ξ : Xi), Room k (A.deeper (envOfC qual scope s.heap.objs.size f cdv)) → YSs (cxY P w K mg base N qual scope f cdv A outer s H E) (wY E) Ξ body (r Ξ))
    (vc : ∀ (ds : List D) (Q' : D → Prop) (E' : Nat → Prop), φ ds Q' E' → r (fun c _ => E' c) { nx := fun _ => Q' .non, rt := fun d _ => Q' d } (startE N ds)) : FnOk P w K mg base (L2.CX P w) (k + 1) f fd ps (pSp K φ) := by
  refine F.ok S (fun vs H Q E h => ?_) (fun cdv A outer s H vs Q E hr h => ?_)
  · obtain ⟨Hs, ds, Q', E', _, rs, h, _⟩ := h
    rw [rs.len]
    exact len ds Q' E' h
  · obtain ⟨Hs, ds, Q', E', ex, rs, h, hq, he⟩ := h
    obtain ⟨t, p, kk⟩ := (hbody cdv A outer s H E (fun c _ => E' c) hr).ex
    refine ⟨t, p, kk (foreign Hs H) Hs _ H _ _ _ (rel_start ex rs) (fun c σ' H' Hs' ε' hc e' R' => he c hc H' Hs' (R'.keeps e')) (vc ds Q' E' h) ⟨fun σ' H' Hs' ε' e' R' q' => ?_, fun v σ' H' Hs' d ε' e' R' rv q' => ?_, fun _ _ _ _ _ _ q => q.elim, fun _ _ _ _ _ _ q => q.elim⟩⟩
    · exact hq .non q' .non H' Hs' (R'.keeps e') .non
    · exact hq d q' v H' Hs' (R'.keeps e') rv
end
end PL

set_option Elab.async false
set_option linter.all false
set_option autoImplicit false
set_option maxRecDepth 100000
set_option maxHeartbeats 2000000
/-! try, a pair stored, the pool opened in a def, the law's end. -/
namespace PL
open PySem PySem.Spec PyProof.Rows L2
open Evl (Ex)

/-! ### try: .. except PageError as e: .. -/
/-- is class c one that an except clause of class t takes (0: the base of all) -/
def exSub (c t : Nat) : Bool := c == t || t == 0
/-- what the written part says of the classes in cs -/
structure ExK (K : PySem.W.Frag) (cs : List Nat) : Prop where
  exm : ∀ c ∈ cs, PySem.W.exmOne K (.ref (exA K c)) (.ref (exA K 0)) = some true
  kit : ∀ c ∈ cs, ∀ t ∈ cs, PySem.W.kitOne K (.ref (exA K c)) (.ref (exA K t)) = some (exSub c t)
  exc : ∀ c ∈ cs, ExcC K (exA K c)
section
variable {X : Cx} {W : WX} {Ξ : Xi}
/-- the suite sees the error's class as a datum -/
def excD (a : Addr) : D := .vl (.ref a)
def ysTry (cs : List Nat) (i : Nat) (rb : Xi → PTS) (rs : Addr → Nat → PTS) : PTS := fun Δ ε =>
  rb (fun c ε' => c ∈ cs ∧ ∀ a : Addr, rs a c { nx := fun ε2 => Δ.nx (ε2.set i none), rt := fun d ε2 => Δ.rt d (ε2.set i none), bk := fun ε2 => Δ.bk (ε2.set i none), ct := fun ε2 => Δ.ct (ε2.set i none) } (ε'.set i (some (.v (excD a))))) Δ ε
theorem RelS.drop {K : PySem.W.Frag} {F Hs H : Hp} {σ : St} {ε : PEnv} (R : RelS K F Hs σ H ε) (i : Nat) : RelS K F Hs (σ.set i none) H (ε.set i none) := by
  refine ⟨R.ex, R.fr, by rw [List.length_set, List.length_set]; exact R.len, fun j t q => ?_, fun j k t u hn h1 h2 h3 h4 => ?_⟩
  · have hj : i ≠ j := by
      rintro rfl
      by_cases hi : i < ε.length
      · rw [List.getElem?_set_self hi] at q; cases q
      · rw [List.getElem?_eq_none (by rw [List.length_set]; omega)] at q; cases q
    rw [List.getElem?_set_ne hj] at q
    exact (R.sl j t q).at (List.getElem?_set_ne hj)
  · have ne : ∀ (j : Nat) (t : S), (ε.set i none)[j]? = some (some t) → i ≠ j := by
      rintro j t q rfl
      by_cases hi : i < ε.length
      · rw [List.getElem?_set_self hi] at q; cases q
      · rw [List.getElem?_eq_none (by rw [List.length_set]; omega)] at q; cases q
    have nj := ne j t h1
    have nk := ne k u h2
    rw [List.getElem?_set_ne nj] at h1 ⊢
    rw [List.getElem?_set_ne nk] at h2 ⊢
    exact R.ds j k t u hn h1 h2 h3 h4
theorem ys_try {cs : List Nat} (i : Nat) {n x : Str} {body suite : List Stmt} {b₀ : Stmt} {np pos pos' : Pos} {rb : Xi → PTS} {rs : Addr → Nat → PTS} (xk : ExK X.K cs) (hs : X.stack = X.env :: X.outer) (hf : X.env.frame = some X.env.locals) (hN : X.N.Nodup) (hi : X.N[i]? = some n)
    (hln : X.env.kindOf n = some .local) (hx : exS 0 = x) (hc : Names X x (.ref (exA X.K 0))) (tk : Takes X W)
    (hb : ∀ (W : WX) (Ξ : Xi) (pn : List (Addr × Obj)) (xe : Value → Shared → Prop), Takes (X.tr pn xe) W → PassesOwn (model X.prog X.w) X.A X.env xe → YSs (X.tr pn xe) W Ξ body (rb Ξ))
    (hsu : ∀ (c : Nat) (a : Addr) (oe : Obj) (pn : List (Addr × Obj)), c ∈ cs → ExcC X.K (exA X.K c) → Zc (.ref (exA X.K c)) none oe → (∃ vs, oe.data = .fields vs) → YSs (X.suite a ((a, oe) :: pn)) W0 Ξ0 (b₀ :: suite) (rs a c)) :
    YS X W Ξ (.Try body [.ExceptHandler (some (.Name x np)) (some n) (b₀ :: suite) pos'] [] [] pos) (ysTry cs i rb rs) := by
  subst hx
  let ts : Addr → Value → Option Addr → TS := fun a cls d Dd σ H => ∃ c, c ∈ cs ∧ cls = .ref (exA X.K c) ∧ d = none ∧ cSs X.K W0 Ξ0 (rs a c) Dd σ H
  have hsu' : ∀ (a : Addr) (oe : Obj) (cls : Value) (d : Option Addr) (pn : List (Addr × Obj)), Zc cls d oe → (∃ vs, oe.data = .fields vs) → PSs (X.suite a ((a, oe) :: pn)) (b₀ :: suite) (ts a cls d) := by
    intro a oe cls d pn hz hfv
    refine ⟨fun pins s σ H Dd I ⟨c, hc1, e1, e2, q⟩ => ?_⟩
    subst e1 e2
    exact (hsu c a oe pn hc1 (xk.exc c hc1) hz hfv).canon.run pins s σ H Dd I q
  -- the body, for any wish
  let tb : WX → TS := fun Wb Dd σ H => ∃ (Ξb : Xi), cSs X.K Wb Ξb (rb Ξb) Dd σ H
  have hb' : ∀ (W : WX) (pn : List (Addr × Obj)) (xe : Value → Shared → Prop), Takes (X.tr pn xe) W → PassesOwn (model X.prog X.w) X.A X.env xe → PSs (X.tr pn xe) body (tb W) := by
    intro W pn xe tk po
    exact ⟨fun pins s σ H Dd I ⟨Ξb, q⟩ => (hb W Ξb pn xe tk po).canon.run pins s σ H Dd I q⟩
  refine ⟨_, ps_try_as (ts := ts) (tb := tb) hs hf hN hi hln hc tk hb' hsu', fun F Hs σ H ε Δ Dd R L q kk => ?_⟩
  refine ⟨_, F, Hs, ε, Δ, R, ?_, q, kk⟩
  intro c σ' H' Hs' ε' hq e' R'
  obtain ⟨hc1, hq⟩ := hq
  refine ⟨true, xk.exm c hc1, fun _ a na => ?_, fun h => Bool.noConfusion h⟩
  have R2 : RelS X.K F Hs' (σ'.set i (some (.ref a))) H' (ε'.set i (some (.v (excD a)))) := R'.store (.vl (.ref a)) i
  refine ⟨c, hc1, rfl, rfl, F, Hs', _, _, R2, Lk.none, hq a, ⟨fun σ3 H3 Hs3 ε3 e3 R3 q3 => ?_, fun v σ3 H3 Hs3 d ε3 e3 R3 rv q3 => ?_, fun σ3 H3 Hs3 ε3 e3 R3 q3 => ?_, fun σ3 H3 Hs3 ε3 e3 R3 q3 => ?_⟩⟩
  · exact kk.nx _ H3 Hs3 _ (e'.trans e3) (R3.drop i) q3
  · exact kk.rt v _ H3 Hs3 d _ (e'.trans e3) (R3.drop i) rv q3
  · exact kk.bk _ H3 Hs3 _ (e'.trans e3) (R3.drop i) q3
  · exact kk.ct _ H3 Hs3 _ (e'.trans e3) (R3.drop i) q3
/-- isinstance(e, C), e what the suite holds -/
def yIsE (i : Nat) (a : Addr) (c t : Nat) : PTE := fun ε Q => ε[i]? = some (some (.v (excD a))) ∧ Q (.d (.bl (exSub c t))) ε
theorem ye_isE {a : Addr} {oe : Obj} {pn : List (Addr × Obj)} {cs : List Nat} (c t i : Nat) {n x : Str} {p p1 p2 pos : Pos} (xk : ExK X.K cs) (hc1 : c ∈ cs) (ht1 : t ∈ cs) (hz : Zc (.ref (exA X.K c)) none oe) (hf : ∃ vs, oe.data = .fields vs) (hg : Gl X "isinstance") (hm : X.mg "isinstance" = none)
    (hN : X.N[i]? = some n) (hv : Vis X.env.scope n) (hx : exS t = x) (hgx : Gl X x) (hmx : X.mg x = some (.ref (exA X.K t))) (hd : (n == ("__debug__" : Str)) = false := by decide) (hcd : (n == ("__classdict__" : Str)) = false := by decide) (hdx : (x == ("__debug__" : Str)) = false := by decide)
    (hst : starEach [.Name n p1, .Name x p2] X.env = (false, eval (.Name n p1) X.env) :: starEach [.Name x p2] X.env := by rfl) (hs2 : starEach [.Name x p2] X.env = (false, eval (.Name x p2) X.env) :: starEach [] X.env := by rfl) (hpl : (backTo pos (starEach [.Name x p2] X.env)).any (·.1) = false := by rfl) :
    YE (X.suite a ((a, oe) :: pn)) W Ξ (.Call (.Name "isinstance" p) [.Name n p1, .Name x p2] [] pos) (yIsE i a c t) := by
  subst hx
  have C := xk.exc c hc1
  refine ⟨_, pe_callB (X := X.suite a ((a, oe) :: pn)) (call_isE (X := X) C hz hf) hg hm PyProof.Rows.boot_isinstance (pa_cons (X := X.suite a ((a, oe) :: pn)) (pe_var (X := X.suite a ((a, oe) :: pn)) hN hv hd hcd) (pa_cons (X := X.suite a ((a, oe) :: pn)) (pe_glob (X := X.suite a ((a, oe) :: pn)) (v := .ref (exA X.K t)) hgx hmx rfl hdx) pa_nil hs2) hst) (by decide) (by decide) hst hpl, fun F Hs σ H ε Q' Q R L q k => ?_⟩
  obtain ⟨e0, q⟩ := q
  obtain ⟨v, h1, h2⟩ := R.sl i _ e0
  cases h2
  refine ⟨_, h1, ?_⟩
  exact ⟨.ref (exA X.K t), .ref (exA X.K t), exSub c t, rfl, fun u r => r, xk.kit c hc1 t ht1, k (.bl _) H Hs (.d (.bl _)) ε (Evl.Ex.refl _) R (.bl _) q⟩
end
end PL

set_option Elab.async false
set_option linter.all false
set_option autoImplicit false
set_option maxRecDepth 100000
set_option maxHeartbeats 2000000
/-! The stream of numbers, made, drawn from; a pair stored; the law's end. -/
namespace PL
open PySem PySem.Spec PyProof.Rows L2
open Evl (Ex)

/-! ### one tracked object told otherwise -/
section
variable {P : Program} {w : World} {H : Hp} {h h' : Heap} {p : Addr} {o o' : HO}
theorem retell_ok (ok : HOk P w H h) (hp : H p = some o) (n1 : ∀ a, o ≠ .own a) (n2 : ∀ xs, o ≠ .tup xs) (new : ObjOk P w (upd H p o') h p o') : HOk P w (upd H p o') h := fun b u e => by
  by_cases hb : b = p
  · subst hb
    rw [upd_same] at e
    cases e
    exact new
  · rw [upd_ne hb] at e
    have ne1 : ∀ c a, H c = some (.own a) → c ≠ p := fun c a q z => by
      subst z
      rw [hp] at q
      exact n1 a (Option.some.inj q)
    have ne2 : ∀ c xs, H c = some (.tup xs) → c ≠ p := fun c xs q z => by
      subst z
      rw [hp] at q
      exact n2 xs (Option.some.inj q)
    exact (ok b u e).stay (fun c v _ q => q) (fun c q => by rw [upd_ne (ne1 c b q)]; exact q) fun c xs q => by rw [upd_ne (ne2 c xs q)]; exact q
end
theorem pool_obj {P : Program} {w : World} {H : Hp} {h : Heap} {p : Addr} {ns : List Int} (x : ObjOk P w H h p (.lst (ns.map V.int))) (ok : PoolOk ns) (H' : Hp) : ObjOk P w H' h p (.ext (PoolAt p)) := by
  obtain ⟨z, its, n, r, e⟩ := x
  refine ⟨⟨its, n, ns, e, r, ok⟩, ⟨_, e⟩, fun h1 h2 ⟨its, n, ns, e, r, ok⟩ k => ⟨its, n, ns, k _ e, r, ok⟩⟩
theorem obj_pool {P : Program} {w : World} {H : Hp} {h : Heap} {p : Addr} (x : ObjOk P w H h p (.ext (PoolAt p))) (H' : Hp) : ∃ ns, PoolOk ns ∧ ObjOk P w H' h p (.lst (ns.map V.int)) := by
  obtain ⟨⟨its, n, ns, e, r, ok⟩, _⟩ := x
  refine ⟨ns, ok, ?_, its, n, r, e⟩
  rw [List.length_map, sizeLine_eq]
  exact Nat.le_trans ok.2.1 (by decide)
/-! ### drawing -/
/-- a draw, with the list in sight -/
def spPick : Sp := fun vs H Q _ => ∃ (p : Addr) (n : Int) (ns : List Int), vs = [.ref p, .int n] ∧ H p = some (.lst (ns.map V.int)) ∧ PoolOk ns ∧ 0 < n ∧
  ∀ (r : Int) (ns' : List Int), 0 ≤ r → r < n → PoolOk ns' → Q (.int r) (upd H p (.lst (ns'.map V.int)))
def φPick : Spec
  | [.pool, .int n], Q, _ => gd (0 < n) (∀ r : Int, 0 ≤ r → r < n → Q (.int r))
  | _, _, _ => False
theorem φPick_inv {ds : List D} {Q : D → Prop} {E : Nat → Prop} (h : φPick ds Q E) : ∃ n, ds = [.pool, .int n] ∧ 0 < n ∧ ∀ r : Int, 0 ≤ r → r < n → Q (.int r) := by
  unfold φPick at h
  split at h
  · exact ⟨_, rfl, gd_elim h⟩
  · exact h.elim
theorem cx_never {P : Program} {w : World} {outer : List Env} {H : Hp} {s s' : Shared} {u : Value} (h : L2.CX P w outer H s (fun _ _ _ => False) u s') : False := by
  obtain ⟨_, _, _, _, _, _, _, _, _, _, _, _, z⟩ := h
  exact z
section
variable {P : Program} {w : World} {K : PySem.W.Frag} {mg : Str → Option Value} {base : Heap} {k : Nat} {f : Addr} {fd : FuncData} {ps : List Str}
theorem env0_retell {A : Around} {outer : List Env} {s : Shared} {H : Hp} {p : Addr} {o o' : HO} (e : Env0 P w K mg base A outer s H) (hp : H p = some o) (n1 : ∀ a, o ≠ .own a) (n2 : ∀ xs, o ≠ .tup xs) (new : ObjOk P w (upd H p o') s.heap p o') : Env0 P w K mg base A outer s (upd H p o') :=
  
  have h1 : ∀ b, H b = none → upd H p o' b = none := fun b q => by
    have ne : b ≠ p := fun z => by
      subst z
      rw [q] at hp
      cases hp
    rw [upd_ne ne]
    exact q
  ⟨e.frames, e.mod, fun b u q => ⟨(e.bs b u q).1, h1 b (e.bs b u q).2⟩, e.bsz, e.funs, fun b hb => h1 b (e.frf b hb), retell_ok e.hok hp n1 n2 new, e.bare⟩
theorem pick_close (F : FnOk P w K mg base (L2.CX P w) k f fd ps spPick) : FnOk P w K mg base (L2.CX P w) k f fd ps (pSp K φPick) := by
  refine ⟨fun vs H Q E h => ?_, fun A outer s H args us vs Q E hr e0 hb hv h => ?_⟩
  · obtain ⟨Hs, ds, Q', E', ex, rs, h, _⟩ := h
    obtain ⟨n, rfl, h0n, hn⟩ := φPick_inv h
    · cases rs with
      | cons r1 r2 =>
        cases r2 with
        | cons r2 r3 =>
          cases r3
          cases r1
          cases r2
          exact F.len [.ref _, .int _] (upd H _ (.lst ([1, 1].map V.int))) (fun _ _ => True) (fun _ _ _ => False) ⟨_, _, [1, 1], rfl, upd_same, ⟨by decide, by decide, 1, rfl, by decide, by decide⟩, h0n, fun _ _ _ _ _ => trivial⟩
  · obtain ⟨Hs, ds, Q', E', ex, rs, h, hq, _⟩ := h
    obtain ⟨n, rfl, h0n, hn⟩ := φPick_inv h
    · cases rs with
      | cons r1 r2 =>
        cases r2 with
        | cons r2 r3 =>
          cases r3
          cases r1 with
          | pool hsp =>
            rename_i p
            cases r2
            have hp : H p = some (.ext (PoolAt p)) := ex _ _ hsp
            obtain ⟨ns, ok, ob⟩ := obj_pool (e0.hok p _ hp) (upd H p (.lst ([] : List V)))
            obtain ⟨ns, ok, ob⟩ := obj_pool (e0.hok p _ hp) (upd H p (.lst (ns.map V.int)))
            have ob2 : ObjOk P w (upd H p (.lst (ns.map V.int))) s.heap p (.lst (ns.map V.int)) := ob
            have e1 := env0_retell (o' := .lst (ns.map V.int)) e0 hp (fun a z => by cases z) (fun a z => by cases z) ob2
            refine codeAny_mono (F.run A outer s (upd H p (.lst (ns.map V.int))) args us [.ref p, .int n] (fun v H' => ∃ (r : Int) (ns' : List Int), v = .int r ∧ 0 ≤ r ∧ r < n ∧ PoolOk ns' ∧ H' = upd H p (.lst (ns'.map V.int))) (fun _ _ _ => False) hr e1 hb hv
              ⟨p, n, ns, rfl, upd_same, ok, h0n, fun r ns' h0 h1 ok' => ⟨r, ns', rfl, h0, h1, ok', upd_upd⟩⟩) fun rr s' hrr => ?_
            cases rr with
            | error e => exact (cx_never hrr).elim
            | ok fl =>
              cases fl with
              | ret u =>
                obtain ⟨v, H', os, bare, un, hok, rv, r, ns', rfl, h0, h1, ok', rfl⟩ := hrr
                have hpe : upd H p (.ext (PoolAt p)) = H := by
                  funext b
                  by_cases hb : b = p
                  · subst hb; rw [upd_same, hp]
                  · rw [upd_ne hb]
                have hok2 : HOk P w H s'.heap := by
                  have z := retell_ok (o' := .ext (PoolAt p)) hok (p := p) upd_same (fun a z => by cases z) (fun a z => by cases z) (pool_obj (hok p _ upd_same) ok' _)
                  rw [upd_upd, hpe] at z
                  exact z
                refine ⟨.int r, H, os, bare, ⟨fun b ob q n hf hx => un.keep b ob q ?_ hf hx, fun b ob q n hf hx => un.slot b ob q ?_ hf hx, fun b ob q n hx => n, un.there, fun b xs q => q, fun b ob u q => q, fun b ps q => ⟨#[], by rw [q]; simp⟩⟩, hok2, rv, ?_⟩
                · rw [upd_ne]
                  · exact n
                  · intro z; subst z; rw [hp] at n; cases n
                · rw [upd_ne]
                  · exact n
                  · intro z; subst z; rw [hp] at n; cases n
                · exact hq (.int r) (hn r h0 h1) (.int r) H Hs ⟨Evl.Ex.refl _, ex, fun b o q1 q2 => ⟨q1, q2⟩⟩ (.int r)
              | next => exact False.elim hrr
              | brk => exact False.elim hrr
              | cont => exact False.elim hrr
/-- the stream is made: a new list becomes the stream -/
def φList : Spec
  | [.frl ds], Q, _ => ∃ xs : List Int, ds = xs.map D.int ∧ xs.length ≤ 63 ∧ ∀ ns : List Int, PoolOk ns → Q (.lst (ns.map D.int))
  | _, _, _ => False
def φStream : Spec
  | [.frl ds], Q, _ => (∃ xs : List Int, ds = xs.map D.int ∧ xs.length ≤ 63) ∧ Q .pool
  | _, _, _ => False
/-- what is locked in H alone -/
def locked (H : Hp) : Hp := fun b => match H b with
  | some (.frz o u) => some (.frz o u)
  | _ => none
theorem locked_ex {H : Hp} : Ex (locked H) H := fun b o e => by
  unfold locked at e
  split at e
  · rename_i o' u h
    rw [h]
    exact e
  · cases e
theorem stream_close (F : FnOk P w K mg base (L2.CX P w) k f fd ps (pSp K φList)) : FnOk P w K mg base (L2.CX P w) k f fd ps (pSp K φStream) := by
  have conv : ∀ {vs H Q E}, pSp K φStream vs H Q E → pSp K φList vs H (fun v H' => ∃ (p : Addr) (ns : List Int) (Hs' : Hp), v = .ref p ∧ PoolOk ns ∧ Keeps (locked H) H Hs' H' ∧ Hs' p = some (.lst (ns.map V.int))) (fun _ _ _ => False) := by
    intro vs H Q E h
    obtain ⟨Hs, ds, Q', E', ex, rs, h, hq, he⟩ := h
    unfold φStream at h
    split at h
    · obtain ⟨⟨xs, rfl, hx⟩, h⟩ := h
      cases rs with
      | cons r1 r2 =>
        cases r2
        cases r1 with
        | frl hs rr =>
          rename_i a ws
          have er := rr.inv_ints
          subst er
          have hs2 : FrL K (locked H) a (xs.map V.int) := by
            rcases hs with ⟨o, hs⟩ | hs
            · refine .inl ⟨o, ?_⟩
              unfold locked
              rw [ex _ _ hs]
            · exact .inr hs
          refine ⟨locked H, _, fun d => ∃ ns, PoolOk ns ∧ d = .lst (ns.map D.int), fun _ => False, locked_ex, .cons (.frl hs2 (Reps.ints xs)) .nil, ⟨xs, rfl, hx, fun ns ok => ⟨ns, ok, rfl⟩⟩, fun d ⟨ns, ok, e⟩ v H' Hs' kp rv => ?_, fun _ z => z.elim⟩
          subst e
          cases rv with
          | lst hp rr2 =>
            have e2 := rr2.inv_ints
            subst e2
            exact ⟨_, ns, Hs', rfl, ok, kp, hp⟩
    · exact h.elim
  refine ⟨fun vs H Q E h => F.len _ _ _ _ (conv h), fun A outer s H args us vs Q E hr e0 hb hv h => ?_⟩
  refine codeAny_mono (F.run A outer s H args us vs _ (fun _ _ _ => False) hr e0 hb hv (conv h)) fun rr s' hrr => ?_
  obtain ⟨Hs, ds, Q', E', ex, rs, h, hq, he⟩ := h
  unfold φStream at h
  split at h
  · obtain ⟨_, h⟩ := h
    cases rr with
    | error e => exact (cx_never hrr).elim
    | ok fl =>
      cases fl with
      | ret u =>
        obtain ⟨v, H', os, bare, un, hok, rv, p, ns, Hs', rfl, ok, kp, hp⟩ := hrr
        have hp' : H' p = some (.lst (ns.map V.int)) := kp.2.1 _ _ hp
        have lp : locked H p = none := by
          cases e : locked H p with
          | none => rfl
          | some o =>
            have e2 := kp.1 _ _ e
            rw [hp] at e2
            unfold locked at e
            split at e
            · cases e
              cases e2
            · cases e
        have hH : H p = none := by
          cases e : H p with
          | none => rfl
          | some o =>
            have e2 := (kp.2.2 p o e lp).2
            rw [hp] at e2
            cases e2
        have hh : s.heap.get? p = none := by
          cases e : s.heap.get? p with
          | none => rfl
          | some o =>
            have e2 := un.free p o e hH (by simp)
            rw [hp'] at e2
            cases e2
        have old : ∀ b o, H b = some o → H' b = some o := fun b o q => by
          cases e : locked H b with
          | none => exact (kp.2.2 b o q e).1
          | some o' =>
            have q2 := locked_ex b o' e
            rw [q] at q2
            cases q2
            exact kp.2.1 _ _ (kp.1 _ _ e)
        have nep : ∀ b, H b ≠ none → b ≠ p := fun b q z => by
          subst z
          exact q hH
        have hok2 : HOk P w (upd H' p (.ext (PoolAt p))) s'.heap := retell_ok hok hp' (fun a z => by cases z) (fun a z => by cases z) (pool_obj (hok p _ hp') ok _)
        refine ⟨.ref p, upd H' p (.ext (PoolAt p)), os, bare, ⟨un.keep, un.slot, fun b ob q n hx => ?_, un.there, fun b xs q => ?_, fun b ob u q => ?_, fun b ps q => ?_⟩, hok2, rv, ?_⟩
        · have ne : b ≠ p := by
            intro z
            subst z
            rw [hh] at q
            cases q
          rw [upd_ne ne]
          exact un.free b ob q n hx
        · rw [upd_ne (nep b (by rw [q]; simp))]
          exact un.tups b xs q
        · rw [upd_ne (nep b (by rw [q]; simp))]
          exact un.frzs b ob u q
        · rw [upd_ne (nep b (by rw [q]; simp))]
          exact un.tbls b ps q
        · have hsp : Hs p = none := Evl.fresh_back ex hH
          refine hq .pool h (.ref p) _ (upd Hs p (.ext (PoolAt p))) ⟨ex_upd hsp, fun b o q => ?_, fun b o q1 q2 => ?_⟩ (.pool upd_same)
          · by_cases hb : b = p
            · subst hb
              rw [upd_same] at q ⊢
              exact q
            · rw [upd_ne hb] at q ⊢
              exact old b o (ex b o q)
          · have ne := nep b (by rw [q1]; simp)
            rw [upd_ne ne, upd_ne ne]
            exact ⟨old b o q1, q2⟩
      | next => exact False.elim hrr
      | brk => exact False.elim hrr
      | cont => exact False.elim hrr
  · exact h.elim
/-- the law's promise, as the head asks it -/
def φLaw : Spec
  | [.frl ds], Q, _ => ∃ xs : List Int, ds = xs.map D.int ∧ xs.length ≤ 63 ∧ Q (.bl true)
  | _, _, _ => False
theorem law_sp {H : Hp} {a : Addr} {ns : List Int} (hl : ns.length ≤ 63) (ho : L2.Only H) (hs : SqL K H a (ns.map V.int)) : pSp K φLaw [.ref a] H (fun v _ => v = .bl true) (fun _ _ _ => False) := by
  have hs2 : FrL K H a (ns.map V.int) := by
    rcases hs with (hs | ⟨o, hs⟩) | hs
    · rcases ho a with h | ⟨o, xs, h⟩
      · rw [hs] at h; cases h
      · rw [hs] at h; cases h
    · exact .inl ⟨o, hs⟩
    · exact .inr hs
  refine ⟨H, [.frl (ns.map D.int)], fun d => d = .bl true, fun _ => False, Evl.Ex.refl _, .cons (.frl hs2 (Reps.ints ns)) .nil, ⟨ns, rfl, hl, rfl⟩, fun d e v H' Hs' kp rv => ?_, fun _ z => z.elim⟩
  subst e
  cases rv
  rfl
end
end PL

set_option Elab.async false
set_option linter.all false
set_option autoImplicit false
set_option maxRecDepth 100000
set_option maxHeartbeats 2000000
/-! a, b = x, y -/
namespace PL
open PySem PySem.Spec PyProof.Rows L2
open Evl (Ex)
/-- what a name is to hold, on the way: a datum, or a new list that is nobody's yet -/
def Pend (K : PySem.W.Frag) (F Hs : Hp) (σ : St) (H : Hp) (ε : PEnv) (v : V) : S → Prop
  | .v d => Rep K Hs v d
  | .o ds => ∃ p vs, v = .ref p ∧ H p = some (.lst vs) ∧ Hs p = none ∧ F p = none ∧ Nobody σ ε p ∧ Reps K Hs vs ds
  | .od _ => False
abbrev PTX := PEnv → (S → PEnv → Prop) → Prop
structure YX (X : Cx) (W : WX) (Ξ : Xi) (e : Expr) (r : PTX) : Prop where
  ex : ∃ t, PE X e t ∧ ∀ (F Hs : Hp) (σ : St) (H : Hp) (ε : PEnv) (Q' : S → PEnv → Prop) (Q : VK), RelS X.K F Hs σ H ε → Lk X.K F Hs W Ξ → r ε Q' →
    (∀ (v : V) (H' Hs' : Hp) (s : S) (ε' : PEnv), Ex Hs Hs' → RelS X.K F Hs' σ H' ε' → Pend X.K F Hs' σ H' ε' v s → Q' s ε' → Q v H') → t σ H Q
section
variable {X : Cx} {W : WX} {Ξ : Xi} {e : Expr} {pos : Pos}
def yxE (r : PTE) : PTX := fun ε Q => r ε fun t ε1 => out ε1 t fun d ε2 => Q (.v d) ε2
def yxN (r : PTN) : PTX := fun ε Q => r ε fun ds ε1 => Q (.o ds) ε1
theorem yx_e {r : PTE} (h : YE X W Ξ e r) : YX X W Ξ e (yxE r) := by
  obtain ⟨t, p, k⟩ := h.ex
  refine ⟨t, p, fun F Hs σ H ε Q' Q R L q kk => k F Hs σ H ε _ _ R L q fun v H1 Hs1 t1 ε1 e1 R1 p1 q1 => ?_⟩
  obtain ⟨d, ε2, Hs2, e2, R2, rv, q2⟩ := R1.out p1 q1
  exact kk v H1 Hs2 (.v d) ε2 (e1.trans e2) R2 rv q2
theorem yx_n {r : PTN} (h : YN X W Ξ e r) : YX X W Ξ e (yxN r) := by
  obtain ⟨t, p, k⟩ := h.ex
  exact ⟨t, p, fun F Hs σ H ε Q' Q R L q kk => k F Hs σ H ε _ _ R L q fun p H' Hs' vs ds ε' e R' g1 g2 g3 g4 rs q' => kk (.ref p) H' Hs' (.o ds) ε' e R' ⟨p, vs, rfl, g1, g2, g3, g4, rs⟩ q'⟩
theorem pend_store {K : PySem.W.Frag} {F Hs H : Hp} {σ : St} {ε : PEnv} {v : V} {s : S} (R : RelS K F Hs σ H ε) (h : Pend K F Hs σ H ε v s) (i : Nat) : RelS K F Hs (σ.set i (some v)) H (ε.set i (some s)) := by
  cases s with
  | v d => exact R.store h i
  | o ds =>
    obtain ⟨p, vs, rfl, g1, g2, g3, g4, rs⟩ := h
    exact storeO_of R i g1 g2 g3 g4 rs
  | od _ => exact h.elim
def ysPar (i j : Nat) (ra rb : PTX) : PTS := fun Δ ε => ra ε fun s1 ε1 => rb ε1 fun s2 ε2 => Δ.nx ((ε2.set i (some s1)).set j (some s2))
theorem nobody_set {σ : St} {ε : PEnv} {p q : Addr} {s : S} {i : Nat} (h : Nobody σ ε p) (hq : q ≠ p) : Nobody (σ.set i (some (.ref q))) (ε.set i (some s)) p := fun k t e so z => by
  by_cases hk : i = k
  · subst hk
    by_cases hi : i < σ.length
    · rw [List.getElem?_set_self hi] at z
      exact hq (V.ref.inj (Option.some.inj (Option.some.inj z)))
    · rw [List.getElem?_eq_none (by rw [List.length_set]; omega)] at z
      cases z
  · rw [List.getElem?_set_ne hk] at e z
    exact h k t e so z
theorem nobody_setV {σ : St} {ε : PEnv} {p : Addr} {d : D} {v : V} {i : Nat} (h : Nobody σ ε p) : Nobody (σ.set i (some v)) (ε.set i (some (.v d))) p := fun k t e so z => by
  by_cases hk : i = k
  · subst hk
    by_cases hi : i < ε.length
    · rw [List.getElem?_set_self hi] at e
      cases e
      cases so
    · rw [List.getElem?_eq_none (by rw [List.length_set]; omega)] at e
      cases e
  · rw [List.getElem?_set_ne hk] at e z
    exact h k t e so z
theorem ys_par (i j : Nat) {x y : Str} {a b : Expr} {ra rb : PTX} {px py pt : Pos} {kt k2 : Nat} {pt2 : Pos} (hc : X.calm = true) (hN : X.N.Nodup) (hi : X.N[i]? = some x) (hj : X.N[j]? = some y) (hij : i ≠ j)
    (hx : X.env.scope.names.lookup x = some .local) (hy : X.env.scope.names.lookup y = some .local) (ha : YX X W Ξ a ra) (hb : YX X W Ξ b rb)
    (hst : starEach [a, b] X.env = (false, eval a X.env) :: starEach [b] X.env := by rfl) (hst2 : starEach [b] X.env = (false, eval b X.env) :: starEach [] X.env := by rfl)
    (hw : swappedStores [.Tuple [.Name x px, .Name y py] kt pt] (.Tuple [a, b] k2 pt2) X.env = pure (some [x, y]) := by rfl)
    (hs : swapsWithSole [.Tuple [.Name x px, .Name y py] kt pt] (.Tuple [a, b] k2 pt2) pos.line X.env = pure false := by rfl) :
    YS X W Ξ (.Assign [.Tuple [.Name x px, .Name y py] kt pt] (.Tuple [a, b] k2 pt2) pos) (ysPar i j ra rb) := by
  obtain ⟨ta, pa, ka⟩ := ha.ex
  obtain ⟨tb, pb, kb⟩ := hb.ex
  refine ⟨_, ps_par hc hN hi hj hij hx hy (pa_cons pa (pa_cons pb pa_nil hst2) hst) hw hs, fun F Hs σ H ε Δ Dd R L q kk => ?_⟩
  refine ka F Hs σ H ε _ _ R L q fun v H1 Hs1 s1 ε1 e1 R1 p1 q1 => ?_
  cases s1 with
  | v d =>
    refine kb F Hs1 σ H1 ε1 _ _ R1 (L.mono e1) q1 fun w H2 Hs2 s2 ε2 e2 R2 p2 q2 => ?_
    refine ⟨v, w, rfl, ?_⟩
    have R3 := R2.store (Rep.mono e2 p1) i
    refine kk.nx _ H2 Hs2 _ (e1.trans e2) (pend_store R3 ?_ j) q2
    cases s2 with
    | v d2 => exact p2
    | o ds =>
      obtain ⟨p, vs, rfl, g1, g2, g3, g4, rs⟩ := p2
      exact ⟨p, vs, rfl, g1, g2, g3, nobody_setV g4, rs⟩
    | od _ => exact p2.elim
  | o ds =>
    obtain ⟨p, vs, rfl, g1, g2, g3, g4, rs⟩ := p1
    have R1' := R1.lend g1 g2 g4
    have L' : Lk X.K (upd F p (.lst vs)) Hs1 W Ξ := fun c σ' H' Hs' ε' xc e' R' => L c σ' H' Hs' ε' xc (e1.trans e') (R'.back g3).1
    refine kb _ Hs1 σ H1 ε1 _ _ R1' L' q1 fun w H2 Hs2 s2 ε2 e2 R2 p2 q2 => ?_
    refine ⟨.ref p, w, rfl, ?_⟩
    obtain ⟨R2', b1, b2, b3⟩ := R2.back g3
    have R3 := storeO_of R2' i b1 b2 g3 b3 (rs.mono e2)
    refine kk.nx _ H2 Hs2 _ (e1.trans e2) (pend_store R3 ?_ j) q2
    cases s2 with
    | v d2 => exact p2
    | o ds2 =>
      obtain ⟨p', vs', rfl, f1, f2, f3, f4, rs'⟩ := p2
      have ne : p ≠ p' := by
        intro z
        subst z
        rw [upd_same] at f3
        cases f3
      exact ⟨p', vs', rfl, f1, f2, by rw [upd_ne (Ne.symm ne)] at f3; exact f3, nobody_set f4 ne, rs'⟩
    | od _ => exact p2.elim
  | od _ => exact p1.elim
end
end PL

set_option Elab.async false
set_option linter.all false
set_option autoImplicit false
set_option maxRecDepth 100000
set_option maxHeartbeats 2000000
/-! Short words for the printed derivations. -/
namespace PL
open PySem PySem.Spec PyProof.Rows L2
open Evl (Ex)
theorem atI_in {α : Type} {xs : List α} {i : Int} (h0 : 0 ≤ i) (h1 : i < (xs.length : Int)) : ∃ d, atI xs i = some d ∧ d ∈ xs := by
  obtain ⟨j, rfl⟩ := Int.eq_ofNat_of_zero_le h0
  have hn : j < xs.length := Int.ofNat_lt.mp h1
  exact ⟨xs[j], atI_nat (List.getElem?_eq_getElem hn), List.getElem_mem hn⟩
/-- an item at a place that is drawn -/
theorem pick_of {xs : List D} {i : Int} {Q : D → Prop} (h0 : 0 ≤ i) (h1 : i < (xs.length : Int)) (k : ∀ d, d ∈ xs → Q d) : opt (atI xs i) Q := by
  obtain ⟨d, e, hd⟩ := atI_in h0 h1
  exact opt_of e (k d hd)
/-- a def that may be called -/
structure CallOk (P : Program) (w : World) (K : PySem.W.Frag) (mg : Str → Option Value) (base : Heap) (k : Nat) (x : Str) (ps : List Str) (φ : Spec) : Prop where
  fn : ∃ fd, FnOk P w K mg base (L2.CX P w) k (He.ga K x) fd ps (pSp K φ) ∧ (∃ oc od sl, K.lookup (He.ga K x) = some ⟨oc, od, .func fd, sl⟩) ∧ ∀ (s : Shared) (us : List Value), us.length = ps.length → BindsTo s fd ⟨us, []⟩ (ps.zip us)
  kp : PySem.W.keepIn K (.ref (He.ga K x)) = true
  gl : mg x = some (.ref (He.ga K x))
theorem funLook {K : PySem.W.Frag} {x qual : Str} {params : Arguments} {body : List Stmt} {scope : Scope} {dvs : List V} {kws : List (Str × V)} {f : Addr} {fd : FuncData} (F : FunD K x qual params body scope dvs kws f fd) : ∃ oc od sl, K.lookup f = some ⟨oc, od, .func fd, sl⟩ := by
  obtain ⟨oc, od, dV, kV, doc, pm, an, cdv, ct, osl, rfl, lk, _⟩ := F.ex
  exact ⟨_, _, _, lk⟩
theorem CallOk.imp {P : Program} {w : World} {K : PySem.W.Frag} {mg : Str → Option Value} {base : Heap} {k : Nat} {x : Str} {ps : List Str} {φ ψ : Spec} (h : CallOk P w K mg base k x ps φ) (i : ∀ ds Q E, ψ ds Q E → φ ds Q E) : CallOk P w K mg base k x ps ψ := by
  obtain ⟨⟨fd, F, lk, b⟩, kp, gl⟩ := h
  exact ⟨⟨fd, F.imp fun vs H Q E ⟨Hs, ds, Q', E', a, b, c, d⟩ => ⟨Hs, ds, Q', E', a, b, i _ _ _ c, d⟩, lk, b⟩, kp, gl⟩
section
variable {X : Cx} {W : WX} {Ξ : Xi} {a b c : Expr} {es : List Expr} {pos : Pos}
theorem yeCall {φ : Spec} {rs : PTL} {k : Nat} {ps : List Str} {x : Str} {p : Pos} (C : CallOk X.prog X.w X.K X.mg X.base k x ps φ) (tk : Takes X W) (hr : Room k X.A) (h : YL X W Ξ (a :: es) rs) (hg : Gl X x := by rfl) (hdb : (x == ("__debug__" : Str)) = false := by decide)
    (he : starEach (a :: es) X.env = (false, eval a X.env) :: starEach es X.env := by rfl) (hpl : (backTo pos (starEach es X.env)).any (·.1) = false := by rfl) :
    YE X W Ξ (.Call (.Name x p) (a :: es) [] pos) (yCall φ Ξ rs) := by
  obtain ⟨⟨fd, F, _, b⟩, kp, gl⟩ := C
  exact ye_call F tk hr hg gl kp (fun s us _ hl => by rw [List.append_nil] at hl ⊢; exact b s us hl) h hdb he hpl
/-- a name is stored: the plain ways -/
theorem ysSet (i : Nat) {x : Str} {pos' : Pos} {re : PTE} (hN : X.N.Nodup) (he : YE X W Ξ a re) (hi : X.N[i]? = some x := by rfl) (hx : Loc X.env.scope x := by first | exact Or.inl rfl | exact Or.inr rfl) (hs : swapsWith a (some (.Name x pos')) pos.line X.env = pure false := by rfl)
    (hf : X.fn x = true ∨ X.env.scope.names.lookup x = some .local := by first | exact .inl rfl | exact .inr rfl) : YS X W Ξ (.Assign [.Name x pos'] a pos) (ysAsg re i) := ys_set i hN hi hx he hs hf
theorem ysSetO (i : Nat) {x : Str} {pos' : Pos} {rn : PTN} (hN : X.N.Nodup) (he : YN X W Ξ a rn) (hi : X.N[i]? = some x := by rfl) (hx : Loc X.env.scope x := by first | exact Or.inl rfl | exact Or.inr rfl) (hs : swapsWith a (some (.Name x pos')) pos.line X.env = pure false := by rfl)
    (hf : X.fn x = true ∨ X.env.scope.names.lookup x = some .local := by first | exact .inl rfl | exact .inr rfl) : YS X W Ξ (.Assign [.Name x pos'] a pos) (ysAsgO rn i) := ys_setO i hN hi hx he hs hf
theorem ygN {x : Str} (i : Nat) (hN : X.N.Nodup) (hi : X.N[i]? = some x := by rfl) (hx : Loc X.env.scope x := by first | exact Or.inl rfl | exact Or.inr rfl) (hf : X.fn x = true ∨ X.env.scope.names.lookup x = some .local := by first | exact .inl rfl | exact .inr rfl) : YG X (.Name x pos) (gN i) [i] := yg_name i hN hi hx hf
theorem ysApp' (i : Nat) {x : Str} {px pa pc : Pos} {re : PTE} (he : YE X W Ξ a re) (hN : X.N[i]? = some x := by rfl) (hv : Vis X.env.scope x := by first | exact Or.inl rfl | exact Or.inr (Or.inl rfl) | exact Or.inr (Or.inr rfl)) (hd : (x == ("__debug__" : Str)) = false := by decide) (hcd : (x == ("__classdict__" : Str)) = false := by decide)
    (hbase : attributeBase (.Name x px) "append" X.env (eval (.Name x px) X.env) = eval (.Name x px) X.env := by rfl)
    (hfew : ((backTo pc (starEach (a :: []) X.env)).all (fun x => !x.1) && (backToKw pc (keywordEach [] X.env)).all (fun x => x.1.isSome)
      && decide ((a :: []).length + ([] : List Keyword).length + (if ([] : List Keyword).isEmpty then 0 else 1) < 30)) = true := by rfl)
    (hline : (pa.endLine == pc.line) = true := by rfl) (hs : starEach (a :: []) X.env = (false, eval a X.env) :: starEach [] X.env := by rfl) (hplain : (backTo pc (starEach [] X.env)).any (·.1) = false := by rfl)
    (hsw : swapsWith (.Call (.Attribute (.Name x px) "append" pa) [a] [] pc) none pos.line X.env = pure false := by rfl) :
    YS X W Ξ (.Expr (.Call (.Attribute (.Name x px) "append" pa) [a] [] pc) pos) (ysApp i re) := ys_app i hN hv he hd hcd hbase hfew hline hs hplain hsw
theorem ysExt' (i : Nat) {x : Str} {px pa pc : Pos} {re : PTE} (he : YE X W Ξ a re) (hN : X.N[i]? = some x := by rfl) (hv : Vis X.env.scope x := by first | exact Or.inl rfl | exact Or.inr (Or.inl rfl) | exact Or.inr (Or.inr rfl)) (hd : (x == ("__debug__" : Str)) = false := by decide) (hcd : (x == ("__classdict__" : Str)) = false := by decide)
    (hbase : attributeBase (.Name x px) "extend" X.env (eval (.Name x px) X.env) = eval (.Name x px) X.env := by rfl)
    (hfew : ((backTo pc (starEach (a :: []) X.env)).all (fun x => !x.1) && (backToKw pc (keywordEach [] X.env)).all (fun x => x.1.isSome)
      && decide ((a :: []).length + ([] : List Keyword).length + (if ([] : List Keyword).isEmpty then 0 else 1) < 30)) = true := by rfl)
    (hline : (pa.endLine == pc.line) = true := by rfl) (hs : starEach (a :: []) X.env = (false, eval a X.env) :: starEach [] X.env := by rfl) (hplain : (backTo pc (starEach [] X.env)).any (·.1) = false := by rfl)
    (hsw : swapsWith (.Call (.Attribute (.Name x px) "extend" pa) [a] [] pc) none pos.line X.env = pure false := by rfl) :
    YS X W Ξ (.Expr (.Call (.Attribute (.Name x px) "extend" pa) [a] [] pc) pos) (ysExt i re) := ys_ext i hN hv he hd hcd hbase hfew hline hs hplain hsw
theorem yePop' (i : Nat) {x : Str} {px pa pc : Pos} (hN : X.N[i]? = some x := by rfl) (hv : Vis X.env.scope x := by first | exact Or.inl rfl | exact Or.inr (Or.inl rfl) | exact Or.inr (Or.inr rfl)) (hd : (x == ("__debug__" : Str)) = false := by decide) (hcd : (x == ("__classdict__" : Str)) = false := by decide)
    (hbase : attributeBase (.Name x px) "pop" X.env (eval (.Name x px) X.env) = eval (.Name x px) X.env := by rfl) (hline : (pa.endLine == pc.line) = true := by rfl) :
    YE X W Ξ (.Call (.Attribute (.Name x px) "pop" pa) [] [] pc) (yPop i) := ye_pop i hN hv hd hcd hbase hline
/-- a module's constant: an int, a text -/
structure GlI (mg : Str → Option Value) (x : Str) (i : Int) : Prop where
  ex : ∃ t, mg x = some (.int i t)
structure GlS (mg : Str → Option Value) (x z : Str) : Prop where
  ex : ∃ t, mg x = some (.str z t)
theorem yeGlI {x : Str} {i : Int} (h : GlI X.mg x i) (hg : Gl X x := by rfl) (hd : (x == ("__debug__" : Str)) = false := by decide) : YE X W Ξ (.Name x pos) (yC (.int i)) := by
  obtain ⟨t, e⟩ := h.ex
  exact ye_glob (v := .int i) hg e ⟨t, rfl⟩ (fun _ _ => .int i) hd
theorem yeGlS {x z : Str} (h : GlS X.mg x z) (hg : Gl X x := by rfl) (hd : (x == ("__debug__" : Str)) = false := by decide) : YE X W Ξ (.Name x pos) (yC (.str z)) := by
  obtain ⟨t, e⟩ := h.ex
  exact ye_glob (v := .str z) hg e ⟨t, rfl⟩ (fun _ _ => .str z) hd
theorem peTy {x : Str} {n : String} (hm : X.mg x = none) (hv : bootBuiltins x = some (.type n)) (hg : Gl X x := by rfl) (hn : x ≠ "__name__" := by decide) (hd : (x == ("__debug__" : Str)) = false := by decide) : PE X (.Name x pos) (tC (.ty n)) := pe_bltn hg hm hv rfl hn hd
theorem ye_chain {op op' : CmpOp} {o o' : OP2} {ra rb rc : PTE} (ho : OpY X (compareOp op) o) (ho' : OpY X (compareOp op') o') (ha : YE X W Ξ a ra) (hb : YE X W Ξ b rb) (hc : YE X W Ξ c rc) (hm : lastMarks [op, op'] [b, c] = false := by with_unfolding_all rfl) :
    YE X W Ξ (.Compare a [op, op'] [b, c] pos) (yChain o o' ra rb rc) := by
  obtain ⟨r, hr, h⟩ := ho
  obtain ⟨r', hr', h'⟩ := ho'
  obtain ⟨ta, pa, ka⟩ := ha.ex
  obtain ⟨tb, pb, kb⟩ := hb.ex
  obtain ⟨tc, pc, kc⟩ := hc.ex
  refine ⟨_, pe_chain hr hr' pa pb pc hm, fun F Hs σ H ε Q' Q R L q k => ?_⟩
  refine ka F Hs σ H ε _ _ R L q fun v H1 Hs1 t1 ε1 e1 R1 p1 q1 => ?_
  refine kb F Hs1 σ H1 ε1 _ _ R1 (L.mono e1) q1 fun w H2 Hs2 t2 ε2 e2 R2 p2 q2 => ?_
  obtain ⟨d1, v1, q3⟩ := R2.res (p1.mono e2) q2
  obtain ⟨d2, v2, q4⟩ := R2.res p2 q3
  refine h F Hs2 σ H2 ε2 v w d1 d2 _ _ R2 v1 v2 q4 fun z H3 Hs3 d e3 R3 p3 q5 => ?_
  obtain ⟨kk, e4, q6⟩ := asB_rep p3 q5
  refine ⟨kk, e4, ?_⟩
  cases kk with
  | true =>
    show (if true = true then _ else _)
    rw [if_pos rfl]
    refine kc F Hs3 σ H3 ε2 _ _ R3 (L.mono ((e1.trans e2).trans e3)) q6 fun u H4 Hs4 t3 ε4 e5 R4 p4 q7 => ?_
    obtain ⟨d2', v2', q8⟩ := R4.res ((p2.mono e3).mono e5) q7
    obtain ⟨d3, v3, q9⟩ := R4.res p4 q8
    exact h' F Hs4 σ H4 ε4 w u d2' d3 _ Q R4 v2' v3 q9 fun z H' Hs' d e6 R6 p6 q => k z H' Hs' (.d d) ε4 ((((e1.trans e2).trans e3).trans e5).trans e6) R6 p6 q
  | false =>
    show (if false = true then _ else _)
    rw [if_neg Bool.false_ne_true]
    exact k _ H3 Hs3 (.d (.bl false)) ε2 ((e1.trans e2).trans e3) R3 (.bl false) q6
/-- {} -/
def yDic0 : PTE := fun ε Q => Q (.d (.dic [])) ε
theorem ye_dic0 : YE X W Ξ (.Dict [] [] pos) yDic0 := by
  refine ⟨_, pe_dnewK, fun F Hs σ H ε Q' Q R L q k => fun p hp => ?_⟩
  obtain ⟨R3, e3⟩ := R.new (o := .dK []) hp
  exact k (.ref p) _ _ (.d (.dic [])) ε e3 R3 (.dic upd_same rfl .nil) q
/-- not a, by truth -/
def yNotB (r : PTE) : PTE := fun ε Q => r ε fun t ε' => res ε' t (asB fun k => Q (.d (.bl (!k))) ε')
theorem ye_not {r : PTE} (h : YE X W Ξ a r) : YE X W Ξ (.UnaryOp .Not a pos) (yNotB r) := by
  obtain ⟨t, p, k⟩ := h.ex
  refine ⟨_, pe_not p, fun F Hs σ H ε Q' Q R L q kk => k F Hs σ H ε _ _ R L q fun v H1 Hs1 t1 ε1 e1 R1 p1 q1 => ?_⟩
  obtain ⟨d, rv, q2⟩ := R1.res p1 q1
  cases d with
  | bl b => exact ⟨b, rv.bl', kk _ H1 Hs1 (.d (.bl (!b))) ε1 e1 R1 (.bl _) q2⟩
  | _ => exact False.elim q2
/-- for x in a list, a tuple -/
def yiSeq (r : PTE) : PTN := fun ε Q => r ε fun t ε' => out ε' t fun d ε2 => match d with
  | .lst ds => Q ds ε2
  | .frl ds => Q ds ε2
  | .tup ds => Q ds ε2
  | _ => False
def iSeq (K : PySem.W.Frag) (tl : TE) : TI := fun σ H R => tl σ H fun x H1 => ∃ a, x = .ref a ∧ (((∃ xs, SqL K H1 a xs) ∧ R (Itl K a) H1) ∨ ((∃ xs, SqT K H1 a xs) ∧ R (Itt K a) H1))
theorem pi_seq {tg l : Expr} {tl : TE} (hl : PE X l tl) : PI X tg l (iSeq X.K tl) := by
  refine ⟨fun pins s σ H R I h => ?_⟩
  refine thn (hl.run pins s σ H _ I h) fun v s1 ⟨x, H1, I1, r1, q1⟩ => ?_
  obtain ⟨a, e, q⟩ := q1
  subst e
  cases r1
  rcases q with ⟨⟨xs, hq⟩, q⟩ | ⟨⟨xs, hq⟩, q⟩
  · obtain ⟨its, rv, p, hz⟩ := I1.list hq
    refine wpAny_pyIter_list p.isList ?_
    refine ⟨s1.heap.objs.size, [s1.heap.objs.size], _, _, H1, rfl, I1.kept (t' := s1.toks) fun b o e => Heap.get?_push_of_some _ e, turn_list a _, ⟨_, Heap.get?_push_size _ rfl, rfl, rfl⟩, fun b hb => ?_, q⟩
    have e : b = s1.heap.objs.size := by simpa using hb
    subst e
    exact I1.fpOk (Nat.le_refl _) (I1.hok.fresh (Nat.le_refl _))
  · obtain ⟨its, rv, p, hz⟩ := I1.tuple hq
    refine wpAny_pyIter_tuple (show s1.heap.IsTuple a its.toArray from p) ?_
    refine ⟨s1.heap.objs.size, [s1.heap.objs.size], _, _, H1, rfl, I1.kept (t' := s1.toks) fun b o e => Heap.get?_push_of_some _ e, turn_tuple a _, ⟨_, Heap.get?_push_size _ rfl, rfl, rfl⟩, fun b hb => ?_, q⟩
    have e : b = s1.heap.objs.size := by simpa using hb
    subst e
    exact I1.fpOk (Nat.le_refl _) (I1.hok.fresh (Nat.le_refl _))
theorem yi_seq {tg : Expr} {r : PTE} (h : YE X W Ξ a r) : YI X W Ξ tg a (yiSeq r) := by
  obtain ⟨t, p, k⟩ := h.ex
  refine ⟨_, pi_seq p, fun F Hs σ H ε Q' R' R L q kk => k F Hs σ H ε _ _ R L q fun v H1 Hs1 t ε1 e1 R1 p1 q1 => ?_⟩
  obtain ⟨d, ε2, Hs2, e2, R2, rv, q2⟩ := R1.out p1 q1
  split at q2
  · cases rv with
    | lst h1 r1 => exact ⟨_, rfl, .inl ⟨⟨_, SqL.of (R2.ex _ _ h1)⟩, kk _ H1 Hs2 _ ε2 (e1.trans e2) R2 (seqs_list (SqL.of h1) r1) q2⟩⟩
  · cases rv with
    | frl h1 r1 => exact ⟨_, rfl, .inl ⟨⟨_, Evl.ex_l R2.ex h1.sq⟩, kk _ H1 Hs2 _ ε2 (e1.trans e2) R2 (seqs_list h1.sq r1) q2⟩⟩
  · cases rv with
    | tup h1 r1 => exact ⟨_, rfl, .inr ⟨⟨_, Evl.ex_t R2.ex h1⟩, kk _ H1 Hs2 _ ε2 (e1.trans e2) R2 (seqs_tup h1 r1) q2⟩⟩
  · exact q2.elim
def yChainT (o o' : OP2) (ra rb rc : PTE) : PTT := yB (yChain o o' ra rb rc)
theorem yt_chain {op op' : CmpOp} {o o' : OP2} {ra rb rc : PTE} (ho : OpY X (compareOp op) o) (ho' : OpY X (compareOp op') o') (ha : YE X W Ξ a ra) (hb : YE X W Ξ b rb) (hc : YE X W Ξ c rc) (hm : lastMarks [op, op'] [b, c] = false := by with_unfolding_all rfl) :
    YT X W Ξ (.Compare a [op, op'] [b, c] pos) (yChainT o o' ra rb rc) := by
  obtain ⟨r, hr, h⟩ := ho
  obtain ⟨r', hr', h'⟩ := ho'
  obtain ⟨ta, pa, ka⟩ := ha.ex
  obtain ⟨tb, pb, kb⟩ := hb.ex
  obtain ⟨tc, pc, kc⟩ := hc.ex
  refine ⟨_, pt_chain hr hr' pa pb pc hm, fun F Hs σ H ε Q' Q R L q k => ?_⟩
  refine ka F Hs σ H ε _ _ R L q fun v H1 Hs1 t1 ε1 e1 R1 p1 q1 => ?_
  refine kb F Hs1 σ H1 ε1 _ _ R1 (L.mono e1) q1 fun w H2 Hs2 t2 ε2 e2 R2 p2 q2 => ?_
  obtain ⟨d1, v1, q3⟩ := R2.res (p1.mono e2) q2
  obtain ⟨d2, v2, q4⟩ := R2.res p2 q3
  refine h F Hs2 σ H2 ε2 v w d1 d2 _ _ R2 v1 v2 q4 fun z H3 Hs3 d e3 R3 p3 q5 => ?_
  obtain ⟨kk, e4, q6⟩ := asB_rep p3 q5
  refine ⟨kk, e4, ?_⟩
  cases kk with
  | true =>
    show (if true = true then _ else _)
    rw [if_pos rfl]
    refine kc F Hs3 σ H3 ε2 _ _ R3 (L.mono ((e1.trans e2).trans e3)) q6 fun u H4 Hs4 t3 ε4 e5 R4 p4 q7 => ?_
    obtain ⟨d2', v2', q8⟩ := R4.res ((p2.mono e3).mono e5) q7
    obtain ⟨d3, v3, q9⟩ := R4.res p4 q8
    refine h' F Hs4 σ H4 ε4 w u d2' d3 _ _ R4 v2' v3 q9 fun z H' Hs' d e6 R6 p6 q => ?_
    obtain ⟨b, e7, q7⟩ := asB_rep p6 q
    exact ⟨b, e7, k b H' Hs' ε4 ((((e1.trans e2).trans e3).trans e5).trans e6) R6 q7⟩
  | false =>
    show (if false = true then _ else _)
    rw [if_neg Bool.false_ne_true]
    exact ⟨false, rfl, k false H3 Hs3 ε2 ((e1.trans e2).trans e3) R3 q6⟩
def ysNever : PTS := fun _ _ => False
theorem ys_never {st : Stmt} : YS X W Ξ st ysNever := ⟨_, ps_never, fun _ _ _ _ _ _ _ _ _ q _ => q.elim⟩
def ysRetN : PTS := fun Δ ε => Δ.rt .non ε
theorem ys_retN : YS X W Ξ (.Return none pos) ysRetN := ⟨_, ps_retN, fun F Hs σ H ε Δ Dd R L q k => k.rt .non σ H Hs .non ε (Evl.Ex.refl _) R .non q⟩
abbrev exBase : List Value := [.type "Exception", .type "BaseException", .type "object"]
end
end PL

set_option Elab.async false
set_option linter.all false
set_option autoImplicit false
set_option maxRecDepth 100000
set_option maxHeartbeats 2000000
/-! Loops and comprehensions over lists that lie open. -/
namespace PL
open PySem PySem.Spec PyProof.Rows L2
def forRun (g : PTG) (rb : PTS) (Δ : PEnds) : List D → PEnv → Prop
  | [], ε => Δ.nx ε
  | d :: ds, ε => g d ε fun ε2 => rb { Δ with nx := forRun g rb Δ ds, ct := forRun g rb Δ ds, bk := Δ.nx } ε2
theorem drop_get {α : Type} {xs : List α} {i : Nat} {d : α} (h : xs[i]? = some d) : xs.drop i = d :: xs.drop (i + 1) := by
  obtain ⟨hi, e⟩ := List.getElem?_eq_some_iff.mp h
  rw [List.drop_eq_getElem_cons hi, e]
theorem for_run {g : PTG} {rb : PTS} {Δ : PEnds} {ds : List D} {ε1 : PEnv} (h : forRun g rb Δ ds ε1) : ∃ Wp : Nat → PEnv → Prop, Wp 0 ε1 ∧
    (∀ i d ε, i < ds.length → ds[i]? = some d → Wp i ε → g d ε fun ε2 => rb { Δ with nx := Wp (i + 1), ct := Wp (i + 1), bk := Δ.nx } ε2) ∧ ∀ ε, Wp ds.length ε → Δ.nx ε := by
  refine ⟨fun i ε => forRun g rb Δ (ds.drop i) ε, h, fun i d ε hi hd w => ?_, fun ε w => ?_⟩
  · replace w : forRun g rb Δ (ds.drop i) ε := w
    rw [drop_get hd] at w
    exact w
  · replace w : forRun g rb Δ (ds.drop ds.length) ε := w
    rw [List.drop_length] at w
    exact w
def lcRun (g : PTG) (rt : PTT) (re : PTE) (vs : List Nat) (ε1 : PEnv) (Q : List D → PEnv → Prop) : List D → List D → Prop
  | [], acc => Q acc ε1
  | d :: ds, acc => g d (wipeE ε1 vs) fun ε2 => rt ε2 fun k ε3 => match k with
    | true => re ε3 fun t ε4 => out ε4 t fun y ε5 => wipeE ε5 vs = wipeE ε1 vs ∧ lcRun g rt re vs ε1 Q ds (acc ++ [y])
    | false => wipeE ε3 vs = wipeE ε1 vs ∧ lcRun g rt re vs ε1 Q ds acc
theorem lc_run {g : PTG} {rt : PTT} {re : PTE} {vs : List Nat} {ε1 : PEnv} {Q : List D → PEnv → Prop} {ds : List D} (h : lcRun g rt re vs ε1 Q ds []) : ∃ Wp : Nat → List D → Prop, Wp 0 [] ∧
  (∀ i d acc, i < ds.length → ds[i]? = some d → acc.length ≤ i → Wp i acc → g d (wipeE ε1 vs) fun ε2 => rt ε2 fun k ε3 => match k with
    | true => re ε3 fun t ε4 => out ε4 t fun y ε5 => wipeE ε5 vs = wipeE ε1 vs ∧ Wp (i + 1) (acc ++ [y])
    | false => wipeE ε3 vs = wipeE ε1 vs ∧ Wp (i + 1) acc) ∧ ∀ acc, acc.length ≤ ds.length → Wp ds.length acc → Q acc ε1 := by
  refine ⟨fun i acc => lcRun g rt re vs ε1 Q (ds.drop i) acc, h, fun i d acc hi hd hl w => ?_, fun acc hl w => ?_⟩
  · replace w : lcRun g rt re vs ε1 Q (ds.drop i) acc := w
    rw [drop_get hd] at w
    exact w
  · replace w : lcRun g rt re vs ε1 Q (ds.drop ds.length) acc := w
    rw [List.drop_length] at w
    exact w
theorem seq_step {r u : PTS} {Δ : PEnds} {ε : PEnv} (ε' : PEnv) (h1 : ∀ K : PEnv → Prop, K ε' → r { Δ with nx := K } ε) (h2 : u Δ ε') : ysSeq r u Δ ε := h1 _ h2
theorem seq_post {r u : PTS} {Δ : PEnds} {ε : PEnv} (Po : PEnv → Prop) (h1 : ∀ K : PEnv → Prop, (∀ ε', Po ε' → K ε') → r { Δ with nx := K } ε) (h2 : ∀ ε', Po ε' → u Δ ε') : ysSeq r u Δ ε := h1 _ h2
theorem gtup2 {i j : Nat} {d1 d2 : D} {ε : PEnv} {Q : PEnv → Prop} (h : Q ((ε.set i (some (.v d1))).set j (some (.v d2)))) : gTupY 2 [gN i, gN j] (.tup [d1, d2]) ε Q := h
end PL

set_option Elab.async false
set_option linter.all false
set_option autoImplicit false
set_option maxRecDepth 100000
set_option maxHeartbeats 2000000
/-! A number is drawn, by hand. -/
namespace PL
open PySem PySem.Spec PyProof.Rows L2
section
variable {K : PySem.W.Frag}
def r_len (K : PySem.W.Frag) : List V → Hp → VK → Prop := fun xs H Q => ∃ x n, xs = [x] ∧ LenV K x H n ∧ Q (.int (n : Nat)) H
def t_pick (K : PySem.W.Frag) : TS :=
  tSeq (tAsg (tOp (rIxL K) (tVar 0) (tC (.int 0))) (gName 2))
    (tSeq (tAsg (tOp (rI0 fun i j => V.int (i + j)) (tVar 2) (tC (.int 1))) (gSub (tVar 0) (tC (.int 0)) rSetL))
      (tSeq (tIfS (tTest (tOp rEq (tOp (rIxL K) (tVar 0) (tC (.int 0))) (tCB (r_len K) (tCons (tVar 0) tNil))))
          (tAsg (tC (.int 1)) (gSub (tVar 0) (tC (.int 0)) rSetL)) tNext)
        (tRet (tOp (rI (fun _ j => 0 < j) fun i j => V.int (i % j))
            (tCB (fun xs H Q => (∃ i, xs = [V.int i] ∧ Q (V.int i) H) ∨ ∃ k, xs = [V.bl k] ∧ Q (V.int (if k = true then 1 else 0)) H)
              (tCons (tOp (rIxL K) (tVar 0) (tVar 2)) tNil))
            (tVar 1)))))
theorem atI_int {ns : List Int} {i : Int} {x : Int} (h : atI ns i = some x) : atI (ns.map V.int) i = some (.int x) := by
  unfold atI at h ⊢
  rw [List.length_map]
  cases e : ixN ns.length i with
  | none => rw [e] at h; cases h
  | some j =>
    rw [e] at h
    show (ns.map V.int)[j]? = some (.int x)
    replace h : ns[j]? = some x := h
    rw [List.getElem?_map, h]
    rfl
theorem ix0 {n : Nat} (h : 0 < n) : ixN n 0 = some 0 := by
  unfold ixN
  rw [if_pos (Int.le_refl 0), if_pos (by omega)]
  rfl
theorem at0 {x : V} {xs : List V} : atI (x :: xs) 0 = some x := atI_nat (j := 0) (v := x) rfl
theorem pick_pure {vs : List V} {H : Hp} {Q : VK} {E : XK} (h : spPick vs H Q E) : t_pick K { nx := fun _ H' => Q .non H', rt := Q } (L2.start ["pool", "many", "place"] vs) H := by
  obtain ⟨p, n, ns, rfl, hH, ⟨hl1, hl2, c, hc, c1, c2⟩, hn, hQ⟩ := h
  cases ns with
  | nil => cases hc
  | cons c' tl =>
    obtain rfl : c' = c := Option.some.inj hc
    have hx : ∀ (d : Int) (H : Hp), H p = some (.lst ((d :: tl).map V.int)) → 0 ≤ d → True := fun _ _ _ _ => trivial
    -- the item drawn: place c' of the list with another head
    have fin : ∀ (d : Int) (H' : Hp), H' = upd H p (.lst ((d :: tl).map V.int)) → PoolOk (d :: tl) →
        (tRet (tOp (rI (fun _ j => 0 < j) fun i j => V.int (i % j))
            (tCB (fun xs H Q => (∃ i, xs = [V.int i] ∧ Q (V.int i) H) ∨ ∃ k, xs = [V.bl k] ∧ Q (V.int (if k = true then 1 else 0)) H)
              (tCons (tOp (rIxL K) (tVar 0) (tVar 2)) tNil))
            (tVar 1))) { nx := fun _ H' => Q .non H', rt := Q } [some (.ref p), some (.int n), some (.int c')] H' := by
      intro d H' hH' ok
      subst hH'
      have hlen : c' < ((d :: tl).length : Int) := c2
      obtain ⟨x, hx, _⟩ := atI_in (xs := d :: tl) (i := c') (by omega) hlen
      refine ⟨_, rfl, _, rfl, p, (d :: tl).map V.int, c', .int x, rfl, rfl, SqL.of upd_same, atI_int hx, .inl ⟨x, rfl, _, rfl, x, n, rfl, rfl, hn, ?_⟩⟩
      exact hQ _ (d :: tl) (Int.emod_nonneg _ (by omega)) (Int.emod_lt_of_pos _ hn) ok
    refine ⟨_, rfl, p, _, 0, .int c', rfl, rfl, SqL.of hH, at0, ?_⟩
    refine ⟨_, rfl, c', 1, rfl, rfl, ?_⟩
    refine ⟨_, rfl, p, _, 0, 0, rfl, rfl, hH, ix0 (by rw [List.length_map]; exact Nat.succ_pos _), ?_⟩
    have e1 : upd H p (.lst (((c' :: tl).map V.int).set 0 (.int (c' + 1)))) = upd H p (.lst (((c' + 1) :: tl).map V.int)) := rfl
    refine ⟨_, rfl, p, _, 0, .int (c' + 1), rfl, rfl, SqL.of upd_same, at0, ?_⟩
    refine ⟨_, rfl, .ref p, (((c' + 1) :: tl).map V.int).length, rfl, .inl ⟨_, SqL.of upd_same, rfl⟩, ?_⟩
    refine ⟨rfl, _, rfl, ?_⟩
    have hm : (((c' + 1) :: tl).map V.int).length = tl.length + 1 := by rw [List.length_map]; rfl
    have hd : decide (V.int (c' + 1) = V.int ((((c' + 1) :: tl).map V.int).length : Nat)) = decide (c' + 1 = ((tl.length + 1 : Nat) : Int)) := by
      rw [hm]
      by_cases q : c' + 1 = ((tl.length + 1 : Nat) : Int)
      · rw [decide_eq_true q, decide_eq_true (by rw [q])]
      · rw [decide_eq_false q, decide_eq_false (fun z => q (V.int.inj z))]
    show (if decide (V.int (c' + 1) = V.int ((((c' + 1) :: tl).map V.int).length : Nat)) = true then _ else _)
    rw [hd]
    have hl : (((c' :: tl).length : Nat) : Int) = ((tl.length + 1 : Nat) : Int) := rfl
    by_cases q : c' + 1 = ((tl.length + 1 : Nat) : Int)
    · rw [if_pos (decide_eq_true q)]
      refine ⟨_, rfl, p, _, 0, 0, rfl, rfl, upd_same, ix0 (by rw [List.length_set, List.length_map]; exact Nat.succ_pos _), ?_⟩
      refine fin 1 _ ?_ ⟨hl1, hl2, 1, rfl, by decide, by show (1 : Int) < ((tl.length + 1 : Nat) : Int); replace hl1 : 2 ≤ tl.length + 1 := hl1; omega⟩
      rw [upd_upd]
      rfl
    · rw [if_neg (by rw [decide_eq_false q]; exact Bool.false_ne_true)]
      refine fin (c' + 1) _ rfl ⟨hl1, hl2, c' + 1, rfl, by omega, by show c' + 1 < ((tl.length + 1 : Nat) : Int); rw [hl] at c2; omega⟩
end
end PL

set_option Elab.async false
set_option linter.all false
set_option autoImplicit false
set_option maxRecDepth 100000
set_option maxHeartbeats 2000000
/-! The head: what is looked at; the law's end. -/
namespace PL
open PySem PySem.Spec PyProof.Rows L2
def excB (K : PySem.W.Frag) (a : Addr) : Bool :=
  He.eqO (PySem.W.findIn K (.ref a) "__getattribute__") (some (some (.builtin "BaseException.__getattribute__"))) &&
  (He.eqO (PySem.W.findIn K (.ref a) "__getattr__") (some none) && (decide (PySem.W.subIn K (.ref a) (.type "BaseException") = some true) &&
  (PySem.W.hasDictIn K a && (He.eqO (PySem.W.findIn K (.ref a) "__class__") (some (some (.builtin "object.__class__"))) &&
  (He.eqO (PySem.W.specialIn K (.builtin "object.__class__") "__get__") (some (some (.builtin "getset_descriptor.__get__"))) &&
  (decide (PySem.W.takesIn K (.builtin "object.__class__") = some true) && decide (PySem.W.mroIn K a (.type "object") = some true)))))))
theorem excB_ok {K : PySem.W.Frag} {a : Addr} (h : excB K a = true) : ExcC K a := by
  obtain ⟨h1, h⟩ := He.ba h
  obtain ⟨h2, h⟩ := He.ba h
  obtain ⟨h3, h⟩ := He.ba h
  obtain ⟨h4, h⟩ := He.ba h
  obtain ⟨h5, h⟩ := He.ba h
  obtain ⟨h6, h⟩ := He.ba h
  obtain ⟨h7, h8⟩ := He.ba h
  exact ⟨He.eqO_ok h1, He.eqO_ok h2, of_decide_eq_true h3, h4, He.eqO_ok h5, He.eqO_ok h6, of_decide_eq_true h7, of_decide_eq_true h8⟩
def exB (cs : List Nat) (K : PySem.W.Frag) : Bool := cs.all fun c =>
  PySem.W.excIn K (exA K c) exBase "Exception.__new__" && (PySem.W.keepIn K (.ref (exA K c)) && (decide (PySem.W.subIn K (.ref (exA K c)) (.type "BaseException") = some true) &&
  (decide (PySem.W.typeIn K (.ref (exA K c)) = some (.type "type")) && (excB K (exA K c) && (decide (PySem.W.exmOne K (.ref (exA K c)) (.ref (exA K 0)) = some true) &&
  cs.all fun t => decide (PySem.W.kitOne K (.ref (exA K c)) (.ref (exA K t)) = some (exSub c t)))))))
structure ExF (K : PySem.W.Frag) (c : Nat) : Prop where
  x : PySem.W.excIn K (exA K c) exBase "Exception.__new__" = true
  k : PySem.W.keepIn K (.ref (exA K c)) = true
  s : PySem.W.subIn K (.ref (exA K c)) (.type "BaseException") = some true
  t : PySem.W.typeIn K (.ref (exA K c)) = some (.type "type")
theorem exB_at {cs : List Nat} {K : PySem.W.Frag} (h : exB cs K = true) {c : Nat} (hc : c ∈ cs) : ExF K c ∧ ExcC K (exA K c) ∧ PySem.W.exmOne K (.ref (exA K c)) (.ref (exA K 0)) = some true ∧ ∀ t ∈ cs, PySem.W.kitOne K (.ref (exA K c)) (.ref (exA K t)) = some (exSub c t) := by
  have h := List.all_eq_true.mp h c hc
  obtain ⟨h1, h⟩ := He.ba h
  obtain ⟨h2, h⟩ := He.ba h
  obtain ⟨h3, h⟩ := He.ba h
  obtain ⟨h4, h⟩ := He.ba h
  obtain ⟨h5, h⟩ := He.ba h
  obtain ⟨h6, h7⟩ := He.ba h
  exact ⟨⟨h1, h2, of_decide_eq_true h3, of_decide_eq_true h4⟩, excB_ok h5, of_decide_eq_true h6, fun t ht => of_decide_eq_true (List.all_eq_true.mp h7 t ht)⟩
theorem exB_k {cs : List Nat} {K : PySem.W.Frag} (h : exB cs K = true) : ExK K cs :=
  ⟨fun c hc => (exB_at h hc).2.2.1, fun c hc => (exB_at h hc).2.2.2, fun c hc => (exB_at h hc).2.1⟩
/-- the law's end -/
theorem walk_ofP {l : PySem.W.OpenLaw} {k : Nat} {q : Program} {loose : List Str} {XP : (Str → Option Value) → Heap → Prop} {YP : World → Heap → Prop} {d : DefRec}
    (hn : l.most = some 63) (hdf : d.params.defaults = []) (hr : Room k callerA)
    (F : ∀ (w : World) (mg : Str → Option Value) (h : Heap), YP w h → h.Ns mainGlobals mg →
      ∃ (K : PySem.W.Frag), K.In h ∧ mg d.name = some (.ref (He.ga K "law")) ∧ ∀ base : Heap, CallOk l.prog w K mg base k "law" ["script"] φLaw) :
    PySem.W.WalkO q loose XP YP l.row.toRowW d [] (fun f vs => PySem.call f vs) := by
  refine Att.attach_call hn hdf fun w s₀ s₁ mg mb fa o pm cd doc a vs ns G Y ho hd hcd hmg hobj hints hlen hg => ?_
  obtain ⟨K, KX, gl, hF⟩ := F w mg _ Y G.T.g
  obtain rfl : fa = He.ga K "law" := by
    have e := hmg.symm.trans gl
    cases e
    rfl
  obtain ⟨fd, _, lk, hb⟩ := (hF s₁.heap).fn
  have hF2 : ∀ base : Heap, K.In base → base.Ns mainGlobals mg → FnOk l.prog w K mg base (L2.CX l.prog w) k (He.ga K "law") fd ["script"] (pSp K φLaw) := fun base _ _ => by
    obtain ⟨fd', F', lk', _⟩ := (hF base).fn
    obtain ⟨_, _, _, e1⟩ := lk
    obtain ⟨_, _, _, e2⟩ := lk'
    rw [e1] at e2
    cases e2
    exact F'
  exact law_call KX G.T.g G.T.b G.T.builtins G.T.nolimit hg hobj hints (Nat.le_trans hlen (by rw [sizeLine_eq]; decide)) hr hF2 (fun s u => hb s [u] rfl) (fun H hO hS => law_sp hlen hO hS) fun H e s' h => cx_never h
theorem CallOk.stream {P : Program} {w : World} {K : PySem.W.Frag} {mg : Str → Option Value} {base : Heap} {k : Nat} {x : Str} {ps : List Str} (h : CallOk P w K mg base k x ps φList) : CallOk P w K mg base k x ps φStream := by
  obtain ⟨⟨fd, F, lk, b⟩, kp, gl⟩ := h
  exact ⟨⟨fd, stream_close F, lk, b⟩, kp, gl⟩
end PL

set_option Elab.async false
set_option linter.all false
set_option autoImplicit false
set_option maxRecDepth 100000
set_option maxHeartbeats 2000000
/-! Texts: order, slices, walks, times; in; turned lists. -/
namespace PL
open PySem PySem.Spec PyProof.Rows L2
open Evl (Ex)
section
variable {X : Cx} {W : WX} {Ξ : Xi} {tg a b : Expr} {pos p : Pos}
/-- x in the order of texts -/
def ltS (x y : Str) : Bool := decide (x.cps.toList < y.cps.toList)
theorem op_le_str : OpR X (compareOp .LtE) (fun x y H Q => ∃ i j, x = .str i ∧ y = .str j ∧ Q (.bl (!ltS j i)) H) := by
  intro pins s σ H x y v u Q I rx ry h
  obtain ⟨i, j, rfl, rfl, q⟩ := h
  obtain ⟨t, rfl⟩ := rx
  obtain ⟨t', rfl⟩ := ry
  exact PySem.P.le_str (fin_bl I q rfl)
def oLeA : OP2
  | .int i, .int j, Q => Q (.bl (decide (i ≤ j)))
  | .str x, .str y, Q => Q (.bl (!ltS y x))
  | _, _, _ => False
theorem oy_leA : OpY X (compareOp .LtE) oLeA := by
  refine ⟨_, op_le.or op_le_str, fun F Hs σ H ε v w d1 d2 Q' Q R r1 r2 q k => ?_⟩
  unfold oLeA at q
  split at q
  · exact .inl ⟨_, _, r1.int', r2.int', k _ H Hs _ (Evl.Ex.refl _) R (.bl _) q⟩
  · exact .inr ⟨_, _, r1.str', r2.str', k _ H Hs _ (Evl.Ex.refl _) R (.bl _) q⟩
  · exact q.elim
/-- ord -/
def oOrd : OPC
  | [.str x], Q => gd (x.length = 1) (Q (.int (x.cps.getD 0 0 : Nat)))
  | _, _ => False
theorem cy_ord : CallY X (.builtin "ord") oOrd := by
  refine ⟨_, call_ord, fun F Hs σ H ε vs ds Q' Q R r q k => ?_⟩
  unfold oOrd at q
  split at q
  · obtain ⟨v, rfl, rv⟩ := r.one
    have q := gd_elim q
    exact ⟨_, by rw [rv.str'], q.1, k _ H Hs _ (Evl.Ex.refl _) R (.int _) q.2⟩
  · exact q.elim
/-- the signs of a text -/
def signsD (x : Str) : List D := x.cps.toList.map fun c => D.str ⟨#[c]⟩
theorem signsD_len {x : Str} : (signsD x).length = x.cps.size := by unfold signsD; rw [List.length_map, Array.length_toList]
theorem seqs_str {K : PySem.W.Frag} {Hs : Hp} {x : Str} : Seqs K Hs (Its x) (signsD x) where
  go := fun i H e hi => by rw [signsD_len] at hi; exact hi
  stop := fun i H e hi => by rw [signsD_len] at hi; exact hi
  yld := fun i F Hc σ H ε z H' e R hi y => by
    rw [signsD_len] at hi
    obtain ⟨rfl, c, hc, rfl⟩ := y
    refine ⟨Hc, .str ⟨#[c]⟩, Evl.Ex.refl _, R, ?_, .str _⟩
    unfold signsD
    rw [List.getElem?_map, Array.getElem?_toList, hc] <;> rfl
def asS (Q : Str → Prop) : D → Prop
  | .str x => Q x
  | _ => False
theorem asS_elim {d : D} {Q : Str → Prop} (h : asS Q d) : ∃ x, d = .str x ∧ Q x := by
  cases d with
  | str x => exact ⟨x, rfl, h⟩
  | _ => exact h.elim
/-- for sign in a text -/
def yiStr (r : PTE) : PTN := fun ε Q => r ε fun t ε' => res ε' t (asS fun x => Q (signsD x) ε')
theorem yi_str {r : PTE} (h : YE X W Ξ a r) : YI X W Ξ tg a (yiStr r) := by
  obtain ⟨t, p, k⟩ := h.ex
  refine ⟨_, pi_str p, fun F Hs σ H ε Q' R' R L q kk => k F Hs σ H ε _ _ R L q fun v H1 Hs1 t ε1 e1 R1 p1 q1 => ?_⟩
  obtain ⟨d, rv, q2⟩ := R1.res p1 q1
  obtain ⟨x, rfl, q2⟩ := asS_elim q2
  exact ⟨x, rv.str', kk _ H1 Hs1 _ ε1 e1 R1 seqs_str q2⟩
/-- x[a:b], a text -/
def ySlS (ra : PTE) (rl rh : PTO) : PTE := fun ε Q => ra ε fun t ε1 => rl ε1 fun lo ε2 => rh ε2 fun hi ε3 => res ε3 t (asS fun x => gd (x.length ≤ 16777216) (Q (.d (.str (cutS x lo hi))) ε3))
theorem ye_slS {lo hi : Option Expr} {p2 : Pos} {ra : PTE} {rl rh : PTO} (ha : YE X W Ξ a ra) (hl : YO X W Ξ lo rl) (hh : YO X W Ξ hi rh) : YE X W Ξ (.Subscript a (.Slice lo hi none p2) pos) (ySlS ra rl rh) := by
  obtain ⟨ta, pa, ka⟩ := ha.ex
  obtain ⟨tl, pl, kl⟩ := hl.ex
  obtain ⟨th, ph, kh⟩ := hh.ex
  refine ⟨_, pe_slice sl_str pa pl ph, fun F Hs σ H ε Q' Q R L q k => ?_⟩
  refine ka F Hs σ H ε _ _ R L q fun v H1 Hs1 t1 ε1 e1 R1 p1 q1 => ?_
  refine kl F Hs1 σ H1 ε1 _ _ R1 (L.mono e1) q1 fun l H2 Hs2 ε2 e2 R2 q2 => ?_
  refine kh F Hs2 σ H2 ε2 _ _ R2 (L.mono (e1.trans e2)) q2 fun h H3 Hs3 ε3 e3 R3 q3 => ?_
  obtain ⟨d, v1, q4⟩ := R3.res (p1.mono (e2.trans e3)) q3
  obtain ⟨x, rfl, q4⟩ := asS_elim q4
  have q4 := gd_elim q4
  exact ⟨x, v1.str', line_le q4.1, k _ H3 Hs3 _ ε3 ((e1.trans e2).trans e3) R3 (show RepT X.K Hs3 σ (.str (cutS x l h)) (.d (.str (cutS x l h))) from Rep.str _) q4.2⟩
/-- xs[::-1], a list -/
def ynRev (ra : PTE) : PTN := fun ε Q => ra ε fun t ε1 => res ε1 t (asL fun xs => Q xs.reverse ε1)
theorem Reps.rev {K : PySem.W.Frag} {H : Hp} : ∀ {vs : List V} {ds : List D}, Reps K H vs ds → Reps K H vs.reverse ds.reverse
  | _, _, .nil => .nil
  | _, _, .cons h t => by
    rw [List.reverse_cons, List.reverse_cons]
    exact (Reps.rev t).append (.cons h .nil)
theorem yn_rev {k : Nat} {p1 p2 p3 : Pos} {ra : PTE} (ha : YE X W Ξ a ra) : YN X W Ξ (.Subscript a (.Slice none none (some (.UnaryOp .USub (.Constant (.int 1) k p1) p2)) p3) pos) (ynRev ra) := by
  obtain ⟨ta, pa, ka⟩ := ha.ex
  refine ⟨_, pe_revL pa, fun F Hs σ H ε Q' Q R L q k => ?_⟩
  refine ka F Hs σ H ε _ _ R L q fun v H1 Hs1 t1 ε1 e1 R1 p1 q1 => ?_
  obtain ⟨d, v1, q4⟩ := R1.res p1 q1
  obtain ⟨xs, rfl, q4⟩ := asL_elim q4
  obtain ⟨a, vs, g1, h1, p1⟩ := v1.lst' R1.ex
  refine ⟨a, vs, g1, SqL.of h1, fun p hp => ?_⟩
  obtain ⟨n1, n2, n3⟩ := R1.nobody hp
  exact k p _ Hs1 _ _ ε1 e1 (R1.lay hp) upd_same n1 n2 n3 p1.rev q4
/-- text times a number -/
def repS (x : Str) (n : Nat) : Str := ⟨(List.replicate n x.cps.toList).flatten.toArray⟩
theorem foldl_repA (l : List Nat) : ∀ (n : Nat) (acc : Array Nat), (List.replicate n l.toArray).foldl (· ++ ·) acc = acc ++ (List.replicate n l).flatten.toArray
  | 0, acc => by simp
  | n + 1, acc => by
    rw [List.replicate_succ, List.foldl_cons, foldl_repA l n, List.replicate_succ, List.flatten_cons]
    simp
theorem repS_len {x : Str} {n : Nat} : (repS x n).length = x.length * n := by
  show ((List.replicate n x.cps.toList).flatten.toArray).size = x.cps.size * n
  rw [List.size_toArray, List.length_flatten, List.map_replicate, List.sum_replicate_nat, Array.length_toList, Nat.mul_comm]
theorem op_mul_str : OpR X (binaryOp .Mult) (fun x y H Q => ∃ z n, x = .str z ∧ y = .int n ∧ -(2 ^ 63) ≤ n ∧ n < 2 ^ 63 ∧ z.length * n.toNat ≤ sizeLine ∧ Q (.str (repS z n.toNat)) H) := by
  intro pins s σ H x y v u Q I rx ry h
  obtain ⟨z, n, rfl, rfl, h1, h2, hz, q⟩ := h
  obtain ⟨t, rfl⟩ := rx
  obtain ⟨t', rfl⟩ := ry
  have hs : sizeLine = 16777216 := sizeLine_eq
  have big : ¬ n < 1 → ((z.length : Int) * n ≤ 16777216) := fun h0 => by
    have e : n = ((n.toNat : Nat) : Int) := by omega
    rw [e]
    have : ((z.length * n.toNat : Nat) : Int) ≤ 16777216 := by omega
    rw [Int.natCast_mul] at this
    exact this
  refine PySem.P.mul_str ?_ (fun h0 _ => ?_) (fun h0 _ => ?_) ?_
  · rw [decide_eq_false (by omega), decide_eq_false (by omega)]
    rfl
  · have := big h0
    have hn : 0 < n := by omega
    have h3 : (z.length : Int) ≤ (2 ^ 63 - 1) / n := (Int.le_ediv_iff_mul_le hn).mpr (Int.le_trans this (by decide))
    omega
  · show decide (z.length * n.toNat > sizeLine) = false
    exact decide_eq_false (by omega)
  · by_cases h0 : n < 1
    · rw [if_pos h0]
      have e : repS z n.toNat = Str.empty := by
        have : n.toNat = 0 := by omega
        rw [this]
        rfl
      rw [e] at q
      exact ⟨by decide, .str Str.empty, H, I.tok _, ⟨_, rfl⟩, q⟩
    · rw [if_neg h0]
      by_cases h4 : (n == 1 || z.length == 0) = true
      · rw [if_pos h4]
        have e : repS z n.toNat = z := by
          rcases Bool.or_eq_true_iff.mp h4 with h5 | h5
          · have : n = 1 := by simpa using h5
            subst this
            obtain ⟨z⟩ := z
            show (⟨([z.toList].flatten).toArray⟩ : Str) = ⟨z⟩
            simp
          · have h6 : z.length = 0 := by simpa using h5
            obtain ⟨z⟩ := z
            have h7 : z = #[] := Array.eq_empty_of_size_eq_zero h6
            subst h7
            show (⟨((List.replicate n.toNat []).flatten).toArray⟩ : Str) = ⟨#[]⟩
            simp
        rw [e] at q
        exact ⟨.str z, H, I, ⟨_, rfl⟩, q⟩
      · rw [if_neg h4]
        have e : (⟨(List.replicate n.toNat z.cps).foldl (· ++ ·) #[]⟩ : Str) = repS z n.toNat := by
          have := foldl_repA z.cps.toList n.toNat #[]
          rw [Array.toArray_toList] at this
          rw [this]
          simp [repS]
        rw [e]
        exact ⟨by rw [repS_len]; exact hz, .str (repS z n.toNat), H, I.tok _, ⟨_, rfl⟩, q⟩
def oMulA : OP2
  | .int i, .int j, Q => gd ((-18446744073709551616 < i ∧ i < 18446744073709551616) ∨ (-18446744073709551616 < j ∧ j < 18446744073709551616)) (Q (.int (i * j)))
  | .lst xs, .int k, Q => gd (smallB k = true ∧ xs.length * k.toNat ≤ 16777216) (Q (.lst (List.replicate k.toNat xs).flatten))
  | .str x, .int k, Q => gd (smallB k = true ∧ x.length * k.toNat ≤ 16777216) (Q (.str (repS x k.toNat)))
  | _, _, _ => False
theorem oy_mulA : OpY X (binaryOp .Mult) oMulA := by
  refine ⟨_, op_mul.or (op_rep.or op_mul_str), fun F Hs σ H ε v w d1 d2 Q' Q R r1 r2 q k => ?_⟩
  unfold oMulA at q
  split at q
  · have q := gd_elim q
    refine .inl ⟨_, _, r1.int', r2.int', ?_, k _ H Hs _ (Evl.Ex.refl _) R (.int _) q.2⟩
    exact q.1
  · have q := gd_elim q
    obtain ⟨a, vs, e1, h1, p1⟩ := r1.lst' R.ex
    obtain ⟨s1, s2⟩ := small_of q.1.1
    refine .inr (.inl ⟨a, _, vs, e1, r2.int', h1, by omega, by omega, by rw [p1.len]; exact line_le q.1.2, fun p hp => ?_⟩)
    obtain ⟨R3, e3⟩ := R.new (o := .lst (List.replicate (Int.toNat _) vs).flatten) hp
    exact k (.ref p) _ _ _ e3 R3 (.lst upd_same ((p1.rep _).mono e3)) q.2
  · have q := gd_elim q
    obtain ⟨s1, s2⟩ := small_of q.1.1
    exact .inr (.inr ⟨_, _, r1.str', r2.int', by omega, by omega, line_le q.1.2, k _ H Hs _ (Evl.Ex.refl _) R (.str _) q.2⟩)
  · exact q.elim
/-! ### in a list, a tuple of flat items -/
def flatD : D → Bool
  | .non => true
  | .bl _ => true
  | .int _ => true
  | .str _ => true
  | _ => false
def eqF : D → D → Bool
  | .non, .non => true
  | .bl a, .bl b => a == b
  | .bl a, .int b => (if a then 1 else 0) == b
  | .int a, .bl b => a == (if b then 1 else 0)
  | .int a, .int b => a == b
  | .str a, .str b => a == b
  | _, _ => false
def inF (x : D) (ys : List D) : Bool := ys.any fun y => eqF y x
def flatAll : List D → Bool
  | [] => true
  | d :: ds => match flatD d with
    | true => flatAll ds
    | false => false
def oIn (neg : Bool) : OP2 := fun x y Q => match y with
  | .lst ys => gd (flatD x = true ∧ flatAll ys = true) (Q (.bl (match neg with | true => !inF x ys | false => inF x ys)))
  | .tup ys => gd (flatD x = true ∧ flatAll ys = true) (Q (.bl (match neg with | true => !inF x ys | false => inF x ys)))
  | _ => False
theorem flat_rep {K : PySem.W.Frag} {H : Hp} {v : V} {d : D} (r : Rep K H v d) (f : flatD d = true) : flatV v = true ∧ ∀ w e, Rep K H w e → flatD e = true → eqV v w = eqF d e := by
  cases r <;> first
    | (cases f; done)
    | (refine ⟨rfl, fun w e r2 f2 => ?_⟩
       cases r2 <;> first | (cases f2; done) | rfl)
theorem flat_all {K : PySem.W.Frag} {H : Hp} : ∀ {vs : List V} {ds : List D}, Reps K H vs ds → flatAll ds = true → vs.all flatV = true ∧ ∀ w e, Rep K H w e → flatD e = true → inV w vs = inF e ds
  | _, _, .nil, _ => ⟨rfl, fun _ _ _ _ => rfl⟩
  | _, _, .cons (d := d) (ds := ds) h t, f => by
    have f1 : flatD d = true ∧ flatAll ds = true := by
      unfold flatAll at f
      split at f
      · rename_i e
        exact ⟨e, f⟩
      · cases f
    obtain ⟨a1, a2⟩ := flat_rep h f1.1
    obtain ⟨b1, b2⟩ := flat_all t f1.2
    refine ⟨by rw [List.all_cons, a1, b1]; rfl, fun w e r2 f2 => ?_⟩
    show ((_ :: _ : List V).any _) = ((_ :: _ : List D).any _)
    rw [List.any_cons, List.any_cons, a2 w e r2 f2]
    have := b2 w e r2 f2
    unfold inV inF at this
    rw [this]
theorem oy_in_core {neg : Bool} {op : CmpOp} (h : OpR X (compareOp op) (rIn X.K neg)) : OpY X (compareOp op) (oIn neg) := by
  refine ⟨_, h, fun F Hs σ H ε v w d1 d2 Q' Q R r1 r2 q k => ?_⟩
  unfold oIn at q
  split at q
  · have q := gd_elim q
    obtain ⟨a, vs, e1, h1, p1⟩ := r2.lst' R.ex
    have r1' : Rep X.K Hs v d1 := by
      cases d1 <;> first | (cases q.1.1; done) | (first | (rw [r1.int']; exact .int _) | (rw [r1.str']; exact .str _) | (rw [r1.bl']; exact .bl _) | (rw [r1.non']; exact .non))
    obtain ⟨g1, g2⟩ := flat_all p1 q.1.2
    obtain ⟨g3, _⟩ := flat_rep r1' q.1.1
    refine ⟨a, vs, e1, .inl (SqL.of h1), g3, g1, ?_⟩
    rw [g2 v d1 r1' q.1.1]
    cases neg
    · exact k _ H Hs _ (Evl.Ex.refl _) R (.bl _) q.2
    · exact k _ H Hs _ (Evl.Ex.refl _) R (.bl _) q.2
  · have q := gd_elim q
    obtain ⟨a, vs, e1, h1, p1⟩ := r2.tup' R.ex
    have r1' : Rep X.K Hs v d1 := by
      cases d1 <;> first | (cases q.1.1; done) | (first | (rw [r1.int']; exact .int _) | (rw [r1.str']; exact .str _) | (rw [r1.bl']; exact .bl _) | (rw [r1.non']; exact .non))
    obtain ⟨g1, g2⟩ := flat_all p1 q.1.2
    obtain ⟨g3, _⟩ := flat_rep r1' q.1.1
    refine ⟨a, vs, e1, .inr h1, g3, g1, ?_⟩
    rw [g2 v d1 r1' q.1.1]
    cases neg
    · exact k _ H Hs _ (Evl.Ex.refl _) R (.bl _) q.2
    · exact k _ H Hs _ (Evl.Ex.refl _) R (.bl _) q.2
  · exact q.elim
theorem oy_in : OpY X (compareOp .In) (oIn false) := oy_in_core op_in_seq
theorem oy_notin : OpY X (compareOp .NotIn) (oIn true) := oy_in_core op_notIn_seq
/-! ### a, b, c = x, y, z: data -/
def ysPar3 (i j l : Nat) (rs : PTL) : PTS := fun Δ ε => rs ε fun ts ε1 => outs ε1 ts fun ds ε2 => match ds with
  | [d1, d2, d3] => Δ.nx (((ε2.set i (some (.v d1))).set j (some (.v d2))).set l (some (.v d3)))
  | _ => False
theorem ys_par3 (i j l : Nat) {x y z : Str} {a b c : Expr} {rs : PTL} {px py pz pt : Pos} {kt k2 : Nat} {pt2 : Pos} (hc : X.calm = true) (hN : X.N.Nodup) (hi : X.N[i]? = some x) (hj : X.N[j]? = some y) (hl : X.N[l]? = some z) (hij : i ≠ j) (hil : i ≠ l) (hjl : j ≠ l)
    (hx : X.env.scope.names.lookup x = some .local) (hy : X.env.scope.names.lookup y = some .local) (hz : X.env.scope.names.lookup z = some .local) (ha : YL X W Ξ [a, b, c] rs)
    (hw : swappedStores [.Tuple [.Name x px, .Name y py, .Name z pz] kt pt] (.Tuple [a, b, c] k2 pt2) X.env = pure (some [x, y, z]) := by rfl)
    (hs : swapsWithSole [.Tuple [.Name x px, .Name y py, .Name z pz] kt pt] (.Tuple [a, b, c] k2 pt2) pos.line X.env = pure false := by rfl) :
    YS X W Ξ (.Assign [.Tuple [.Name x px, .Name y py, .Name z pz] kt pt] (.Tuple [a, b, c] k2 pt2) pos) (ysPar3 i j l rs) := by
  obtain ⟨ta, pa, ka⟩ := ha.ex
  refine ⟨_, ps_par3 hc hN hi hj hl hij hil hjl hx hy hz pa hw hs, fun F Hs σ H ε Δ Dd R L q kk => ?_⟩
  refine ka F Hs σ H ε _ _ R L q fun vs H1 Hs1 ts ε1 e1 R1 p1 q1 => ?_
  obtain ⟨ds, ε2, Hs2, e2, R2, rv, q2⟩ := R1.outs p1 q1
  split at q2
  · cases rv with
    | cons r1 rv =>
      cases rv with
      | cons r2 rv =>
        cases rv with
        | cons r3 rv =>
          cases rv
          exact ⟨_, _, _, rfl, kk.nx _ H1 Hs2 _ (e1.trans e2) (((R2.store r1 i).store r2 j).store r3 l) q2⟩
  · exact q2.elim
end
end PL

set_option Elab.async false
set_option linter.all false
set_option autoImplicit false
set_option maxRecDepth 100000
set_option maxHeartbeats 1000000
/-! Texts as lists of signs; what two lists have alike; [f(x) for x in xs]. -/
namespace PL
open PySem PySem.Spec PyProof.Rows L2
/-- a text of signs -/
abbrev S0 (l : List Nat) : Str := ⟨⟨l⟩⟩
theorem str_eta (x : Str) : x = S0 x.cps.toList := rfl
theorem dec_sign {c d : Nat} : decide (S0 [c] = S0 [d]) = decide (c = d) := by
  by_cases h : c = d
  · subst h; rw [decide_eq_true rfl, decide_eq_true rfl]
  · rw [decide_eq_false h, decide_eq_false]
    intro z
    apply h
    have := congrArg (fun s : Str => s.cps.toList) z
    simpa using this
theorem lt_sign {c d : Nat} : ltS (S0 [c]) (S0 [d]) = decide (c < d) := by
  unfold ltS
  show decide ([c] < [d]) = decide (c < d)
  have e : [c] < [d] ↔ c < d := by
    rw [List.cons_lt_cons_iff]
    simp
  by_cases h : c < d
  · rw [decide_eq_true h, decide_eq_true (e.mpr h)]
  · rw [decide_eq_false h, decide_eq_false (fun z => h (e.mp z))]
theorem sIx_in {n d : Nat} {i : Int} (h0 : 0 ≤ i) (h1 : i ≤ n) : HT.sIx n d (some i) = i.toNat := by
  obtain ⟨j, rfl⟩ := Int.eq_ofNat_of_zero_le h0
  rw [HT.sIx_nat, Int.toNat_natCast]
  omega
theorem cut_from {l : List Nat} {i : Int} (h0 : 0 ≤ i) (h1 : i ≤ l.length) : cutS (S0 l) (some i) none = S0 (l.drop i.toNat) := by
  unfold cutS
  show (⟨((l.drop (HT.sIx l.length 0 (some i))).take (l.length - HT.sIx l.length 0 (some i))).toArray⟩ : Str) = _
  rw [sIx_in h0 h1, List.take_of_length_le (by rw [List.length_drop]; omega)]
theorem cut_to {l : List Nat} {i : Int} (h0 : 0 ≤ i) (h1 : i ≤ l.length) : cutS (S0 l) none (some i) = S0 (l.take i.toNat) := by
  unfold cutS
  show (⟨((l.drop 0).take (HT.sIx l.length l.length (some i) - 0)).toArray⟩ : Str) = _
  rw [sIx_in h0 h1]
  rfl
theorem cut_mid {l : List Nat} {i j : Int} (h0 : 0 ≤ i) (h1 : i ≤ j) (h2 : j ≤ l.length) : cutS (S0 l) (some i) (some j) = S0 ((l.drop i.toNat).take (j.toNat - i.toNat)) := by
  unfold cutS
  show (⟨((l.drop (HT.sIx l.length 0 (some i))).take (HT.sIx l.length l.length (some j) - HT.sIx l.length 0 (some i))).toArray⟩ : Str) = _
  rw [sIx_in h0 (by omega), sIx_in (by omega) h2]
/-- how far two lists are alike -/
def cpre : List Nat → List Nat → Nat
  | x :: xs, y :: ys => if x = y then cpre xs ys + 1 else 0
  | _, _ => 0
theorem cpre_le : ∀ xs ys : List Nat, cpre xs ys ≤ xs.length ∧ cpre xs ys ≤ ys.length
  | [], _ => ⟨Nat.zero_le _, Nat.zero_le _⟩
  | _ :: _, [] => ⟨Nat.zero_le _, Nat.zero_le _⟩
  | x :: xs, y :: ys => by
    unfold cpre
    split
    · obtain ⟨h1, h2⟩ := cpre_le xs ys
      exact ⟨Nat.succ_le_succ h1, Nat.succ_le_succ h2⟩
    · exact ⟨Nat.zero_le _, Nat.zero_le _⟩
/-- one more sign alike, or the end of it -/
theorem cpre_at : ∀ {xs ys : List Nat} {n : Nat} {a b : Nat}, n ≤ cpre xs ys → xs[n]? = some a → ys[n]? = some b → (a = b ∧ n + 1 ≤ cpre xs ys) ∨ (a ≠ b ∧ n = cpre xs ys)
  | [], _, n, a, b, _, h, _ => by simp at h
  | _ :: _, [], n, a, b, _, _, h => by simp at h
  | x :: xs, y :: ys, 0, a, b, hn, ha, hb => by
    obtain rfl : x = a := by simpa using ha
    obtain rfl : y = b := by simpa using hb
    unfold cpre
    split
    · rename_i e
      exact .inl ⟨e, by omega⟩
    · rename_i e
      exact .inr ⟨e, rfl⟩
  | x :: xs, y :: ys, n + 1, a, b, hn, ha, hb => by
    unfold cpre at hn ⊢
    split at hn
    · rename_i e
      rw [if_pos e]
      rcases cpre_at (xs := xs) (ys := ys) (n := n) (by omega) (by simpa using ha) (by simpa using hb) with ⟨h1, h2⟩ | ⟨h1, h2⟩
      · exact .inl ⟨h1, by omega⟩
      · exact .inr ⟨h1, by omega⟩
    · omega
theorem cpre_end {xs ys : List Nat} {n : Nat} (h : n ≤ cpre xs ys) (e : n = xs.length ∨ n = ys.length) : n = cpre xs ys := by
  have := cpre_le xs ys
  omega
/-- the sign at a place -/
theorem opt_sign {l : List Nat} {i : Int} {n : Nat} {c : Nat} {Q : Nat → Prop} (hi : i = (n : Int)) (h : l[n]? = some c) (k : Q c) : opt (atI l i) Q := by
  subst hi
  exact opt_of (atI_nat h) k
theorem get_of {l : List Nat} {n : Nat} (h : n < l.length) : ∃ c, l[n]? = some c := ⟨l[n], List.getElem?_eq_getElem h⟩
/-- [f(x) for x in xs] -/
theorem lc_map {g : PTG} {rt : PTT} {re : PTE} {vs : List Nat} {ε1 : PEnv} {Q : List D → PEnv → Prop} {ds : List D} (f : D → D)
    (st : ∀ (i : Nat) (d : D), ds[i]? = some d → ∀ (K : D → Prop) (N : Prop), K (f d) → g d (wipeE ε1 vs) fun ε2 => rt ε2 fun k ε3 => match k with
      | true => re ε3 fun t ε4 => out ε4 t fun y ε5 => wipeE ε5 vs = wipeE ε1 vs ∧ K y
      | false => wipeE ε3 vs = wipeE ε1 vs ∧ N) (fin : Q (ds.map f) ε1) : ∃ Wp : Nat → List D → Prop, Wp 0 [] ∧
  (∀ i d acc, i < ds.length → ds[i]? = some d → acc.length ≤ i → Wp i acc → g d (wipeE ε1 vs) fun ε2 => rt ε2 fun k ε3 => match k with
    | true => re ε3 fun t ε4 => out ε4 t fun y ε5 => wipeE ε5 vs = wipeE ε1 vs ∧ Wp (i + 1) (acc ++ [y])
    | false => wipeE ε3 vs = wipeE ε1 vs ∧ Wp (i + 1) acc) ∧ ∀ acc, acc.length ≤ ds.length → Wp ds.length acc → Q acc ε1 := by
  refine ⟨fun i acc => acc = (ds.take i).map f, rfl, fun i d acc hi hd hl w => ?_, fun acc hl w => ?_⟩
  · refine st i d hd (fun y => acc ++ [y] = (ds.take (i + 1)).map f) (acc = (ds.take (i + 1)).map f) ?_
    subst w
    have hd2 : ds[i] = d := by
      rw [List.getElem?_eq_getElem hi] at hd
      exact Option.some.inj hd
    rw [List.take_succ_eq_append_getElem hi, List.map_append, hd2]
    rfl
  · subst w
    rw [List.take_length]
    exact fin
theorem all_bls {xs : List Bool} {Q : D → Prop} (h : Q (.bl (xs.all id))) : oAll [.lst (xs.map D.bl)] Q := by
  show opt (toBls (xs.map D.bl)) _
  rw [toBls_map]
  exact h
end PL

set_option Elab.async false
set_option linter.all false
set_option autoImplicit false
set_option maxRecDepth 100000
set_option maxHeartbeats 1000000
/-! Small dicts of texts. -/
namespace PL
open PySem PySem.Spec PyProof.Rows L2
open Evl (Ex)
section
variable {X : Cx} {W : WX} {Ξ : Xi} {a b : Expr} {pos : Pos}
/-- {k1: v1, k2: v2}, of texts -/
def yDic2 (k1 v1 k2 v2 : Str) : PTE := fun ε Q => Q (.d (.dic [(.inr k1, .str v1), (.inr k2, .str v2)])) ε
theorem ye_dic2 {k1 v1 k2 v2 : Str} {j1 j2 j3 j4 : Nat} {p1 p2 p3 p4 : Pos} (hne : decide (k1 = k2) = false) : YE X W Ξ (.Dict [some (.Constant (.str k1) j1 p1), some (.Constant (.str k2) j2 p2)] [.Constant (.str v1) j3 p3, .Constant (.str v2) j4 p4] pos) (yDic2 k1 v1 k2 v2) := by
  have hk : k1 ≠ k2 := of_decide_eq_false hne
  refine ⟨_, pe_disp (pps_cons pe_str pe_str (pps_cons pe_str pe_str pps_nil)) rfl rfl (by simp) (by simp), fun F Hs σ H ε Q' Q R L q k => fun p hp => ?_⟩
  refine ⟨upd_same, [(.inr k1, .str v1), (.inr k2, .str v2)], rfl, by simp, ?_⟩
  have em : mergeK ([] : List (Key × V)) [(.inr k1, .str v1), (.inr k2, .str v2)] = [(.inr k1, .str v1), (.inr k2, .str v2)] := by
    show putK (putK ([] : List (Key × V)) (.inr k1) (.str v1)) (.inr k2) (.str v2) = _
    simp [putK, hk]
  rw [em, upd_upd]
  obtain ⟨R3, e3⟩ := R.new (o := .dK [(.inr k1, .str v1), (.inr k2, .str v2)]) hp
  exact k (.ref p) _ _ (.d (.dic [(.inr k1, .str v1), (.inr k2, .str v2)])) ε e3 R3 (show Rep X.K _ _ _ from .dic upd_same rfl (.cons (.str _) (.cons (.str _) .nil))) q
/-- d[x], x a text -/
def dGet : List (Key × D) → Str → Option D
  | [], _ => none
  | (.inr k, d) :: r, x => match decide (k = x) with
    | true => some d
    | false => dGet r x
  | (.inl _, _) :: r, x => dGet r x
theorem dGet_rep {K : PySem.W.Frag} {H : Hp} {x : Str} : ∀ {kvs : List (Key × V)} {ds : List (Key × D)} {d : D}, kvs.map (·.1) = ds.map (·.1) → Reps K H (kvs.map (·.2)) (ds.map (·.2)) → dGet ds x = some d → ∃ v, valV kvs (.inr x) = some v ∧ Rep K H v d
  | [], [], d, _, _, h => by cases h
  | [], _ :: _, _, e, _, _ => by cases e
  | _ :: _, [], _, e, _, _ => by cases e
  | (k, v) :: kvs, (k', d') :: ds, d, e, r, h => by
    rw [List.map_cons, List.map_cons, List.cons.injEq] at e
    obtain ⟨e1, e2⟩ := e
    replace e1 : k = k' := e1
    subst e1
    cases r with
    | cons r1 r2 =>
      cases k with
      | inl i =>
        obtain ⟨w, h1, h2⟩ := dGet_rep e2 r2 (show dGet ds x = some d from h)
        exact ⟨w, by rw [valV_neg (by simp)]; exact h1, h2⟩
      | inr k =>
        have h3 : (match decide (k = x) with | true => some d' | false => dGet ds x) = some d := h
        cases hd : decide (k = x) with
        | true =>
          rw [hd] at h3
          have hk := of_decide_eq_true hd
          subst hk
          cases h3
          exact ⟨v, valV_pos rfl, r1⟩
        | false =>
          rw [hd] at h3
          have hk := of_decide_eq_false hd
          obtain ⟨w, h1, h2⟩ := dGet_rep e2 r2 h3
          exact ⟨w, by rw [valV_neg (by simpa using hk)]; exact h1, h2⟩
def yIxD (ra rb : PTE) : PTE := fun ε Q => ra ε fun t1 ε1 => rb ε1 fun t2 ε2 => res ε2 t1 fun d1 => res ε2 t2 fun d2 => match d1, d2 with
  | .dic ds, .str x => opt (dGet ds x) fun d => Q (.d d) ε2
  | _, _ => False
theorem ye_ixD {ra rb : PTE} (hu : X.A.units + 64 < cLine) (ha : YE X W Ξ a ra) (hb : YE X W Ξ b rb) (hs : NoSl b := by intro _ _; rfl) : YE X W Ξ (.Subscript a b pos) (yIxD ra rb) := by
  obtain ⟨ta, pa, ka⟩ := ha.ex
  obtain ⟨tb, pb, kb⟩ := hb.ex
  refine ⟨_, pe_dget (by omega) pa pb hs, fun F Hs σ H ε Q' Q R L q k => ?_⟩
  refine ka F Hs σ H ε _ _ R L q fun v H1 Hs1 t1 ε1 e1 R1 p1 q1 => ?_
  refine kb F Hs1 σ H1 ε1 _ _ R1 (L.mono e1) q1 fun w H2 Hs2 t2 ε2 e2 R2 p2 q2 => ?_
  obtain ⟨d1, v1, q3⟩ := R2.res (p1.mono e2) q2
  obtain ⟨d2, v2, q4⟩ := R2.res p2 q3
  split at q4
  · obtain ⟨d, hd, q5⟩ := opt_elim q4
    obtain ⟨a, kvs, rfl, g1, g2, g3⟩ := v1.dic' R2.ex
    rw [v2.str']
    obtain ⟨v, h1, h2⟩ := dGet_rep g2 g3 hd
    refine ⟨a, v, rfl, ?_, k v H2 Hs2 (.d d) ε2 (e1.trans e2) R2 h2 q5⟩
    rw [← h1]
    exact DGet.k (k := .inr _) g1
  · exact q4.elim
/-- a, b, c = a new list, y, z -/
def ysPar3N (i j l : Nat) (rn : PTN) (rb rc : PTE) : PTS := fun Δ ε => rn ε fun ds ε1 => rb ε1 fun t2 ε2 => out ε2 t2 fun d2 ε3 => rc ε3 fun t3 ε4 => out ε4 t3 fun d3 ε5 =>
  Δ.nx (((ε5.set i (some (.o ds))).set j (some (.v d2))).set l (some (.v d3)))
theorem ys_par3N (i j l : Nat) {x y z : Str} {a b c : Expr} {rn : PTN} {rb rc : PTE} {px py pz pt : Pos} {kt k2 : Nat} {pt2 : Pos} (hc : X.calm = true) (hN : X.N.Nodup) (hi : X.N[i]? = some x) (hj : X.N[j]? = some y) (hl : X.N[l]? = some z) (hij : i ≠ j) (hil : i ≠ l) (hjl : j ≠ l)
    (hx : X.env.scope.names.lookup x = some .local) (hy : X.env.scope.names.lookup y = some .local) (hz : X.env.scope.names.lookup z = some .local) (ha : YN X W Ξ a rn) (hb : YE X W Ξ b rb) (hcc : YE X W Ξ c rc)
    (hst : starEach [a, b, c] X.env = (false, eval a X.env) :: starEach [b, c] X.env := by rfl) (hst2 : starEach [b, c] X.env = (false, eval b X.env) :: starEach [c] X.env := by rfl) (hst3 : starEach [c] X.env = (false, eval c X.env) :: starEach [] X.env := by rfl)
    (hw : swappedStores [.Tuple [.Name x px, .Name y py, .Name z pz] kt pt] (.Tuple [a, b, c] k2 pt2) X.env = pure (some [x, y, z]) := by rfl)
    (hs : swapsWithSole [.Tuple [.Name x px, .Name y py, .Name z pz] kt pt] (.Tuple [a, b, c] k2 pt2) pos.line X.env = pure false := by rfl) :
    YS X W Ξ (.Assign [.Tuple [.Name x px, .Name y py, .Name z pz] kt pt] (.Tuple [a, b, c] k2 pt2) pos) (ysPar3N i j l rn rb rc) := by
  obtain ⟨ta, pa, ka⟩ := ha.ex
  obtain ⟨tb, pb, kb⟩ := hb.ex
  obtain ⟨tc, pc, kc⟩ := hcc.ex
  refine ⟨_, ps_par3 hc hN hi hj hl hij hil hjl hx hy hz (pa_cons pa (pa_cons pb (pa_cons pc pa_nil hst3) hst2) hst) hw hs, fun F Hs σ H ε Δ Dd R L q kk => ?_⟩
  refine ka F Hs σ H ε _ _ R L q fun p H1 Hs1 vs ds ε1 e1 R1 g1 g2 g3 g4 rs q1 => ?_
  have R1' := R1.lend g1 g2 g4
  have L' : Lk X.K (upd F p (.lst vs)) Hs1 W Ξ := fun c σ' H' Hs' ε' xc e' R' => L c σ' H' Hs' ε' xc (e1.trans e') (R'.back g3).1
  refine kb _ Hs1 σ H1 ε1 _ _ R1' L' q1 fun w2 H2 Hs2 t2 ε2 e2 R2 p2 q2 => ?_
  obtain ⟨d2, ε3, Hs3, e3, R3, r3, q3⟩ := R2.out p2 q2
  refine kc _ Hs3 σ H2 ε3 _ _ R3 (L'.mono (e2.trans e3)) q3 fun w3 H4 Hs4 t3 ε4 e4 R4 p4 q4 => ?_
  obtain ⟨d3, ε5, Hs5, e5, R5, r5, q5⟩ := R4.out p4 q4
  refine ⟨.ref p, w2, w3, rfl, ?_⟩
  obtain ⟨R5', b1, b2, b3⟩ := R5.back g3
  have R6 := storeO_of R5' i b1 b2 g3 b3 (rs.mono (((e2.trans e3).trans e4).trans e5))
  exact kk.nx _ H4 Hs5 _ ((((e1.trans e2).trans e3).trans e4).trans e5) ((R6.store (r3.mono (e4.trans e5)) j).store r5 l) q5
/-- x[a:b], x a tuple -/
def asTp (Q : List D → Prop) : D → Prop
  | .tup xs => Q xs
  | _ => False
theorem asTp_elim {d : D} {Q : List D → Prop} (h : asTp Q d) : ∃ i, d = .tup i ∧ Q i := by
  cases d with
  | tup i => exact ⟨i, rfl, h⟩
  | _ => exact h.elim
def ySlT (ra : PTE) (rl rh : PTO) : PTE := fun ε Q => ra ε fun t ε1 => rl ε1 fun lo ε2 => rh ε2 fun hi ε3 => res ε3 t (asTp fun xs => gd (¬ (HT.sIx xs.length 0 lo = 0 ∧ HT.sIx xs.length xs.length hi = xs.length)) (Q (.d (.tup (cutD xs lo hi))) ε3))
theorem ye_slT {lo hi : Option Expr} {p2 : Pos} {ra : PTE} {rl rh : PTO} (ha : YE X W Ξ a ra) (hl : YO X W Ξ lo rl) (hh : YO X W Ξ hi rh) : YE X W Ξ (.Subscript a (.Slice lo hi none p2) pos) (ySlT ra rl rh) := by
  obtain ⟨ta, pa, ka⟩ := ha.ex
  obtain ⟨tl, pl, kl⟩ := hl.ex
  obtain ⟨th, ph, kh⟩ := hh.ex
  refine ⟨_, pe_slice sl_tup pa pl ph, fun F Hs σ H ε Q' Q R L q k => ?_⟩
  refine ka F Hs σ H ε _ _ R L q fun v H1 Hs1 t1 ε1 e1 R1 p1 q1 => ?_
  refine kl F Hs1 σ H1 ε1 _ _ R1 (L.mono e1) q1 fun l H2 Hs2 ε2 e2 R2 q2 => ?_
  refine kh F Hs2 σ H2 ε2 _ _ R2 (L.mono (e1.trans e2)) q2 fun h H3 Hs3 ε3 e3 R3 q3 => ?_
  obtain ⟨d, v1, q4⟩ := R3.res (p1.mono (e2.trans e3)) q3
  obtain ⟨xs, rfl, q4⟩ := asTp_elim q4
  obtain ⟨a, vs, g1, h1, p1⟩ := v1.tup' R3.ex
  obtain ⟨hn, q5⟩ := gd_elim q4
  refine ⟨a, vs, g1, h1, by rw [p1.len]; exact hn, fun p hp => ?_⟩
  obtain ⟨R4, e4⟩ := R3.new (o := .tup (cutV vs l h)) hp
  exact k (.ref p) _ _ (.d (.tup (cutD _ l h))) ε3 (((e1.trans e2).trans e3).trans e4) R4 (show Rep X.K _ _ (.tup _) from .tup (SqT.of upd_same) ((p1.cut l h).mono e4)) q5
end
/-- [f(x) for x in xs if p(x)] -/
theorem lc_filter {g : PTG} {rt : PTT} {re : PTE} {vs : List Nat} {ε1 : PEnv} {Q : List D → PEnv → Prop} {ds : List D} (f : D → D) (p : D → Bool)
    (st : ∀ (i : Nat) (d : D), ds[i]? = some d → ∀ (K : D → Prop) (N : Prop), (p d = true → K (f d)) → (p d = false → N) → g d (wipeE ε1 vs) fun ε2 => rt ε2 fun k ε3 => match k with
      | true => re ε3 fun t ε4 => out ε4 t fun y ε5 => wipeE ε5 vs = wipeE ε1 vs ∧ K y
      | false => wipeE ε3 vs = wipeE ε1 vs ∧ N) (fin : Q ((ds.filter p).map f) ε1) : ∃ Wp : Nat → List D → Prop, Wp 0 [] ∧
  (∀ i d acc, i < ds.length → ds[i]? = some d → acc.length ≤ i → Wp i acc → g d (wipeE ε1 vs) fun ε2 => rt ε2 fun k ε3 => match k with
    | true => re ε3 fun t ε4 => out ε4 t fun y ε5 => wipeE ε5 vs = wipeE ε1 vs ∧ Wp (i + 1) (acc ++ [y])
    | false => wipeE ε3 vs = wipeE ε1 vs ∧ Wp (i + 1) acc) ∧ ∀ acc, acc.length ≤ ds.length → Wp ds.length acc → Q acc ε1 := by
  refine ⟨fun i acc => acc = ((ds.take i).filter p).map f, rfl, fun i d acc hi hd hl w => ?_, fun acc hl w => ?_⟩
  · have hd2 : ds[i] = d := by
      rw [List.getElem?_eq_getElem hi] at hd
      exact Option.some.inj hd
    have ht : ds.take (i + 1) = ds.take i ++ [d] := by rw [List.take_succ_eq_append_getElem hi, hd2]
    refine st i d hd (fun y => acc ++ [y] = ((ds.take (i + 1)).filter p).map f) (acc = ((ds.take (i + 1)).filter p).map f) (fun h => ?_) fun h => ?_
    · subst w
      rw [ht, List.filter_append, List.map_append]
      simp [h]
    · subst w
      rw [ht, List.filter_append, List.map_append]
      simp [h]
  · subst w
    rw [List.take_length]
    exact fin
theorem gtup5 {i j k l m : Nat} {d1 d2 d3 d4 d5 : D} {ε : PEnv} {Q : PEnv → Prop} (h : Q (((((ε.set i (some (.v d1))).set j (some (.v d2))).set k (some (.v d3))).set l (some (.v d4))).set m (some (.v d5)))) : gTupY 5 [gN i, gN j, gN k, gN l, gN m] (.tup [d1, d2, d3, d4, d5]) ε Q := h
theorem eqv_pair {a b c d : Int} : PyData.eqv (D.py (.tup [.int a, .int b])) (D.py (.tup [.int c, .int d])) = (decide (a = c) && decide (b = d)) := by
  show ((a == c) && ((b == d) && true)) = _
  rw [Bool.and_true]
  rfl
end PL

set_option Elab.async false
set_option linter.all false
set_option autoImplicit false
set_option maxRecDepth 100000
set_option maxHeartbeats 1000000
/-! A list that a name owns is lent to a def. -/
namespace PL
open PySem PySem.Spec PyProof.Rows L2
open Evl (Ex)
mutual
/-- no list in it -/
def noLst : D → Bool
  | .non => true
  | .bl _ => true
  | .int _ => true
  | .str _ => true
  | .tup ds => noLsts ds
  | _ => false
def noLsts : List D → Bool
  | [] => true
  | d :: ds => noLst d && noLsts ds
end
/-- a heap without the object at p -/
def less (H : Hp) (p : Addr) : Hp := fun b => if b = p then none else H b
theorem less_same {H : Hp} {p : Addr} : less H p p = none := if_pos rfl
theorem less_ne {H : Hp} {p b : Addr} (h : b ≠ p) : less H p b = H b := if_neg h
theorem sqt_less {K : PySem.W.Frag} {H : Hp} {p a : Addr} {xs ys : List V} (hp : H p = some (.lst xs)) (s : SqT K H a ys) : SqT K (less H p) a ys := by
  rcases s with s | s
  · have ne : a ≠ p := by
      intro z
      subst z
      rcases s with s | ⟨o, s⟩ <;> (rw [hp] at s; cases s)
    left
    rcases s with s | ⟨o, s⟩
    · exact .inl (by rw [less_ne ne]; exact s)
    · exact .inr ⟨o, by rw [less_ne ne]; exact s⟩
  · exact .inr s
mutual
theorem rep_less {K : PySem.W.Frag} {H : Hp} {p : Addr} {xs : List V} (hp : H p = some (.lst xs)) : ∀ {v : V} {d : D}, Rep K H v d → noLst d = true → Rep K (less H p) v d
  | _, _, .non, _ => .non
  | _, _, .bl b, _ => .bl b
  | _, _, .int i, _ => .int i
  | _, _, .str x, _ => .str x
  | _, _, .lst _ _, h => by unfold noLst at h; cases h
  | _, _, .frl _ _, h => by unfold noLst at h; cases h
  | _, _, .tup (a := a) s r, h => by
    unfold noLst at h
    exact .tup (sqt_less hp s) (reps_less hp r h)
  | _, _, .dic _ _ _, h => by unfold noLst at h; cases h
  | _, _, .vl _, h => by unfold noLst at h; cases h
  | _, _, .pool _, h => by unfold noLst at h; cases h
  | _, _, .err _, h => by unfold noLst at h; cases h
theorem reps_less {K : PySem.W.Frag} {H : Hp} {p : Addr} {xs : List V} (hp : H p = some (.lst xs)) : ∀ {vs : List V} {ds : List D}, Reps K H vs ds → noLsts ds = true → Reps K (less H p) vs ds
  | _, _, .nil, _ => .nil
  | _, _, .cons h t, q => by
    unfold noLsts at q
    obtain ⟨q1, q2⟩ := Bool.and_eq_true_iff.mp q
    exact .cons (rep_less hp h q1) (reps_less hp t q2)
end
section
variable {K : PySem.W.Frag} {F Hs H Hs' H' : Hp} {σ : St} {ε : PEnv} {p : Addr} {vs : List V}
/-- what the callee sees of the caller's state: p stands still for the call -/
theorem lend_ex (R : RelS K F Hs σ H ε) (hH : H p = some (.lst vs)) (hp : Hs p = none) : Ex (upd Hs p (.lst vs)) H := fun b o e => by
  by_cases hb : b = p
  · subst hb
    rw [upd_same] at e
    cases e
    exact hH
  · rw [upd_ne hb] at e
    exact R.ex b o e
/-- behind the call: p is the name's own again -/
theorem lend_back (R : RelS K F Hs σ H ε) (hH : H p = some (.lst vs)) (hp : Hs p = none) (kp : Keeps (upd Hs p (.lst vs)) H Hs' H') : Keeps Hs H (less Hs' p) H' ∧ Hs' p = some (.lst vs) := by
  obtain ⟨k1, k2, k3⟩ := kp
  have hp' : Hs' p = some (.lst vs) := k1 p _ upd_same
  refine ⟨⟨fun b o e => ?_, fun b o e => ?_, fun b o e1 e2 => ?_⟩, hp'⟩
  · have ne : b ≠ p := fun z => by
      subst z
      rw [hp] at e
      cases e
    rw [less_ne ne]
    exact k1 b o (by rw [upd_ne ne]; exact e)
  · by_cases hb : b = p
    · subst hb
      rw [less_same] at e
      cases e
    · rw [less_ne hb] at e
      exact k2 b o e
  · by_cases hb : b = p
    · subst hb
      rw [hH] at e1
      cases e1
      exact ⟨k2 _ _ hp', less_same⟩
    · rw [less_ne hb]
      exact k3 b o e1 (by rw [upd_ne hb]; exact e2)
end
section
variable {X : Cx} {W : WX} {Ξ : Xi} {a : Expr} {es : List Expr} {pos : Pos}
/-- f(x, ..): x's own list is lent; what comes back holds no list -/
def yLend (φ : Spec) (Ξ : Xi) (i : Nat) (rs : PTL) : PTE := fun ε Q => match ε[i]? with
  | some (some (.o _)) => rs ε fun ts ε1 => outs ε1 ts fun ds ε2 => match ε2[i]? with
    | some (some (.o xs)) => φ (.lst xs :: ds) (fun d => noLst d = true ∧ Q (.d d) ε2) fun c => Ξ c ε2
    | _ => False
  | _ => False
theorem ye_lend {φ : Spec} {rs : PTL} {k i : Nat} {f : Addr} {fd : FuncData} {ps : List Str} {x y : Str} {p py : Pos} (Fn : FnOk X.prog X.w X.K X.mg X.base (L2.CX X.prog X.w) k f fd ps (pSp X.K φ)) (tk : Takes X W) (hr : Room k X.A) (hg : Gl X x)
    (hm : X.mg x = some (.ref f)) (hk : PySem.W.keepIn X.K (.ref f) = true) (hb : Binds X.K fd ps []) (h : YL X W Ξ es rs)
    (hN : X.N[i]? = some y) (hv : Vis X.env.scope y) (hd : (y == ("__debug__" : Str)) = false) (hcd : (y == ("__classdict__" : Str)) = false)
    (hdb : (x == ("__debug__" : Str)) = false := by decide)
    (he : starEach (.Name y py :: es) X.env = (false, eval (.Name y py) X.env) :: starEach es X.env := by rfl) (hpl : (backTo pos (starEach es X.env)).any (·.1) = false := by rfl) :
    YE X W Ξ (.Call (.Name x p) (.Name y py :: es) [] pos) (yLend φ Ξ i rs) := by
  obtain ⟨ts, pas, ks⟩ := h.ex
  refine ⟨_, pe_callS Fn hr hg hm hk hb (fun σ => passAt tk σ) (pa_cons (pe_var hN hv hd hcd) pas he) hdb he hpl, fun F Hs σ H ε Q' Q R L q k => ?_⟩
  unfold yLend at q
  split at q
  · rename_i e0
    obtain ⟨p0, vs0, s0, _⟩ := R.sl i _ e0
    refine ⟨_, s0, ks F Hs σ H ε _ _ R L q fun vs H1 Hs1 t1 ε1 e1 R1 p1 q1 => ?_⟩
    obtain ⟨ds, ε2, Hs2, e2, R2, rs, q2⟩ := R1.outs p1 q1
    split at q2
    · rename_i xs e3
      obtain ⟨p, ws, s1, g1, g2, g3, g4⟩ := R2.sl i _ e3
      have ep : p0 = p := by
        rw [s0] at s1
        exact V.ref.inj (Option.some.inj (Option.some.inj s1))
      subst ep
      have eu : Ex Hs2 (upd Hs2 p0 (.lst ws)) := ex_upd g1
      refine ⟨upd Hs2 p0 (.lst ws), .lst xs :: ds, _, _, lend_ex R2 g3 g1, .cons (.lst upd_same (g4.mono eu)) (rs.mono eu), q2, fun d qd v H' Hs' kp rv => ?_, fun c ec H' Hs' kp => ?_⟩
      · obtain ⟨kp2, hp'⟩ := lend_back R2 g3 g1 kp
        exact k v H' (less Hs' p0) (.d d) ε2 ((e1.trans e2).trans kp2.1) (R2.called kp2) (rep_less hp' rv qd.1) qd.2
      · obtain ⟨kp2, hp'⟩ := lend_back R2 g3 g1 kp
        exact L c σ H' (less Hs' p0) ε2 ec ((e1.trans e2).trans kp2.1) (R2.called kp2)
    · exact q2.elim
  · exact q.elim
theorem yeLend {φ : Spec} {rs : PTL} {k : Nat} {ps : List Str} {x y : Str} {p py : Pos} (i : Nat) (C : CallOk X.prog X.w X.K X.mg X.base k x ps φ) (tk : Takes X W) (hr : Room k X.A) (h : YL X W Ξ es rs) (hg : Gl X x := by rfl) (hN : X.N[i]? = some y := by rfl)
    (hv : Vis X.env.scope y := by first | exact Or.inl rfl | exact Or.inr (Or.inl rfl) | exact Or.inr (Or.inr rfl)) (hd : (y == ("__debug__" : Str)) = false := by decide) (hcd : (y == ("__classdict__" : Str)) = false := by decide) (hdb : (x == ("__debug__" : Str)) = false := by decide)
    (he : starEach (.Name y py :: es) X.env = (false, eval (.Name y py) X.env) :: starEach es X.env := by rfl) (hpl : (backTo pos (starEach es X.env)).any (·.1) = false := by rfl) :
    YE X W Ξ (.Call (.Name x p) (.Name y py :: es) [] pos) (yLend φ Ξ i rs) := by
  obtain ⟨⟨fd, F, _, b⟩, kp, gl⟩ := C
  exact ye_lend F tk hr hg gl kp (fun s us _ hl => by rw [List.append_nil] at hl ⊢; exact b s us hl) h hN hv hd hcd hdb he hpl
end
end PL

set_option Elab.async false
set_option linter.all false
set_option autoImplicit false
set_option maxRecDepth 100000
set_option maxHeartbeats 2000000
/-! Dicts that a name owns: looked into, changed. -/
namespace PL
open PySem PySem.Spec PyProof.Rows L2
open Evl (Ex)
/-- a datum that may be a key -/
def keyD (d : D) (Q : Key → Prop) : Prop := match d with
  | .int i => Q (.inl i)
  | .str x => Q (.inr x)
  | _ => False
theorem keyD_elim {d : D} {Q : Key → Prop} (h : keyD d Q) : ∃ k, Q k ∧ ∀ {K : PySem.W.Frag} {Hs H : Hp} {v : V}, RepV K Hs H v d → v = kV k := by
  cases d with
  | int i => exact ⟨.inl i, h, fun r => r.int'⟩
  | str x => exact ⟨.inr x, h, fun r => r.str'⟩
  | _ => exact h.elim
/-- what the table holds at k -/
def dVal : List (Key × D) → Key → Option D
  | [], _ => none
  | (k, d) :: r, j => match decide (k = j) with
    | true => some d
    | false => dVal r j
def dHas : List (Key × D) → Key → Bool
  | [], _ => false
  | (k, d) :: r, j => match decide (k = j) with
    | true => true
    | false => dHas r j
theorem dHas_val (j : Key) : ∀ ds : List (Key × D), dHas ds j = (dVal ds j).isSome
  | [] => rfl
  | (k, d) :: r => by
    unfold dHas dVal
    cases decide (k = j) with
    | true => rfl
    | false => exact dHas_val j r
def dMap : List (Key × D) → Key → D → List (Key × D)
  | [], _, _ => []
  | (k, d) :: r, j, y => (k, match decide (k = j) with
    | true => y
    | false => d) :: dMap r j y
/-- k : d, in its place or at the end -/
def dPut (ds : List (Key × D)) (k : Key) (d : D) : List (Key × D) := match dHas ds k with
  | true => dMap ds k d
  | false => ds ++ [(k, d)]
theorem dMap_val (j i : Key) (y : D) : ∀ ds : List (Key × D), dVal (dMap ds j y) i = if i = j then (match dVal ds i with
    | some _ => some y
    | none => none) else dVal ds i
  | [] => by show none = _; split <;> rfl
  | (k, d) :: r => by
    unfold dMap dVal
    by_cases h : k = i
    · rw [decide_eq_true h]
      subst h
      by_cases h2 : k = j
      · rw [decide_eq_true h2, if_pos h2]
      · rw [decide_eq_false h2, if_neg h2]
    · rw [decide_eq_false h]
      exact dMap_val j i y r
theorem dVal_snoc (j i : Key) (y : D) : ∀ ds : List (Key × D), dVal ds j = none → dVal (ds ++ [(j, y)]) i = if i = j then some y else dVal ds i
  | [], _ => by
    show (match decide (j = i) with | true => some y | false => none) = _
    by_cases h : i = j
    · rw [decide_eq_true h.symm, if_pos h]
    · rw [decide_eq_false (fun z => h z.symm), if_neg h]
      rfl
  | (k, d) :: r, hn => by
    rw [List.cons_append]
    unfold dVal at hn ⊢
    by_cases h2 : k = j
    · rw [decide_eq_true h2] at hn
      cases hn
    · rw [decide_eq_false h2] at hn
      by_cases h : k = i
      · rw [decide_eq_true h]
        subst h
        rw [if_neg h2]
      · rw [decide_eq_false h]
        exact dVal_snoc j i y r hn
theorem dVal_put (ds : List (Key × D)) (j i : Key) (y : D) : dVal (dPut ds j y) i = if i = j then some y else dVal ds i := by
  unfold dPut
  have hv := dHas_val j ds
  cases h : dHas ds j with
  | true =>
    rw [h] at hv
    show dVal (dMap ds j y) i = _
    rw [dMap_val]
    by_cases hi : i = j
    · rw [if_pos hi, if_pos hi, hi]
      cases e : dVal ds j with
      | none => rw [e] at hv; cases hv
      | some _ => rfl
    · rw [if_neg hi, if_neg hi]
  | false =>
    rw [h] at hv
    show dVal (ds ++ [(j, y)]) i = _
    exact dVal_snoc j i y ds (by cases e : dVal ds j with
      | none => rfl
      | some _ => rw [e] at hv; cases hv)
theorem dMap_len (j : Key) (y : D) : ∀ ds : List (Key × D), (dMap ds j y).length = ds.length
  | [] => rfl
  | _ :: r => by unfold dMap; rw [List.length_cons, List.length_cons, dMap_len j y r]
theorem dPut_len (ds : List (Key × D)) (j : Key) (y : D) : (dPut ds j y).length ≤ ds.length + 1 := by
  unfold dPut
  cases dHas ds j with
  | true => show (dMap ds j y).length ≤ _; rw [dMap_len]; omega
  | false => show (ds ++ [(j, y)]).length ≤ _; rw [List.length_append]; exact Nat.le_refl _
section
variable {K : PySem.W.Frag} {H : Hp}
theorem dVal_rep {k : Key} : ∀ {kvs : List (Key × V)} {ds : List (Key × D)}, kvs.map (·.1) = ds.map (·.1) → Reps K H (kvs.map (·.2)) (ds.map (·.2)) →
    (dVal ds k = none ∧ valV kvs k = none) ∨ ∃ d v, dVal ds k = some d ∧ valV kvs k = some v ∧ Rep K H v d
  | [], [], _, _ => .inl ⟨rfl, rfl⟩
  | [], _ :: _, e, _ => by cases e
  | _ :: _, [], e, _ => by cases e
  | (k', v) :: kvs, (k2, d) :: ds, e, r => by
    rw [List.map_cons, List.map_cons, List.cons.injEq] at e
    obtain ⟨e1, e2⟩ := e
    replace e1 : k' = k2 := e1
    subst e1
    cases r with
    | cons r1 r2 =>
      unfold dVal
      by_cases h : k' = k
      · rw [decide_eq_true h, valV_pos h]
        exact .inr ⟨d, v, rfl, rfl, r1⟩
      · rw [decide_eq_false h, valV_neg h]
        exact dVal_rep e2 r2
theorem dMap_rep {k : Key} {y : V} {yd : D} (ry : Rep K H y yd) : ∀ {kvs : List (Key × V)} {ds : List (Key × D)}, kvs.map (·.1) = ds.map (·.1) → Reps K H (kvs.map (·.2)) (ds.map (·.2)) →
    (kvs.map fun kv => if kv.1 = k then (kv.1, y) else kv).map (·.1) = (dMap ds k yd).map (·.1) ∧ Reps K H ((kvs.map fun kv => if kv.1 = k then (kv.1, y) else kv).map (·.2)) ((dMap ds k yd).map (·.2))
  | [], [], _, _ => ⟨rfl, .nil⟩
  | [], _ :: _, e, _ => by cases e
  | _ :: _, [], e, _ => by cases e
  | (k', v) :: kvs, (k2, d) :: ds, e, r => by
    rw [List.map_cons, List.map_cons, List.cons.injEq] at e
    obtain ⟨e1, e2⟩ := e
    replace e1 : k' = k2 := e1
    subst e1
    cases r with
    | cons r1 r2 =>
      obtain ⟨h1, h2⟩ := dMap_rep (k := k) ry e2 r2
      unfold dMap
      by_cases h : k' = k
      · rw [decide_eq_true h]
        simp only [List.map_cons, if_pos h]
        exact ⟨by rw [h1], .cons ry h2⟩
      · rw [decide_eq_false h]
        simp only [List.map_cons, if_neg h]
        exact ⟨by rw [h1], .cons r1 h2⟩
theorem dPut_rep {k : Key} {y : V} {yd : D} (ry : Rep K H y yd) {kvs : List (Key × V)} {ds : List (Key × D)} (e : kvs.map (·.1) = ds.map (·.1)) (r : Reps K H (kvs.map (·.2)) (ds.map (·.2))) :
    (putK kvs k y).map (·.1) = (dPut ds k yd).map (·.1) ∧ Reps K H ((putK kvs k y).map (·.2)) ((dPut ds k yd).map (·.2)) := by
  unfold putK dPut
  rw [valV_any, dHas_val]
  rcases dVal_rep (k := k) e r with ⟨h1, h2⟩ | ⟨d, v, h1, h2, _⟩
  · rw [h1, h2]
    show (kvs ++ [(k, y)]).map (·.1) = (ds ++ [(k, yd)]).map (·.1) ∧ Reps K H ((kvs ++ [(k, y)]).map (·.2)) ((ds ++ [(k, yd)]).map (·.2))
    rw [List.map_append, List.map_append, List.map_append, List.map_append, e]
    exact ⟨rfl, r.append (.cons ry .nil)⟩
  · rw [h1, h2]
    exact dMap_rep ry e r
end
section
variable {X : Cx} {W : WX} {Ξ : Xi} {a b c : Expr} {pos : Pos}
def asDic (d : D) (Q : List (Key × D) → Prop) : Prop := match d with
  | .dic ds => Q ds
  | _ => False
theorem asDic_elim {d : D} {Q : List (Key × D) → Prop} (h : asDic d Q) : ∃ ds, d = .dic ds ∧ Q ds := by
  cases d with
  | dic ds => exact ⟨ds, rfl, h⟩
  | _ => exact h.elim
/-- d[x] -/
def yGetD (ra rb : PTE) : PTE := fun ε Q => ra ε fun t1 ε1 => rb ε1 fun t2 ε2 => res ε2 t1 fun d1 => res ε2 t2 fun d2 => asDic d1 fun ds => keyD d2 fun k => opt (dVal ds k) fun d => Q (.d d) ε2
theorem ye_getD {ra rb : PTE} (hu : X.A.units + 64 < cLine) (ha : YE X W Ξ a ra) (hb : YE X W Ξ b rb) (hs : NoSl b := by intro _ _; rfl) : YE X W Ξ (.Subscript a b pos) (yGetD ra rb) := by
  obtain ⟨ta, pa, ka⟩ := ha.ex
  obtain ⟨tb, pb, kb⟩ := hb.ex
  refine ⟨_, pe_dget (by omega) pa pb hs, fun F Hs σ H ε Q' Q R L q k => ?_⟩
  refine ka F Hs σ H ε _ _ R L q fun v H1 Hs1 t1 ε1 e1 R1 p1 q1 => ?_
  refine kb F Hs1 σ H1 ε1 _ _ R1 (L.mono e1) q1 fun w H2 Hs2 t2 ε2 e2 R2 p2 q2 => ?_
  obtain ⟨d1, v1, q3⟩ := R2.res (p1.mono e2) q2
  obtain ⟨d2, v2, q4⟩ := R2.res p2 q3
  obtain ⟨ds, rfl, q5⟩ := asDic_elim q4
  obtain ⟨j, q6, hj⟩ := keyD_elim q5
  obtain ⟨d, hd, q7⟩ := opt_elim q6
  obtain ⟨a, kvs, rfl, g1, g2, g3⟩ := v1.dic' R2.ex
  rw [hj v2]
  rcases dVal_rep (k := j) g2 g3 with ⟨h1, _⟩ | ⟨d', v, h1, h2, h3⟩
  · rw [h1] at hd
    cases hd
  · rw [h1] at hd
    cases hd
    refine ⟨a, v, rfl, ?_, k v H2 Hs2 (.d d) ε2 (e1.trans e2) R2 h3 q7⟩
    rw [← h2]
    exact DGet.k g1
/-- x in d -/
def oInD (neg : Bool) : OP2 := fun d1 d2 Q => asDic d2 fun ds => keyD d1 fun k => Q (.bl (match neg with
  | true => !(dHas ds k)
  | false => dHas ds k))
theorem oy_inD (hu : X.A.units + 64 < cLine) : OpY X (compareOp .In) (oInD false) := by
  refine ⟨fun x y H Q => ∃ a o, y = .ref a ∧ DGet H a x o ∧ Q (.bl o.isSome) H, fun pins s σ H x y v u Q I rx ry h => ?_, fun F Hs σ H ε v w d1 d2 Q' Q R r1 r2 q k => ?_⟩
  · obtain ⟨a, o, rfl, g, q⟩ := h
    obtain rfl : u = Value.ref a := ry
    exact d_in (by omega) I g rx fun s' I' => ⟨.bl o.isSome, H, I', rfl, q⟩
  · obtain ⟨ds, rfl, q2⟩ := asDic_elim q
    obtain ⟨j, q3, hj⟩ := keyD_elim q2
    obtain ⟨a, kvs, rfl, g1, g2, g3⟩ := r2.dic' R.ex
    rw [hj r1]
    refine ⟨a, _, rfl, DGet.k g1, ?_⟩
    have e : (valV kvs j).isSome = dHas ds j := by
      rw [dHas_val]
      rcases dVal_rep (k := j) g2 g3 with ⟨h1, h2⟩ | ⟨d', v', h1, h2, h3⟩
      · rw [h1, h2] <;> rfl
      · rw [h1, h2] <;> rfl
    rw [e]
    exact k (.bl _) H Hs (.bl _) (Evl.Ex.refl _) R (.bl _) q3
theorem oy_notInD (hu : X.A.units + 64 < cLine) : OpY X (compareOp .NotIn) (oInD true) := by
  refine ⟨fun x y H Q => ∃ a o, y = .ref a ∧ DGet H a x o ∧ Q (.bl (!o.isSome)) H, fun pins s σ H x y v u Q I rx ry h => ?_, fun F Hs σ H ε v w d1 d2 Q' Q R r1 r2 q k => ?_⟩
  · obtain ⟨a, o, rfl, g, q⟩ := h
    obtain rfl : u = Value.ref a := ry
    exact d_notIn (by omega) I g rx fun s' I' => ⟨.bl (!o.isSome), H, I', rfl, q⟩
  · obtain ⟨ds, rfl, q2⟩ := asDic_elim q
    obtain ⟨j, q3, hj⟩ := keyD_elim q2
    obtain ⟨a, kvs, rfl, g1, g2, g3⟩ := r2.dic' R.ex
    rw [hj r1]
    refine ⟨a, _, rfl, DGet.k g1, ?_⟩
    have e : (valV kvs j).isSome = dHas ds j := by
      rw [dHas_val]
      rcases dVal_rep (k := j) g2 g3 with ⟨h1, h2⟩ | ⟨d', v', h1, h2, h3⟩
      · rw [h1, h2] <;> rfl
      · rw [h1, h2] <;> rfl
    rw [e]
    exact k (.bl _) H Hs (.bl _) (Evl.Ex.refl _) R (.bl _) q3
/-- d.get(x, z) -/
def yGet2 (ra rb rc : PTE) : PTE := fun ε Q => ra ε fun t1 ε1 => res ε1 t1 fun d0 => asDic d0 fun _ => rb ε1 fun t2 ε2 => rc ε2 fun t3 ε3 => PL.out ε3 t3 fun z ε4 => res ε4 t1 fun d1 => res ε4 t2 fun d2 => asDic d1 fun ds => keyD d2 fun k => Q (.d (match dVal ds k with
  | some d => d
  | none => z)) ε4
theorem ye_get2 {apos : Pos} {ra rb rc : PTE} (hu : X.A.units + 64 < cLine) (ha : YE X W Ξ a ra) (hb : YE X W Ξ b rb) (hc : YE X W Ξ c rc) (m : M2 X a "get" apos b c pos := by exact ⟨rfl, rfl, rfl, rfl⟩) : YE X W Ξ (.Call (.Attribute a "get" apos) [b, c] [] pos) (yGet2 ra rb rc) := by
  obtain ⟨ta, pa, ka⟩ := ha.ex
  obtain ⟨tb, pb, kb⟩ := hb.ex
  obtain ⟨tc, pc, kc⟩ := hc.ex
  refine ⟨_, pe_dget2 (by omega) pa pb pc m, fun F Hs σ H ε Q' Q R L q k => ?_⟩
  refine ka F Hs σ H ε _ _ R L q fun v H1 Hs1 t1 ε1 e1 R1 p1 q1 => ?_
  obtain ⟨d0, v0, q2⟩ := R1.res p1 q1
  obtain ⟨ds0, rfl, q2⟩ := asDic_elim q2
  obtain ⟨a0, kvs0, rfl, g0, _, _⟩ := v0.dic' R1.ex
  refine ⟨a0, rfl, .inl ⟨kvs0, .inl g0⟩, ?_⟩
  refine kb F Hs1 σ H1 ε1 _ _ R1 (L.mono e1) q2 fun w H2 Hs2 t2 ε2 e2 R2 p2 q3 => ?_
  refine kc F Hs2 σ H2 ε2 _ _ R2 (L.mono (e1.trans e2)) q3 fun x H3 Hs3 t3 ε3 e3 R3 p3 q4 => ?_
  obtain ⟨z, ε4, Hs4, e4, R4, rz, q5⟩ := R3.out p3 q4
  obtain ⟨d1, v1, q6⟩ := R4.res (p1.mono ((e2.trans e3).trans e4)) q5
  obtain ⟨d2, v2, q7⟩ := R4.res (p2.mono (e3.trans e4)) q6
  obtain ⟨ds, rfl, q8⟩ := asDic_elim q7
  obtain ⟨j, q9, hj⟩ := keyD_elim q8
  obtain ⟨a1, kvs, ea, g1, g2, g3⟩ := v1.dic' R4.ex
  cases ea
  rw [hj v2]
  refine ⟨_, DGet.k g1, ?_⟩
  have ee := ((e1.trans e2).trans e3).trans e4
  rcases dVal_rep (k := j) g2 g3 with ⟨h1, h2⟩ | ⟨d', v', h1, h2, h3⟩
  · rw [h1] at q9
    rw [h2]
    exact k x H3 Hs4 (.d z) ε4 ee R4 rz q9
  · rw [h1] at q9
    rw [h2]
    exact k v' H3 Hs4 (.d d') ε4 ee R4 h3 q9
/-- d[x] = v, d a name's own dict -/
def ysPutD (i : Nat) (rj re : PTE) : PTS := fun Δ ε => re ε fun t ε1 => PL.out ε1 t fun d ε2 => (match ε2[i]? with
  | some (some (.od _)) => rj ε2 fun t2 ε3 => res ε3 t2 fun dj => keyD dj fun k => (match ε3[i]? with
    | some (some (.od ds)) => gd (ds.length < 16777216) (Δ.nx (ε3.set i (some (.od (dPut ds k d)))))
    | _ => False)
  | _ => False)
theorem ys_putD (i : Nat) {x : Str} {px ps : Pos} {e j : Expr} {rj re : PTE} (hu : X.A.units + 64 < cLine) (hj : YE X W Ξ j rj) (he : YE X W Ξ e re) (hN : X.N[i]? = some x := by rfl) (hv : Vis X.env.scope x := by first | exact Or.inl rfl | exact Or.inr (Or.inl rfl) | exact Or.inr (Or.inr rfl)) (hd : (x == ("__debug__" : Str)) = false := by decide) (hcd : (x == ("__classdict__" : Str)) = false := by decide)
    (hs : swapsWith e (some (.Subscript (.Name x px) j ps)) pos.line X.env = pure false := by rfl) : YS X W Ξ (.Assign [.Subscript (.Name x px) j ps] e pos) (ysPutD i rj re) := by
  obtain ⟨t, p, k⟩ := he.ex
  obtain ⟨t2, p2, k2⟩ := hj.ex
  refine ⟨_, ps_dput (by omega) (pe_var hN hv hd hcd) p2 p hs, fun F Hs σ H ε Δ Dd R L q kk => ?_⟩
  refine k F Hs σ H ε _ _ R L q fun v H1 Hs1 t1 ε1 e1 R1 p1 q1 => ?_
  obtain ⟨d, ε2, Hs2, e2, R2, rv, q2⟩ := R1.out p1 q1
  split at q2
  · rename_i ds0 e0
    obtain ⟨p0, kvs0, g1, _⟩ := R2.sl i _ e0
    refine ⟨_, g1, ?_⟩
    refine k2 F Hs2 σ H1 ε2 _ _ R2 (L.mono (e1.trans e2)) q2 fun w H3 Hs3 t3 ε3 e3 R3 p3 q3 => ?_
    obtain ⟨dj, rj, q4⟩ := R3.res p3 q3
    obtain ⟨ky, q5, hk⟩ := keyD_elim q4
    split at q5
    · rename_i ds ei
      obtain ⟨hl, q6⟩ := gd_elim q5
      obtain ⟨p3, kvs, f1, f2, f3, f4, f5, f6⟩ := R3.sl i _ ei
      rw [g1] at f1
      cases f1
      rw [hk rj]
      have hl2 : kvs.length < sizeLine := by
        have z := congrArg List.length f5
        rw [List.length_map, List.length_map] at z
        rw [z, sizeLine_eq]
        exact hl
      refine ⟨p0, _, rfl, DPut.k f4 hl2, ?_⟩
      obtain ⟨u1, u2⟩ := dPut_rep (k := ky) (rv.mono e3) f5 f6
      exact kk.nx _ _ Hs3 _ ((e1.trans e2).trans e3) (R3.change (s' := .od (dPut ds ky d)) ei rfl rfl g1 f2 f3 ⟨_, _, g1, f2, f3, upd_same, u1, u2⟩) q6
    · exact q5.elim
  · exact q2.elim
end
end PL

set_option Elab.async false
set_option linter.all false
set_option autoImplicit false
set_option maxRecDepth 100000
set_option maxHeartbeats 2000000
/-! a, b, c, d = w, x, y, z; enumerate; a dict of the module. -/
namespace PL
open PySem PySem.Spec PyProof.Rows L2
open Evl (Ex)
/-- what a name is to hold, on the way -/
def Pd (K : PySem.W.Frag) (F Hs : Hp) (σ : St) (H : Hp) (ε : PEnv) (v : V) : S → Prop
  | .v d => Rep K Hs v d
  | .o ds => ∃ p vs, v = .ref p ∧ H p = some (.lst vs) ∧ Hs p = none ∧ F p = none ∧ Nobody σ ε p ∧ Reps K Hs vs ds
  | .od ds => ∃ p kvs, v = .ref p ∧ H p = some (.dK kvs) ∧ Hs p = none ∧ F p = none ∧ Nobody σ ε p ∧ kvs.map (·.1) = ds.map (·.1) ∧ Reps K Hs (kvs.map (·.2)) (ds.map (·.2))
def Pds (K : PySem.W.Frag) (F Hs : Hp) (σ : St) (H : Hp) (ε : PEnv) : List V → List S → Prop
  | [], [] => True
  | v :: vs, s :: ss => Pd K F Hs σ H ε v s ∧ Pds K F Hs σ H ε vs ss ∧ (s.own = true → ∀ (j : Nat) (t : S), ss[j]? = some t → t.own = true → vs[j]? ≠ some v)
  | _, _ => False
def setAll {α : Type} (σ : List (Option α)) : List Nat → List α → List (Option α)
  | j :: js, v :: vs => setAll (σ.set j (some v)) js vs
  | _, _ => σ
theorem pd_store {K : PySem.W.Frag} {F Hs H : Hp} {σ : St} {ε : PEnv} {v : V} {s : S} (R : RelS K F Hs σ H ε) (h : Pd K F Hs σ H ε v s) (i : Nat) : RelS K F Hs (σ.set i (some v)) H (ε.set i (some s)) := by
  cases s with
  | v d => exact R.store h i
  | o ds =>
    obtain ⟨p, vs, rfl, g1, g2, g3, g4, rs⟩ := h
    exact storeO_of R i g1 g2 g3 g4 rs
  | od ds =>
    obtain ⟨p, kvs, rfl, g1, g2, g3, g4, ks, rs⟩ := h
    refine R.storeO rfl i g4 fun hi => ?_
    exact ⟨p, kvs, by rw [List.getElem?_set_self (by rw [R.len]; exact hi)], g2, g3, g1, ks, rs⟩
/-- a pending value stays so when another one is stored -/
theorem pd_other {K : PySem.W.Frag} {F Hs H : Hp} {σ : St} {ε : PEnv} {v w : V} {s t : S} {i : Nat} (hs : Pd K F Hs σ H ε v s) (ht : Pd K F Hs σ H ε w t) (ne : s.own = true → t.own = true → w ≠ v) : Pd K F Hs (σ.set i (some v)) H (ε.set i (some s)) w t := by
  have nb : ∀ p, w = .ref p → t.own = true → Nobody σ ε p → Nobody (σ.set i (some v)) (ε.set i (some s)) p := fun p e to nb => by
    cases s with
    | v d => exact nobody_setV nb
    | o ds =>
      obtain ⟨q, _, rfl, _⟩ := hs
      exact nobody_set nb (fun z => ne rfl to (by rw [e, z]))
    | od ds =>
      obtain ⟨q, _, rfl, _⟩ := hs
      exact nobody_set nb (fun z => ne rfl to (by rw [e, z]))
  cases t with
  | v d => exact ht
  | o ds =>
    obtain ⟨p, vs, e, g1, g2, g3, g4, rs⟩ := ht
    exact ⟨p, vs, e, g1, g2, g3, nb p e rfl g4, rs⟩
  | od ds =>
    obtain ⟨p, vs, e, g1, g2, g3, g4, rs⟩ := ht
    exact ⟨p, vs, e, g1, g2, g3, nb p e rfl g4, rs⟩
theorem pds_other {K : PySem.W.Frag} {F Hs H : Hp} {σ : St} {ε : PEnv} {v : V} {s : S} {i : Nat} (hs : Pd K F Hs σ H ε v s) : ∀ {vs : List V} {ss : List S}, Pds K F Hs σ H ε vs ss → (s.own = true → ∀ (j : Nat) (t : S), ss[j]? = some t → t.own = true → vs[j]? ≠ some v) → Pds K F Hs (σ.set i (some v)) H (ε.set i (some s)) vs ss
  | [], [], _, _ => trivial
  | [], _ :: _, h, _ => h.elim
  | _ :: _, [], h, _ => h.elim
  | w :: ws, t :: ts, ⟨h1, h2, h3⟩, hn => ⟨pd_other hs h1 (fun so to e => hn so 0 t rfl to (by rw [e] <;> rfl)), pds_other hs h2 (fun so j u e uo z => hn so (j + 1) u e uo z), h3⟩
theorem pds_store {K : PySem.W.Frag} {F Hs H : Hp} : ∀ {js : List Nat} {vs : List V} {ss : List S} {σ : St} {ε : PEnv}, RelS K F Hs σ H ε → Pds K F Hs σ H ε vs ss → RelS K F Hs (setAll σ js vs) H (setAll ε js ss)
  | [], _, _, _, _, R, _ => by
    cases ‹List V› <;> cases ‹List S› <;> exact R
  | j :: js, [], [], _, _, R, _ => R
  | j :: js, [], _ :: _, _, _, _, h => h.elim
  | j :: js, _ :: _, [], _, _, _, h => h.elim
  | j :: js, v :: vs, s :: ss, σ, ε, R, ⟨h1, h2, h3⟩ => pds_store (σ := σ.set j (some v)) (ε := ε.set j (some s)) (pd_store R h1 j) (pds_other h1 h2 h3)
theorem Pd.lay {K : PySem.W.Frag} {F Hs H : Hp} {σ : St} {ε : PEnv} {v : V} {s : S} {q : Addr} {o : HO} (hq : H q = none) (h : Pd K F Hs σ H ε v s) : Pd K F Hs σ (upd H q o) ε v s := by
  have up : ∀ {p : Addr} {u : HO}, H p = some u → upd H q o p = some u := fun {p u} e => by rw [upd_ne (ne_of_none e hq)]; exact e
  cases s with
  | v d => exact h
  | o ds =>
    obtain ⟨p, vs, e, g1, g⟩ := h
    exact ⟨p, vs, e, up g1, g⟩
  | od ds =>
    obtain ⟨p, vs, e, g1, g⟩ := h
    exact ⟨p, vs, e, up g1, g⟩
theorem Pds.lay {K : PySem.W.Frag} {F Hs H : Hp} {σ : St} {ε : PEnv} {q : Addr} {o : HO} (hq : H q = none) : ∀ {vs : List V} {ss : List S}, Pds K F Hs σ H ε vs ss → Pds K F Hs σ (upd H q o) ε vs ss
  | [], [], _ => trivial
  | [], _ :: _, h => h.elim
  | _ :: _, [], h => h.elim
  | _ :: _, _ :: _, ⟨h1, h2, h3⟩ => ⟨h1.lay hq, h2.lay hq, h3⟩
theorem Pds.len {K : PySem.W.Frag} {F Hs H : Hp} {σ : St} {ε : PEnv} : ∀ {vs : List V} {ss : List S}, Pds K F Hs σ H ε vs ss → vs.length = ss.length
  | [], [], _ => rfl
  | [], _ :: _, h => h.elim
  | _ :: _, [], h => h.elim
  | _ :: _, _ :: _, ⟨_, h2, _⟩ => by rw [List.length_cons, List.length_cons, h2.len]
/-- what pends while p is lent, pends behind it -/
theorem Pds.back {K : PySem.W.Frag} {F Hs H : Hp} {σ : St} {ε : PEnv} {p : Addr} {o : HO} (hF : F p = none) : ∀ {vs : List V} {ss : List S}, Pds K (upd F p o) Hs σ H ε vs ss → Pds K F Hs σ H ε vs ss ∧ ∀ (j : Nat) (t : S), ss[j]? = some t → t.own = true → vs[j]? ≠ some (.ref p)
  | [], [], _ => ⟨trivial, fun j t e => by simp at e⟩
  | [], _ :: _, h => h.elim
  | _ :: _, [], h => h.elim
  | v :: vs, s :: ss, ⟨h1, h2, h3⟩ => by
    obtain ⟨k1, k2⟩ := h2.back hF
    have z : Pd K F Hs σ H ε v s ∧ (s.own = true → v ≠ .ref p) := by
      have fb : ∀ q, upd F p o q = none → F q = none ∧ q ≠ p := fun q e => by
        by_cases hq : q = p
        · subst hq
          rw [upd_same] at e
          cases e
        · rw [upd_ne hq] at e
          exact ⟨e, hq⟩
      cases s with
      | v d => exact ⟨h1, fun z => by cases z⟩
      | o ds =>
        obtain ⟨q, ws, rfl, g1, g2, g3, g⟩ := h1
        exact ⟨⟨q, ws, rfl, g1, g2, (fb q g3).1, g⟩, fun _ e => (fb q g3).2 (V.ref.inj e)⟩
      | od ds =>
        obtain ⟨q, ws, rfl, g1, g2, g3, g⟩ := h1
        exact ⟨⟨q, ws, rfl, g1, g2, (fb q g3).1, g⟩, fun _ e => (fb q g3).2 (V.ref.inj e)⟩
    refine ⟨⟨z.1, k1, h3⟩, fun j t e to q => ?_⟩
    cases j with
    | zero =>
      cases e
      exact z.2 to (Option.some.inj q)
    | succ j => exact k2 j t e to q
abbrev PTP := PEnv → (List S → PEnv → Prop) → Prop
structure YP (X : Cx) (W : WX) (Ξ : Xi) (es : List Expr) (r : PTP) : Prop where
  ex : ∃ t, PA X es t ∧ ∀ (F Hs : Hp) (σ : St) (H : Hp) (ε : PEnv) (Q' : List S → PEnv → Prop) (Q : List V → Hp → Prop), RelS X.K F Hs σ H ε → Lk X.K F Hs W Ξ → r ε Q' →
    (∀ (vs : List V) (H' Hs' : Hp) (ss : List S) (ε' : PEnv), Ex Hs Hs' → RelS X.K F Hs' σ H' ε' → Pds X.K F Hs' σ H' ε' vs ss → Q' ss ε' → Q vs H') → t σ H Q
section
variable {X : Cx} {W : WX} {Ξ : Xi} {a b c : Expr} {es : List Expr} {pos : Pos}
def ypNil : PTP := fun ε Q => Q [] ε
theorem yp_nil : YP X W Ξ [] ypNil := ⟨_, pa_nil, fun F Hs σ H ε Q' Q R L q k => k [] H Hs [] ε (Evl.Ex.refl _) R trivial q⟩
/-- a value first: it is rested, the others come -/
def ypE (r : PTE) (rs : PTP) : PTP := fun ε Q => r ε fun t ε1 => PL.out ε1 t fun d ε2 => rs ε2 fun ss ε3 => Q (.v d :: ss) ε3
theorem yp_e {r : PTE} {rs : PTP} (h : YE X W Ξ a r) (hs : YP X W Ξ es rs) (hst : starEach (a :: es) X.env = (false, eval a X.env) :: starEach es X.env := by rfl) : YP X W Ξ (a :: es) (ypE r rs) := by
  obtain ⟨t, p, k⟩ := h.ex
  obtain ⟨ts, ps, ks⟩ := hs.ex
  refine ⟨_, pa_cons p ps hst, fun F Hs σ H ε Q' Q R L q kk => k F Hs σ H ε _ _ R L q fun v H1 Hs1 t1 ε1 e1 R1 p1 q1 => ?_⟩
  obtain ⟨d, ε2, Hs2, e2, R2, rv, q2⟩ := R1.out p1 q1
  refine ks F Hs2 σ H1 ε2 _ _ R2 (L.mono (e1.trans e2)) q2 fun vs H3 Hs3 ss ε3 e3 R3 p3 q3 => ?_
  exact kk (v :: vs) H3 Hs3 (.v d :: ss) ε3 ((e1.trans e2).trans e3) R3 ⟨Rep.mono e3 rv, p3, fun z => by cases z⟩ q3
/-- a new list -/
def ypN (r : PTN) (rs : PTP) : PTP := fun ε Q => r ε fun ds ε1 => rs ε1 fun ss ε2 => Q (.o ds :: ss) ε2
theorem yp_n {r : PTN} {rs : PTP} (h : YN X W Ξ a r) (hs : YP X W Ξ es rs) (hst : starEach (a :: es) X.env = (false, eval a X.env) :: starEach es X.env := by rfl) : YP X W Ξ (a :: es) (ypN r rs) := by
  obtain ⟨t, p, k⟩ := h.ex
  obtain ⟨ts, ps, ks⟩ := hs.ex
  refine ⟨_, pa_cons p ps hst, fun F Hs σ H ε Q' Q R L q kk => k F Hs σ H ε _ _ R L q fun p H1 Hs1 vs ds ε1 e1 R1 g1 g2 g3 g4 rs q1 => ?_⟩
  have R1' := R1.lend g1 g2 g4
  have L' : Lk X.K (upd F p (.lst vs)) Hs1 W Ξ := fun c σ' H' Hs' ε' xc e' R' => L c σ' H' Hs' ε' xc (e1.trans e') (R'.back g3).1
  refine ks _ Hs1 σ H1 ε1 _ _ R1' L' q1 fun ws H3 Hs3 ss ε3 e3 R3 p3 q3 => ?_
  obtain ⟨R3', b1, b2, b3⟩ := R3.back g3
  obtain ⟨k1, k2⟩ := p3.back g3
  exact kk (.ref p :: ws) H3 Hs3 (.o ds :: ss) ε3 (e1.trans e3) R3' ⟨⟨p, vs, rfl, b1, b2, g3, b3, rs.mono e3⟩, k1, fun _ => k2⟩ q3
/-- {} -/
def ypD (rs : PTP) : PTP := fun ε Q => rs ε fun ss ε2 => Q (.od [] :: ss) ε2
theorem yp_d {rs : PTP} {pd : Pos} (hs : YP X W Ξ es rs) (hst : starEach (.Dict [] [] pd :: es) X.env = (false, eval (.Dict [] [] pd) X.env) :: starEach es X.env := by rfl) : YP X W Ξ (.Dict [] [] pd :: es) (ypD rs) := by
  obtain ⟨ts, ps, ks⟩ := hs.ex
  refine ⟨_, pa_cons pe_dnewK ps hst, fun F Hs σ H ε Q' Q R L q kk => fun p hp => ?_⟩
  obtain ⟨n1, n2, n3⟩ := R.nobody hp
  have R1 : RelS X.K F Hs σ (upd H p (.dK [])) ε := R.lay hp
  have R1' := R1.lend (upd_same (o := HO.dK [])) n1 n3
  have L' : Lk X.K (upd F p (.dK [])) Hs W Ξ := fun c σ' H' Hs' ε' xc e' R' => L c σ' H' Hs' ε' xc e' (R'.back n2).1
  refine ks _ Hs σ _ ε _ _ R1' L' q fun ws H3 Hs3 ss ε3 e3 R3 p3 q3 => ?_
  obtain ⟨R3', b1, b2, b3⟩ := R3.back n2
  obtain ⟨k1, k2⟩ := p3.back n2
  exact kk (.ref p :: ws) H3 Hs3 (.od [] :: ss) ε3 e3 R3' ⟨⟨p, [], rfl, b1, b2, n2, b3, rfl, .nil⟩, k1, fun _ => k2⟩ q3
/-- x, y, z = .. -/
def ysParP (js : List Nat) (r : PTP) : PTS := fun Δ ε => r ε fun ss ε1 => ss.length = js.length ∧ Δ.nx (setAll ε1 js ss)
theorem ys_parP3 (i j l : Nat) {x y z : Str} {r : PTP} {px py pz pt : Pos} {kt k2 : Nat} {pt2 : Pos} (hc : X.calm = true) (hN : X.N.Nodup) (hi : X.N[i]? = some x) (hj : X.N[j]? = some y) (hl : X.N[l]? = some z) (hij : i ≠ j) (hil : i ≠ l) (hjl : j ≠ l)
    (hx : X.env.scope.names.lookup x = some .local) (hy : X.env.scope.names.lookup y = some .local) (hz : X.env.scope.names.lookup z = some .local) (h : YP X W Ξ [a, b, c] r)
    (hw : swappedStores [.Tuple [.Name x px, .Name y py, .Name z pz] kt pt] (.Tuple [a, b, c] k2 pt2) X.env = pure (some [x, y, z]) := by rfl)
    (hs : swapsWithSole [.Tuple [.Name x px, .Name y py, .Name z pz] kt pt] (.Tuple [a, b, c] k2 pt2) pos.line X.env = pure false := by rfl) :
    YS X W Ξ (.Assign [.Tuple [.Name x px, .Name y py, .Name z pz] kt pt] (.Tuple [a, b, c] k2 pt2) pos) (ysParP [i, j, l] r) := by
  obtain ⟨t, p, k⟩ := h.ex
  refine ⟨_, ps_par3 hc hN hi hj hl hij hil hjl hx hy hz p hw hs, fun F Hs σ H ε Δ Dd R L q kk => k F Hs σ H ε _ _ R L q fun vs H1 Hs1 ss ε1 e1 R1 p1 q1 => ?_⟩
  obtain ⟨hl, q2⟩ := q1
  have R2 := pds_store (js := [i, j, l]) R1 p1
  rw [← p1.len] at hl
  match vs, hl, R2 with
  | [v1, v2, v3], _, R2 => exact ⟨v1, v2, v3, rfl, kk.nx _ H1 Hs1 _ e1 R2 q2⟩
theorem ys_parP4 (i j l m : Nat) {x y z u : Str} {d : Expr} {r : PTP} {px py pz pu pt : Pos} {kt k2 : Nat} {pt2 : Pos} (hc : X.calm = true) (hN : X.N.Nodup) (h : YP X W Ξ [a, b, c, d] r) (hi : X.N[i]? = some x := by rfl) (hj : X.N[j]? = some y := by rfl) (hl : X.N[l]? = some z := by rfl) (hm : X.N[m]? = some u := by rfl)
    (hx : Loc X.env.scope x := by first | exact Or.inl rfl | exact Or.inr rfl) (hy : Loc X.env.scope y := by first | exact Or.inl rfl | exact Or.inr rfl) (hz : Loc X.env.scope z := by first | exact Or.inl rfl | exact Or.inr rfl) (hu : Loc X.env.scope u := by first | exact Or.inl rfl | exact Or.inr rfl)
    (fx : X.fn x = true ∨ X.env.scope.names.lookup x = some .local := by first | exact .inl rfl | exact .inr rfl) (fy : X.fn y = true ∨ X.env.scope.names.lookup y = some .local := by first | exact .inl rfl | exact .inr rfl) (fz : X.fn z = true ∨ X.env.scope.names.lookup z = some .local := by first | exact .inl rfl | exact .inr rfl) (fu : X.fn u = true ∨ X.env.scope.names.lookup u = some .local := by first | exact .inl rfl | exact .inr rfl)
    (hs : swapsWithSole [.Tuple [.Name x px, .Name y py, .Name z pz, .Name u pu] kt pt] (.Tuple [a, b, c, d] k2 pt2) pos.line X.env = pure false := by rfl) (hw : swappedStores [.Tuple [.Name x px, .Name y py, .Name z pz, .Name u pu] kt pt] (.Tuple [a, b, c, d] k2 pt2) X.env = pure none := by rfl)
    (h1 : (assignEach [.Tuple [.Name x px, .Name y py, .Name z pz, .Name u pu] kt pt] X.env).map (·.2) = [assign (.Tuple [.Name x px, .Name y py, .Name z pz, .Name u pu] kt pt) X.env] := by rfl)
    (s1 : (assignEach [.Name x px, .Name y py, .Name z pz, .Name u pu] X.env).map (·.2) = assign (.Name x px) X.env :: (assignEach [.Name y py, .Name z pz, .Name u pu] X.env).map (·.2) := by rfl)
    (s2 : (assignEach [.Name y py, .Name z pz, .Name u pu] X.env).map (·.2) = assign (.Name y py) X.env :: (assignEach [.Name z pz, .Name u pu] X.env).map (·.2) := by rfl)
    (s3 : (assignEach [.Name z pz, .Name u pu] X.env).map (·.2) = assign (.Name z pz) X.env :: (assignEach [.Name u pu] X.env).map (·.2) := by rfl)
    (s4 : (assignEach [.Name u pu] X.env).map (·.2) = assign (.Name u pu) X.env :: (assignEach [] X.env).map (·.2) := by rfl)
    (n4 : (assignEach [.Name x px, .Name y py, .Name z pz, .Name u pu] X.env).length = 4 := by rfl) (f4 : (assignEach [.Name x px, .Name y py, .Name z pz, .Name u pu] X.env).findIdx? (·.1) = none := by rfl) :
    YS X W Ξ (.Assign [.Tuple [.Name x px, .Name y py, .Name z pz, .Name u pu] kt pt] (.Tuple [a, b, c, d] k2 pt2) pos) (ysParP [i, j, l, m] r) := by
  obtain ⟨t, p, k⟩ := h.ex
  refine ⟨_, ps_asg (pe_tup p) (pg_tup hc (pgs_cons (pg_name hN hi hx fx) (pgs_cons (pg_name hN hj hy fy) (pgs_cons (pg_name hN hl hz fz) (pgs_cons (pg_name hN hm hu fu) pgs_nil s4) s3) s2) s1) n4 f4) hs hw h1, fun F Hs σ H ε Δ Dd R L q kk => k F Hs σ H ε _ _ R L q fun vs H1 Hs1 ss ε1 e1 R1 p1 q1 => ?_⟩
  obtain ⟨hl, q2⟩ := q1
  have hv : vs.length = 4 := p1.len.trans hl
  refine ⟨by rw [hv, sizeLine_eq]; decide, fun q hq => ?_⟩
  have R2 := pds_store (js := [i, j, l, m]) (R1.lay (o := .tup vs) hq) (p1.lay hq)
  match vs, hv, R2 with
  | [v1, v2, v3, v4], _, R2 => exact ⟨q, _, rfl, SqT.of upd_same, rfl, v1, _, rfl, v2, _, rfl, v3, _, rfl, v4, _, rfl, rfl, kk.nx _ _ Hs1 _ e1 R2 q2⟩
/-- for k, x in enumerate(xs) -/
def enumD : List D → Nat → List D
  | [], _ => []
  | d :: r, i => .tup [.int (i : Int), d] :: enumD r (i + 1)
theorem enumD_len : ∀ (ds : List D) (i : Nat), (enumD ds i).length = ds.length
  | [], _ => rfl
  | _ :: r, i => by unfold enumD; rw [List.length_cons, List.length_cons, enumD_len r]
theorem enumD_get : ∀ (ds : List D) (i j : Nat), (enumD ds i)[j]? = (ds[j]?).map fun d => .tup [.int ((i + j : Nat) : Int), d]
  | [], _, _ => by simp [enumD]
  | d :: r, i, 0 => rfl
  | d :: r, i, j + 1 => by
    show (enumD r (i + 1))[j]? = _
    rw [enumD_get r (i + 1) j, show i + 1 + j = i + (j + 1) by omega] <;> rfl
theorem seqs_enum {K : PySem.W.Frag} {Hs : Hp} {a : Addr} {vs : List V} {ds : List D} (h : SqL K Hs a vs) (r : Reps K Hs vs ds) : Seqs K Hs (Ite K a) (enumD ds 0) where
  go := fun i H e hi => by
    rw [enumD_len, ← r.len] at hi
    exact ⟨vs, vs[i], Evl.ex_l e h, by simp [hi]⟩
  stop := fun i H e hi => by
    rw [enumD_len] at hi
    exact ⟨vs, Evl.ex_l e h, by rw [r.len]; exact hi⟩
  yld := fun i F Hc σ H ε x H' e R hi y => by
    obtain ⟨T, v, rfl, hT, rfl, y⟩ := y
    have e2 := y vs (Evl.ex_l (e.trans R.ex) h)
    obtain ⟨d, h1, h2⟩ := r.getV e2
    obtain ⟨R2, e3⟩ := R.new (o := .tup [.int (i : Nat), v]) hT
    refine ⟨_, .tup [.int (i : Int), d], e3, R2, by rw [enumD_get, h1, Nat.zero_add] <;> rfl, .tup (SqT.of upd_same) (.cons (.int _) (.cons (h2.mono (e.trans e3)) .nil))⟩
def yiEnum (r : PTE) : PTN := fun ε Q => r ε fun t ε' => PL.out ε' t fun d ε2 => match d with
  | .lst ds => Q (enumD ds 0) ε2
  | .frl ds => Q (enumD ds 0) ε2
  | _ => False
theorem yi_enum {r : PTE} {elts : List Expr} {kk : Nat} {tpos p : Pos} (h : YE X W Ξ a r) (hg : Gl X "enumerate") (hm : X.mg "enumerate" = none) (hs : starEach [a] X.env = [(false, eval a X.env)] := by rfl) : YI X W Ξ (.Tuple elts kk tpos) (.Call (.Name "enumerate" p) [a] [] pos) (yiEnum r) := by
  obtain ⟨t, p, k⟩ := h.ex
  refine ⟨_, pi_enum hg hm (pa_cons p pa_nil hs) hs, fun F Hs σ H ε Q' R' R L q kk => k F Hs σ H ε _ _ R L q fun v H1 Hs1 t1 ε1 e1 R1 p1 q1 => ?_⟩
  obtain ⟨d, ε2, Hs2, e2, R2, rv, q2⟩ := R1.out p1 q1
  split at q2
  · obtain ⟨a, vs, rfl, g1, rs⟩ := (RepV.sc rv).lst' (Evl.Ex.refl Hs2)
    exact ⟨a, vs, rfl, SqL.of (R2.ex _ _ g1), kk _ H1 Hs2 _ ε2 (e1.trans e2) R2 (seqs_enum (SqL.of g1) rs) q2⟩
  · obtain ⟨a, vs, rfl, g1, rs⟩ := (RepV.sc rv).frl' (Evl.Ex.refl Hs2)
    exact ⟨a, vs, rfl, Evl.ex_l R2.ex g1, kk _ H1 Hs2 _ ε2 (e1.trans e2) R2 (seqs_enum g1 rs) q2⟩
  · exact q2.elim
end
end PL
namespace PL
open PySem PySem.Spec PyProof.Rows L2
section
variable {X : Cx} {W : WX} {Ξ : Xi} {pos : Pos}
/-- x = {}, a dict of the name's own -/
def ysAsgD (i : Nat) : PTS := fun Δ ε => Δ.nx (ε.set i (some (.od [])))
theorem ysSetD (i : Nat) {x : Str} {pos' pd : Pos} (hN : X.N.Nodup) (hi : X.N[i]? = some x := by rfl) (hx : Loc X.env.scope x := by first | exact Or.inl rfl | exact Or.inr rfl) (hs : swapsWith (.Dict [] [] pd) (some (.Name x pos')) pos.line X.env = pure false := by rfl)
    (hf : X.fn x = true ∨ X.env.scope.names.lookup x = some .local := by first | exact .inl rfl | exact .inr rfl) : YS X W Ξ (.Assign [.Name x pos'] (.Dict [] [] pd) pos) (ysAsgD i) := by
  refine ⟨_, ps_set hN hi hx pe_dnewK hs hf, fun F Hs σ H ε Δ Dd R L q kk => fun p hp => ?_⟩
  obtain ⟨n1, n2, n3⟩ := R.nobody hp
  refine kk.nx _ _ Hs _ (Evl.Ex.refl _) (pd_store (R.lay (o := .dK []) hp) (s := .od []) ⟨p, [], rfl, upd_same, n1, n2, n3, rfl, .nil⟩ i) q
end
end PL

set_option Elab.async false
set_option linter.all false
set_option autoImplicit false
set_option maxRecDepth 100000
set_option maxHeartbeats 2000000
/-! A table of the module: texts to numbers. -/
namespace PL
open PySem PySem.Spec PyProof.Rows L2
open Evl (Ex)
/-- what the written part says of the table at d -/
def TabOk (K : PySem.W.Frag) (w : World) (d : Addr) (tab : List (Str × Int)) : Prop := ∃ es n, KDict K w d es n ∧ ∀ z : Str, ∃ r, PySem.W.nsIn K d z = some r ∧ RelO ((tab.lookup z).map V.int) r
def entB (e : DictEntry) (p : Str × Int) : Bool := match e.key, e.val with
  | .str x _, .int i _ => decide (x = p.1) && decide (i = p.2)
  | _, _ => false
def entsB : List DictEntry → List (Str × Int) → Bool
  | [], [] => true
  | e :: r, p :: q => entB e p && entsB r q
  | _, _ => false
def tabB (K : PySem.W.Frag) (d : Addr) (tab : List (Str × Int)) : Bool := match K.lookup d with
  | some ⟨_, _, .dict es _, _⟩ => entsB es.toList tab
  | _ => false
theorem entB_ok {e : DictEntry} {p : Str × Int} (h : entB e p = true) : ∃ t u, e.key = .str p.1 t ∧ e.val = .int p.2 u := by
  unfold entB at h
  split at h
  · rename_i x t i u e1 e2
    obtain ⟨h1, h2⟩ := He.ba h
    rw [e1, e2, of_decide_eq_true h1, of_decide_eq_true h2]
    exact ⟨t, u, rfl, rfl⟩
  · cases h
theorem ents_find (z : Str) : ∀ {l : List DictEntry} {tab : List (Str × Int)}, entsB l tab = true → RelO ((tab.lookup z).map V.int) ((l.find? (·.key.isStr z)).map (·.val)) ∧ l.any (·.refKey) = false
  | [], [], _ => ⟨True.intro, rfl⟩
  | [], _ :: _, h => by cases h
  | _ :: _, [], h => by cases h
  | e :: r, (x, i) :: q, h => by
    obtain ⟨h1, h2⟩ := He.ba (show (entB e (x, i) && entsB r q) = true from h)
    obtain ⟨t, u, e1, e2⟩ := entB_ok h1
    obtain ⟨k1, k2⟩ := ents_find z h2
    have hi : e.key.isStr z = decide (x = z) := by
      rw [e1]
      show (x == z) = _
      by_cases hz : x = z
      · rw [decide_eq_true hz, hz]; exact beq_self_eq_true z
      · rw [decide_eq_false hz]; exact beq_eq_false_iff_ne.mpr hz
    have hr : e.refKey = false := by
      unfold DictEntry.refKey
      rw [e1] <;> rfl
    refine ⟨?_, by rw [List.any_cons, hr, k2] <;> rfl⟩
    rw [List.find?_cons, hi]
    by_cases hz : x = z
    · rw [decide_eq_true hz]
      subst hz
      rw [List.lookup_cons, beq_self_eq_true]
      show RelO (some (V.int i)) (some e.val)
      rw [e2]
      exact ⟨u, rfl⟩
    · rw [decide_eq_false hz, List.lookup_cons, show (z == x) = false from beq_eq_false_iff_ne.mpr fun y => hz y.symm]
      exact k1
theorem tabB_ok {K : PySem.W.Frag} {w : World} {d : Addr} {tab : List (Str × Int)} (h : tabB K d tab = true) (D : ∃ es n, KDict K w d es n) : TabOk K w d tab := by
  obtain ⟨es, n, D⟩ := D
  refine ⟨es, n, D, fun z => ?_⟩
  unfold tabB at h
  rw [D.at_] at h
  obtain ⟨h1, h2⟩ := ents_find z (show entsB es.toList tab = true from h)
  unfold PySem.W.nsIn
  rw [D.at_]
  dsimp only
  cases hf : es.toList.find? (·.key.isStr z) with
  | none =>
    rw [hf] at h1
    rw [h2]
    exact ⟨none, rfl, h1⟩
  | some e =>
    rw [hf] at h1
    exact ⟨some e.val, rfl, h1⟩
section
variable {X : Cx} {W : WX} {Ξ : Xi} {a : Expr} {pos : Pos}
/-- T.get(x), T a table of the module -/
def yGetK (tab : List (Str × Int)) (r : PTE) : PTE := fun ε Q => r ε fun t ε1 => res ε1 t fun d => match d with
  | .str z => Q (.d (match tab.lookup z with
    | some i => .int i
    | none => .non)) ε1
  | _ => False
theorem ye_getK {tab : List (Str × Int)} {x : Str} {d : Addr} {p apos : Pos} {r : PTE} (T : TabOk X.K X.w d tab) (hm : X.mg x = some (.ref d)) (h : YE X W Ξ a r) (hg : Gl X x := by rfl) (hdb : (x == ("__debug__" : Str)) = false := by decide) (m : M1 X (.Name x p) "get" apos a pos := by exact ⟨rfl, rfl, rfl, rfl⟩) :
    YE X W Ξ (.Call (.Attribute (.Name x p) "get" apos) [a] [] pos) (yGetK tab r) := by
  obtain ⟨ta, pa, ka⟩ := h.ex
  obtain ⟨es, n, D, T⟩ := T
  have pe : PE X (.Call (.Attribute (.Name x p) "get" apos) [a] [] pos) (fun σ H Q => ta σ H fun y H1 => ∃ z, y = .str z ∧ Q (match tab.lookup z with
    | some i => .int i
    | none => .non) H1) := by
    refine ⟨fun pins s σ H Q I h => ?_⟩
    refine PySem.wpAny_Call_method m.base m.few m.line PySem.F.plainAttrs_dict PySem.F.slot_dict_get PySem.F.type_dict_get (ld_glob I hg hm ?_ hdb)
    refine ⟨kd_type D I, fun b q => ?_, ?_⟩
    · cases q
      exact ⟨_, I.kIn _ _ D.at_, rfl⟩
    rw [m.trees]
    refine Calls.callWith_builtin rfl (Calls.evalArgs_plain (Calls.spliced_cons (thn (pa.run pins s σ H _ I h) fun iv s2 ⟨y, H2, I2, ry, z, ey, q2⟩ => Calls.spliced_nil ?_)))
    subst ey
    obtain ⟨t, rfl⟩ := ry
    obtain ⟨ro, e1, e2⟩ := T z
    refine PySem.call_meetsIn PySem.F.slot_dict_get (kd_type D I2) PySem.F.entry_dict_get (PySem.F.args_dict_get_2 _ _) (meets_dict_get (strKind X.prog X.w) d (PySem.strKind_is X.prog X.w z t) D.low) ⟨_, PySem.W.mapOf_K (prog := X.prog) I2.kIn D.at_ D.lit, ?_⟩
    rw [PySem.W.find_K D.at_ e1]
    refine ⟨_, H2, I2.tok _, ?_, q2⟩
    cases hl : tab.lookup z with
    | none =>
      rw [hl] at e2
      cases ro with
      | none => rfl
      | some u => exact e2.elim
    | some i =>
      rw [hl] at e2
      cases ro with
      | none => exact e2.elim
      | some u => exact e2
  refine ⟨_, pe, fun F Hs σ H ε Q' Q R L q k => ka F Hs σ H ε _ _ R L q fun v H1 Hs1 t1 ε1 e1 R1 p1 q1 => ?_⟩
  obtain ⟨d, v1, q2⟩ := R1.res p1 q1
  cases d with
  | str z =>
    refine ⟨z, v1.str', ?_⟩
    cases hl : tab.lookup z with
    | none =>
      dsimp only at q2
      rw [hl] at q2
      exact k .non H1 Hs1 (.d .non) ε1 e1 R1 .non q2
    | some i =>
      dsimp only at q2
      rw [hl] at q2
      exact k (.int i) H1 Hs1 (.d (.int i)) ε1 e1 R1 (.int i) q2
  | _ => exact q2.elim
end
end PL

set_option Elab.async false
set_option linter.all false
set_option autoImplicit false
set_option maxRecDepth 100000
set_option maxHeartbeats 2000000
/-! A list is locked for a call: what comes back is new. -/
namespace PL
open PySem PySem.Spec PyProof.Rows L2
open Evl (Ex)
/-- a call that sees the list at a locked, and no other list: what it gives back shares no list with anybody -/
def spLock (K : PySem.W.Frag) (φ : Spec) : Sp := fun vs H Q E => ∃ (Hc : Hp) (a : Addr) (xs : List V) (ds : List D) (Q' : D → Prop), Ex Hc H ∧ Hc a = none ∧ H a = some (.lst xs) ∧
  (∀ o, Reps K (upd Hc a (.frz o (.lst xs))) vs ds) ∧ φ ds Q' (fun _ => False) ∧
  ∀ (d : D) (v : V) (H' Hs : Hp) (o : Obj), Q' d → (∀ p u, H p = some u → H' p = some u) → Ex Hc Hs → Hs a = some (.frz o (.lst xs)) → (∀ p u, p ≠ a → Hs p = some u → Hc p = some u ∨ (H p = none ∧ H' p = some u)) → Rep K Hs v d → Q v H'
section
variable {P : Program} {w : World} {K : PySem.W.Frag} {mg : Str → Option Value} {base : Heap} {k : Nat} {f : Addr} {fd : FuncData} {ps : List Str} {φ : Spec}
theorem lock_fn (F : FnOk P w K mg base (L2.CX P w) k f fd ps (pSp K φ)) : FnOk P w K mg base (L2.CX P w) k f fd ps (spLock K φ) := by
  have lockEx : ∀ {Hc H : Hp} {a : Addr} {u : HO}, Ex Hc H → Hc a = none → Ex (upd Hc a u) (upd H a u) := fun {Hc H a u} e n b o q => by
    by_cases hb : b = a
    · subst hb
      rw [upd_same] at q ⊢
      exact q
    · rw [upd_ne hb] at q ⊢
      exact e b o q
  refine ⟨fun vs H Q E h => ?_, fun A outer s H args us vs Q E hr e0 hb hv h => ?_⟩
  · obtain ⟨Hc, a, xs, ds, Q', ex, hn, hH, rs, h, _⟩ := h
    exact F.len vs (upd H a (.frz default (.lst xs))) (fun _ _ => True) (fun _ _ _ => True) ⟨upd Hc a (.frz default (.lst xs)), ds, Q', fun _ => False, lockEx ex hn, rs default, h, fun _ _ _ _ _ _ _ => trivial, fun _ z => z.elim⟩
  · obtain ⟨Hc, a, xs, ds, Q', ex, hn, hH, rs, h, hq⟩ := h
    have obj := e0.hok a _ hH
    obtain ⟨z, its, n, r, eo⟩ := obj
    let o : Obj := { cls := .type "list", data := .seq its.toArray n }
    have e1 := env0_retell (o' := .frz o (.lst xs)) e0 hH (fun a z => by cases z) (fun a z => by cases z) ⟨eo, z, its, n, r, eo⟩
    have ex1 : Ex (upd Hc a (.frz o (.lst xs))) (upd H a (.frz o (.lst xs))) := lockEx ex hn
    refine codeAny_mono (F.run A outer s (upd H a (.frz o (.lst xs))) args us vs (fun v H2 => ∃ d Hs, Q' d ∧ Keeps (upd Hc a (.frz o (.lst xs))) (upd H a (.frz o (.lst xs))) Hs H2 ∧ Rep K Hs v d) (fun _ _ _ => False) hr e1 hb hv
      ⟨upd Hc a (.frz o (.lst xs)), ds, Q', fun _ => False, ex1, rs o, h, fun d qd v H' Hs kp rv => ⟨d, Hs, qd, kp, rv⟩, fun _ z => z.elim⟩) fun rr s' hrr => ?_
    cases rr with
    | error e => exact (cx_never hrr).elim
    | ok fl =>
      cases fl with
      | ret u =>
        obtain ⟨v, H2, os, bare, un, hok, rv, d, Hs, qd, ⟨k1, k2, k3⟩, rp⟩ := hrr
        have ha2 : H2 a = some (.frz o (.lst xs)) := un.frzs a _ _ upd_same
        have hs2 : Hs a = some (.frz o (.lst xs)) := k1 a _ upd_same
        have hok2 : HOk P w (upd H2 a (.lst xs)) s'.heap := retell_ok hok ha2 (fun a z => by cases z) (fun a z => by cases z) (hok a _ ha2).2
        have keep : ∀ p u, H p = some u → upd H2 a (.lst xs) p = some u := fun p u e => by
          by_cases hp : p = a
          · subst hp
            rw [upd_same]
            rw [hH] at e
            exact e
          · rw [upd_ne hp]
            have e2 : upd H a (.frz o (.lst xs)) p = some u := by rw [upd_ne hp]; exact e
            cases hc : Hc p with
            | none => exact (k3 p u e2 (by rw [upd_ne hp]; exact hc)).1
            | some u' =>
              have := k2 p u' (k1 p u' (by rw [upd_ne hp]; exact hc))
              rw [ex p u' hc] at e
              cases e
              exact this
        have none1 : ∀ b, H b = none → upd H a (.frz o (.lst xs)) b = none := fun b e => by
          rw [upd_ne (fun z => by rw [z, hH] at e; cases e)]
          exact e
        refine ⟨v, upd H2 a (.lst xs), os, bare, ⟨fun b ob q n hf hx => un.keep b ob q (none1 b n) hf hx, fun b ob q n hf hx => un.slot b ob q (none1 b n) hf hx, fun b ob q n hx => ?_, un.there, fun b ys q => keep b _ q, fun b ob u q => keep b _ q, fun b ps q => ⟨#[], by rw [keep b _ q]; simp⟩⟩, hok2, rv, ?_⟩
        · rw [upd_ne (fun z => by rw [z, hH] at n; cases n)]
          exact un.free b ob q (none1 b n) hx
        · refine hq d v _ Hs o qd keep (fun p u e => k1 p u (by rw [upd_ne (fun z => by rw [z, hn] at e; cases e)]; exact e)) hs2 (fun p u hp e => ?_) rp
          cases hc : Hc p with
          | some u' =>
            have := k1 p u' (by rw [upd_ne hp]; exact hc)
            rw [e] at this
            cases this
            exact .inl rfl
          | none =>
            refine .inr ?_
            cases hh : H p with
            | none => exact ⟨rfl, by rw [upd_ne hp]; exact k2 p u e⟩
            | some u' =>
              have := (k3 p u' (by rw [upd_ne hp]; exact hh) (by rw [upd_ne hp]; exact hc)).2
              rw [e] at this
              cases this
      | next => exact False.elim hrr
      | brk => exact False.elim hrr
      | cont => exact False.elim hrr
end
/-- what of a heap is no list -/
def noL (H : Hp) : Hp := fun b => match H b with
  | some (.tup xs) => some (.tup xs)
  | some (.frz o (.tup xs)) => some (.frz o (.tup xs))
  | _ => none
theorem noL_ex {H : Hp} : Ex (noL H) H := fun b o e => by
  unfold noL at e
  split at e
  · rename_i xs q; cases e; exact q
  · rename_i ob xs q; cases e; exact q
  · cases e
theorem noL_tup {K : PySem.W.Frag} {H : Hp} {a : Addr} {xs : List V} (h : SqT K H a xs) : SqT K (noL H) a xs := by
  rcases h with (h | ⟨o, h⟩) | h
  · refine .inl (.inl ?_)
    unfold noL
    rw [h]
  · refine .inl (.inr ⟨o, ?_⟩)
    unfold noL
    rw [h]
  · exact .inr h
mutual
theorem rep_noL {K : PySem.W.Frag} {H : Hp} : ∀ {v : V} {d : D}, Rep K H v d → noLst d = true → Rep K (noL H) v d
  | _, _, .non, _ => .non
  | _, _, .bl b, _ => .bl b
  | _, _, .int i, _ => .int i
  | _, _, .str x, _ => .str x
  | _, _, .lst _ _, h => by unfold noLst at h; cases h
  | _, _, .frl _ _, h => by unfold noLst at h; cases h
  | _, _, .tup s r, h => by
    unfold noLst at h
    exact .tup (noL_tup s) (reps_noL r h)
  | _, _, .dic _ _ _, h => by unfold noLst at h; cases h
  | _, _, .vl _, h => by unfold noLst at h; cases h
  | _, _, .pool _, h => by unfold noLst at h; cases h
  | _, _, .err _, h => by unfold noLst at h; cases h
theorem reps_noL {K : PySem.W.Frag} {H : Hp} : ∀ {vs : List V} {ds : List D}, Reps K H vs ds → noLsts ds = true → Reps K (noL H) vs ds
  | _, _, .nil, _ => .nil
  | _, _, .cons h t, q => by
    unfold noLsts at q
    obtain ⟨q1, q2⟩ := Bool.and_eq_true_iff.mp q
    exact .cons (rep_noL h q1) (reps_noL t q2)
end
end PL

set_option Elab.async false
set_option linter.all false
set_option autoImplicit false
set_option maxRecDepth 100000
set_option maxHeartbeats 2000000
/-! abs, math.gcd, * and // of great ints; what an expression is (Ev, EvA). -/
namespace PL
open PySem PySem.Spec PyProof.Rows L2
section
variable {X : Cx} {W : WX} {Ξ : Xi} {a : Expr} {es : List Expr} {p pos : Pos}
def oAbs : OPC
  | [.int i], Q => Q (.int (if i < 0 then -i else i))
  | _, _ => False
theorem cy_abs : CallY X (.builtin "abs") oAbs := by
  refine ⟨_, call_abs, fun F Hs σ H ε vs ds Q' Q R r q k => ?_⟩
  unfold oAbs at q
  split at q
  · obtain ⟨v, rfl, rv⟩ := r.one
    exact ⟨_, by rw [rv.int'], k _ H Hs _ (Evl.Ex.refl _) R (.int _) q⟩
  · exact q.elim
def oGcd : OPC
  | [.int i, .int j], Q => Q (.int ((Nat.gcd i.natAbs j.natAbs : Nat) : Int))
  | _, _ => False
theorem cy_gcd : CallY X (.builtin "math.gcd") oGcd := by
  refine ⟨_, cr_gcd, fun F Hs σ H ε vs ds Q' Q R r q k => ?_⟩
  unfold oGcd at q
  split at q
  · obtain ⟨v, w, rfl, rv, rw'⟩ := r.two
    exact ⟨_, _, by rw [rv.int', rw'.int'], k _ H Hs _ (Evl.Ex.refl _) R (.int _) q⟩
  · exact q.elim
/-- f(e, ..), f a module's name for a built-in function -/
theorem ye_callBf {o : OPC} {x : Str} {id : String} {rs : PTL} (hc : CallY X (.builtin id) o) (hg : Gl X x) (hm : X.mg x = some (.builtin id)) (h : YL X W Ξ (a :: es) rs) (hdb : (x == ("__debug__" : Str)) = false := by decide)
    (he : starEach (a :: es) X.env = (false, eval a X.env) :: starEach es X.env := by rfl) (hpl : (backTo pos (starEach es X.env)).any (·.1) = false := by rfl) : YE X W Ξ (.Call (.Name x p) (a :: es) [] pos) (yCB o rs) := by
  obtain ⟨r, hr, hh⟩ := hc
  obtain ⟨ts, ps, ks⟩ := h.ex
  exact ⟨_, pe_callBfun hr hg hm ps hdb he hpl, cb_core (f := .builtin id) hh ks⟩
def oMulW : OP2
  | .int i, .int j, Q => CMulW i j ∧ Q (.int (i * j))
  | _, _, _ => False
theorem oy_mulW : OpY X (binaryOp .Mult) oMulW := by
  refine ⟨_, op_mulW, fun F Hs σ H ε v w d1 d2 Q' Q R r1 r2 q k => ?_⟩
  unfold oMulW at q
  split at q
  · exact ⟨_, _, r1.int', r2.int', q.1, k _ H Hs _ (Evl.Ex.refl _) R (.int _) q.2⟩
  · exact q.elim
def oFdivW : OP2
  | .int i, .int j, Q => CDivW i j ∧ Q (.int (i / j))
  | _, _, _ => False
theorem oy_fdivW : OpY X (binaryOp .FloorDiv) oFdivW := by
  refine ⟨_, op_fdivW, fun F Hs σ H ε v w d1 d2 Q' Q R r1 r2 q k => ?_⟩
  unfold oFdivW at q
  split at q
  · exact ⟨_, _, r1.int', r2.int', q.1, k _ H Hs _ (Evl.Ex.refl _) R (.int _) q.2⟩
  · exact q.elim
end
/-! ### what an expression is -/
def Ev (r : PTE) (ε : PEnv) (d : D) : Prop := ∀ Q : T → PEnv → Prop, Q (.d d) ε → r ε Q
def EvA (r : PTE) (ε : PEnv) (P : D → Prop) : Prop := ∀ Q : T → PEnv → Prop, (∀ d, P d → Q (.d d) ε) → r ε Q
section
variable {ε : PEnv} {d d1 d2 p : D} {P P1 P2 P3 : D → Prop} {r r1 r2 r3 : PTE} {Δ : PEnds} {Ξ : Xi} {φ : Spec} {i j : Nat} {A B : PTS}
theorem Ev.any (h : Ev r ε d) (hp : P d) : EvA r ε P := fun Q k => h _ (k d hp)
theorem Ev.c : Ev (yC d) ε d := fun _ q => q
theorem Ev.var (h : ε[i]? = some (some (.v d))) : Ev (yVar i) ε d := fun Q q => by
  unfold yVar
  rw [h]
  exact q
theorem Ev.add {xs ys : List D} (h1 : Ev r1 ε (.lst xs)) (h2 : Ev r2 ε (.lst ys)) (hl : xs.length + ys.length ≤ 16777216) : Ev (yBin oAdd r1 r2) ε (.lst (xs ++ ys)) := fun Q q => by
  have e : oAdd (.lst xs) (.lst ys) fun d => Q (.d d) ε := gd_of hl q
  exact h1 _ (h2 _ e)
theorem Ev.addI {i j : Int} (h1 : Ev r1 ε (.int i)) (h2 : Ev r2 ε (.int j)) : Ev (yBin oAdd r1 r2) ε (.int (i + j)) := fun Q q => h1 _ (h2 _ q)
theorem Ev.subI {i j : Int} (h1 : Ev r1 ε (.int i)) (h2 : Ev r2 ε (.int j)) : Ev (yBin oSub r1 r2) ε (.int (i - j)) := fun Q q => h1 _ (h2 _ q)
theorem Ev.negI {i : Int} (h1 : Ev r ε (.int i)) : Ev (yNeg r) ε (.int (-i)) := fun Q q => h1 _ q
theorem Ev.mulW {i j : Int} (h1 : Ev r1 ε (.int i)) (h2 : Ev r2 ε (.int j)) (h : CMulW i j) : Ev (yBin oMulW r1 r2) ε (.int (i * j)) := fun Q q => by
  have e : oMulW (.int i) (.int j) fun d => Q (.d d) ε := ⟨h, q⟩
  exact h1 _ (h2 _ e)
theorem Ev.fdivW {i j : Int} (h1 : Ev r1 ε (.int i)) (h2 : Ev r2 ε (.int j)) (h : CDivW i j) : Ev (yBin oFdivW r1 r2) ε (.int (i / j)) := fun Q q => by
  have e : oFdivW (.int i) (.int j) fun d => Q (.d d) ε := ⟨h, q⟩
  exact h1 _ (h2 _ e)
theorem call_ev1 (h1 : Ev r1 ε d1) (h : ∀ (K : D → Prop) (E : Nat → Prop), K p → φ [d1] K E) : Ev (yCall φ Ξ (ylCons r1 ylNil)) ε p := fun Q q => h1 _ (h _ _ q)
theorem call_ev2 (h1 : Ev r1 ε d1) (h2 : Ev r2 ε d2) (h : ∀ (K : D → Prop) (E : Nat → Prop), K p → φ [d1, d2] K E) : Ev (yCall φ Ξ (ylCons r1 (ylCons r2 ylNil))) ε p := fun Q q => h1 _ (h2 _ (h _ _ q))
theorem call_ev3 {d3 : D} (h1 : Ev r1 ε d1) (h2 : Ev r2 ε d2) (h3 : Ev r3 ε d3) (h : ∀ (K : D → Prop) (E : Nat → Prop), K p → φ [d1, d2, d3] K E) : Ev (yCall φ Ξ (ylCons r1 (ylCons r2 (ylCons r3 ylNil)))) ε p := fun Q q => h1 _ (h2 _ (h3 _ (h _ _ q)))
theorem asg_ev (h : Ev r ε d) (k : Δ.nx (ε.set i (some (.v d)))) : ysAsg r i Δ ε := h _ k
theorem asg_evA (h : EvA r ε P) (k : ∀ d, P d → Δ.nx (ε.set i (some (.v d)))) : ysAsg r i Δ ε := h _ k
theorem ret_ev (h : Ev r ε d) (k : Δ.rt d ε) : ysRet r Δ ε := h _ k
theorem par_ev (h1 : EvA r1 ε P) (h2 : Ev r2 ε d2) (k : ∀ d, P d → Δ.nx ((ε.set i (some (.v d))).set j (some (.v d2)))) : ysPar i j (yxE r1) (yxE r2) Δ ε := h1 _ fun d hd => h2 _ (k d hd)
theorem par_evA (h1 : EvA r1 ε P1) (h2 : EvA r2 ε P2) (k : ∀ d e, P1 d → P2 e → Δ.nx ((ε.set i (some (.v d))).set j (some (.v e)))) : ysPar i j (yxE r1) (yxE r2) Δ ε := h1 _ fun d hd => h2 _ fun e he => k d e hd he
theorem ifn (h : Ev r ε (.bl true)) (k : B Δ ε) : ysIf (yNot (yTru r)) A B Δ ε := h _ k
theorem ifnn (h1 : Ev r1 ε (.bl true)) (h2 : Ev r2 ε (.bl true)) (k : B Δ ε) : ysIf (yOr (yNot (yTru r1)) (yNot (yTru r2))) A B Δ ε := h1 _ (h2 _ k)
/-- a test of two ints -/
theorem if_int {x y : Int} {f : Int → Int → Bool} (h1 : Ev r1 ε (.int x)) (h2 : Ev r2 ε (.int y)) (k : match f x y with
    | true => A Δ ε
    | false => B Δ ε) : ysIf (yBinT (oCmpI f) r1 r2) A B Δ ε := by
  have e : oCmpI f (.int x) (.int y) (asB fun b => match b with
    | true => A Δ ε
    | false => B Δ ε) := k
  exact h1 _ (h2 _ e)
theorem yes_ev {re : PTE} {K : T → PEnv → Prop} {N : PEnv → Prop} (h : Ev re ε d) (k : K (.d d) ε) : yYes ε (fun k ε3 => match k with
    | true => re ε3 K
    | false => N ε3) := h _ k
theorem gn_of {Q : PEnv → Prop} (h : Q (ε.set i (some (.v d)))) : gN i d ε Q := h
theorem lst3_evA (h1 : EvA r1 ε P1) (h2 : EvA r2 ε P2) (h3 : EvA r3 ε P3) : EvA (yNew (ynLst (ylCons r1 (ylCons r2 (ylCons r3 ylNil))))) ε fun d => ∃ d1 d2 d3, P1 d1 ∧ P2 d2 ∧ P3 d3 ∧ d = .lst [d1, d2, d3] := fun Q k => h1 _ fun d1 p1 => h2 _ fun d2 p2 => h3 _ fun d3 p3 => k _ ⟨d1, d2, d3, p1, p2, p3, rfl⟩
end
end PL

set_option Elab.async false
set_option linter.all false
set_option autoImplicit false
set_option maxRecDepth 100000
set_option maxHeartbeats 2000000
/-! A list becomes the stream amid a def; a draw that tells the length; what a call gives back is held open. -/
namespace PL
open PySem PySem.Spec PyProof.Rows L2
open Evl (Ex)
/-! ### one tracked object told otherwise, amid a def -/
theorem inv_retell {X : Cx} {pins : List (Addr × Obj)} {σ : St} {H : Hp} {s : Shared} {p : Addr} {o o' : HO} (I : Inv X pins σ H s) (hp : H p = some o) (n1 : ∀ a, o ≠ .own a) (n2 : ∀ xs, o ≠ .tup xs) (n3 : ∀ a u, o ≠ .frz a u) (n4 : ∀ ps, o ≠ .tbl ps)
    (new : ObjOk X.prog X.w (upd H p o') s.heap p o') : Inv X pins σ (upd H p o') s := by
  have ne : ∀ {b : Addr}, H b = none → b ≠ p := fun {b} e z => by
    rw [z, hp] at e
    cases e
  refine ⟨I.ok, I.os, I.bare, ⟨I.base.keep, I.base.slot, fun b ob q n hx => ?_, I.base.there, fun b xs q => ?_, fun b ob u q => ?_, fun b ps q => ?_⟩, I.loc, I.cell, ?_, fun x c e => ?_, fun q hq => ?_, retell_ok I.hok hp n1 n2 new, I.len⟩
  · have e := I.base.free b ob q n hx
    rw [upd_ne (ne e)]
    exact e
  · have e := I.base.tups b xs q
    rw [upd_ne (fun z => by rw [z, hp] at e; exact n2 _ (Option.some.inj e))]
    exact e
  · have e := I.base.frzs b ob u q
    rw [upd_ne (fun z => by rw [z, hp] at e; exact n3 _ _ (Option.some.inj e))]
    exact e
  · obtain ⟨more, e⟩ := I.base.tbls b ps q
    refine ⟨more, ?_⟩
    rw [upd_ne (fun z => by rw [z, hp] at e; exact n4 _ (Option.some.inj e))]
    exact e
  · rw [upd_ne (ne I.free)]
    exact I.free
  · have e2 := I.freeC x c e
    rw [upd_ne (ne e2)]
    exact e2
  · obtain ⟨h1, h2, h3⟩ := I.pin q hq
    refine ⟨h1, ?_, h3⟩
    rw [upd_ne (ne h2)]
    exact h2
/-- H2 is H, or the list at p is the stream there -/
def Turned (p : Addr) (H H2 : Hp) : Prop := H2 = H ∨ ∃ ns : List Int, H p = some (.lst (ns.map V.int)) ∧ PoolOk ns ∧ H2 = upd H p (.ext (PoolAt p))
theorem pss_turn {X : Cx} {ss : List Stmt} {t : TS} (h : PSs X ss t) : PSs X ss (fun D σ H => ∃ p H2, Turned p H H2 ∧ t D σ H2) := ⟨fun pins s σ H D I ⟨p, H2, tu, q⟩ => by
  rcases tu with rfl | ⟨ns, hp, ok, rfl⟩
  · exact h.run pins s σ _ D I q
  · exact h.run pins s σ _ D (inv_retell I hp (fun a z => by cases z) (fun a z => by cases z) (fun a u z => by cases z) (fun a z => by cases z) (pool_obj (I.hok p _ hp) ok _)) q⟩
/-! ### a def with a promise told over the heap -/
structure CallS (P : Program) (w : World) (K : PySem.W.Frag) (mg : Str → Option Value) (base : Heap) (k : Nat) (x : Str) (ps : List Str) (sp : Sp) : Prop where
  fn : ∃ fd, FnOk P w K mg base (L2.CX P w) k (He.ga K x) fd ps sp ∧ (∃ oc od sl, K.lookup (He.ga K x) = some ⟨oc, od, .func fd, sl⟩) ∧ ∀ (s : Shared) (us : List Value), us.length = ps.length → BindsTo s fd ⟨us, []⟩ (ps.zip us)
  kp : PySem.W.keepIn K (.ref (He.ga K x)) = true
  gl : mg x = some (.ref (He.ga K x))
theorem CallOk.raw {P : Program} {w : World} {K : PySem.W.Frag} {mg : Str → Option Value} {base : Heap} {k : Nat} {x : Str} {ps : List Str} {φ : Spec} (C : CallOk P w K mg base k x ps φ) : CallS P w K mg base k x ps (pSp K φ) := ⟨C.fn, C.kp, C.gl⟩
theorem peS {X : Cx} {W : WX} {k : Nat} {x : Str} {ps : List Str} {sp : Sp} (C : CallS X.prog X.w X.K X.mg X.base k x ps sp) (tk : Takes X W) (hr : Room k X.A) :
    ∃ Et : St → XK, ∀ {e : Expr} {es : List Expr} {t : TA} {p pos : Pos}, PA X (e :: es) t → Gl X x → (x == ("__debug__" : Str)) = false → starEach (e :: es) X.env = (false, eval e X.env) :: starEach es X.env → (backTo pos (starEach es X.env)).any (·.1) = false → PE X (.Call (.Name x p) (e :: es) [] pos) (tCallS sp Et t) := by
  obtain ⟨⟨fd, F, _, b⟩, kp, gl⟩ := C
  exact ⟨_, fun ha hg hdb he hpl => pe_callS F hr hg gl kp (fun s us _ hl => by rw [List.append_nil] at hl ⊢; exact b s us hl) (fun σ => passAt tk σ) ha hdb he hpl⟩
theorem CallS.imp {P : Program} {w : World} {K : PySem.W.Frag} {mg : Str → Option Value} {base : Heap} {k : Nat} {x : Str} {ps : List Str} {sp sp' : Sp} (C : CallS P w K mg base k x ps sp) (h : ∀ vs H Q E, sp' vs H Q E → sp vs H Q E) : CallS P w K mg base k x ps sp' := by
  obtain ⟨⟨fd, F, l, b⟩, kp, gl⟩ := C
  exact ⟨⟨fd, F.imp h, l, b⟩, kp, gl⟩
/-! ### a draw -/
def spPickL : Sp := fun vs H Q _ => ∃ (p : Addr) (n : Int) (ns : List Int), vs = [.ref p, .int n] ∧ H p = some (.lst (ns.map V.int)) ∧ PoolOk ns ∧ 0 < n ∧
  ∀ (r : Int) (ns' : List Int), 0 ≤ r → r < n → PoolOk ns' → ns'.length = ns.length → Q (.int r) (upd H p (.lst (ns'.map V.int)))
theorem pick_pureL {K : PySem.W.Frag} {vs : List V} {H : Hp} {Q : VK} {E : XK} (h : spPickL vs H Q E) : t_pick K { nx := fun _ H' => Q .non H', rt := Q } (L2.start ["pool", "many", "place"] vs) H := by
  obtain ⟨p, n, ns, rfl, hH, ⟨hl1, hl2, c, hc, c1, c2⟩, hn, hQ⟩ := h
  cases ns with
  | nil => cases hc
  | cons c' tl =>
    obtain rfl : c' = c := Option.some.inj hc
    have fin : ∀ (d : Int) (H' : Hp), H' = upd H p (.lst ((d :: tl).map V.int)) → PoolOk (d :: tl) →
        (tRet (tOp (rI (fun _ j => 0 < j) fun i j => V.int (i % j))
            (tCB (fun xs H Q => (∃ i, xs = [V.int i] ∧ Q (V.int i) H) ∨ ∃ k, xs = [V.bl k] ∧ Q (V.int (if k = true then 1 else 0)) H)
              (tCons (tOp (rIxL K) (tVar 0) (tVar 2)) tNil))
            (tVar 1))) { nx := fun _ H' => Q .non H', rt := Q } [some (.ref p), some (.int n), some (.int c')] H' := by
      intro d H' hH' ok
      subst hH'
      have hlen : c' < ((d :: tl).length : Int) := c2
      obtain ⟨x, hx, _⟩ := atI_in (xs := d :: tl) (i := c') (by omega) hlen
      refine ⟨_, rfl, _, rfl, p, (d :: tl).map V.int, c', .int x, rfl, rfl, SqL.of upd_same, atI_int hx, .inl ⟨x, rfl, _, rfl, x, n, rfl, rfl, hn, ?_⟩⟩
      exact hQ _ (d :: tl) (Int.emod_nonneg _ (by omega)) (Int.emod_lt_of_pos _ hn) ok rfl
    refine ⟨_, rfl, p, _, 0, .int c', rfl, rfl, SqL.of hH, at0, ?_⟩
    refine ⟨_, rfl, c', 1, rfl, rfl, ?_⟩
    refine ⟨_, rfl, p, _, 0, 0, rfl, rfl, hH, ix0 (by rw [List.length_map]; exact Nat.succ_pos _), ?_⟩
    refine ⟨_, rfl, p, _, 0, .int (c' + 1), rfl, rfl, SqL.of upd_same, at0, ?_⟩
    refine ⟨_, rfl, .ref p, (((c' + 1) :: tl).map V.int).length, rfl, .inl ⟨_, SqL.of upd_same, rfl⟩, ?_⟩
    refine ⟨rfl, _, rfl, ?_⟩
    have hm : (((c' + 1) :: tl).map V.int).length = tl.length + 1 := by rw [List.length_map]; rfl
    have hd : decide (V.int (c' + 1) = V.int ((((c' + 1) :: tl).map V.int).length : Nat)) = decide (c' + 1 = ((tl.length + 1 : Nat) : Int)) := by
      rw [hm]
      by_cases q : c' + 1 = ((tl.length + 1 : Nat) : Int)
      · rw [decide_eq_true q, decide_eq_true (by rw [q])]
      · rw [decide_eq_false q, decide_eq_false (fun z => q (V.int.inj z))]
    show (if decide (V.int (c' + 1) = V.int ((((c' + 1) :: tl).map V.int).length : Nat)) = true then _ else _)
    rw [hd]
    have hl : (((c' :: tl).length : Nat) : Int) = ((tl.length + 1 : Nat) : Int) := rfl
    by_cases q : c' + 1 = ((tl.length + 1 : Nat) : Int)
    · rw [if_pos (decide_eq_true q)]
      refine ⟨_, rfl, p, _, 0, 0, rfl, rfl, upd_same, ix0 (by rw [List.length_set, List.length_map]; exact Nat.succ_pos _), ?_⟩
      refine fin 1 _ ?_ ⟨hl1, hl2, 1, rfl, by decide, by show (1 : Int) < ((tl.length + 1 : Nat) : Int); replace hl1 : 2 ≤ tl.length + 1 := hl1; omega⟩
      rw [upd_upd]
      rfl
    · rw [if_neg (by rw [decide_eq_false q]; exact Bool.false_ne_true)]
      refine fin (c' + 1) _ rfl ⟨hl1, hl2, c' + 1, rfl, by omega, by show c' + 1 < ((tl.length + 1 : Nat) : Int); rw [hl] at c2; omega⟩
/-! ### the stream, a list that is nobody's -/
def φNew (N : Nat) : Spec
  | [.frl ds], Q, _ => ∃ xs : List Int, ds = xs.map D.int ∧ xs.length ≤ 63 ∧ ∀ ns : List Int, PoolOk ns → ns.length ≤ N → Q (.lst (ns.map D.int))
  | _, _, _ => False
def spStream (K : PySem.W.Frag) (N : Nat) : Sp := fun vs H Q _ => ∃ (a : Addr) (xs : List Int), vs = [.ref a] ∧ FrL K H a (xs.map V.int) ∧ xs.length ≤ 63 ∧
  ∀ (p : Addr) (ns : List Int) (H' : Hp), PoolOk ns → ns.length ≤ N → H p = none → (∀ b o, H b = some o → H' b = some o) → H' p = some (.lst (ns.map V.int)) → Q (.ref p) H'
theorem stream_raw {K : PySem.W.Frag} {N : Nat} {vs : List V} {H : Hp} {Q : VK} {E : XK} (h : spStream K N vs H Q E) : pSp K (φNew N) vs H Q E := by
  obtain ⟨a, xs, rfl, hs, hx, h⟩ := h
  have hs2 : FrL K (locked H) a (xs.map V.int) := by
    rcases hs with ⟨o, hs⟩ | hs
    · refine .inl ⟨o, ?_⟩
      unfold locked
      rw [hs]
    · exact .inr hs
  refine ⟨locked H, _, fun d => ∃ ns, PoolOk ns ∧ ns.length ≤ N ∧ d = .lst (ns.map D.int), fun _ => False, locked_ex, .cons (.frl hs2 (Reps.ints xs)) .nil, ⟨xs, rfl, hx, fun ns ok hl => ⟨ns, ok, hl, rfl⟩⟩, fun d ⟨ns, ok, hl, e⟩ v H' Hs' kp rv => ?_, fun _ z => z.elim⟩
  subst e
  cases rv with
  | lst hp rr2 =>
    rename_i p ws
    have e2 := rr2.inv_ints
    subst e2
    have lp : locked H p = none := by
      cases e : locked H p with
      | none => rfl
      | some o =>
        have e2 := kp.1 _ _ e
        rw [hp] at e2
        unfold locked at e
        split at e
        · cases e
          cases e2
        · cases e
    have hH : H p = none := by
      cases e : H p with
      | none => rfl
      | some o =>
        have e2 := (kp.2.2 p o e lp).2
        rw [hp] at e2
        cases e2
    have old : ∀ b o, H b = some o → H' b = some o := fun b o q => by
      cases e : locked H b with
      | none => exact (kp.2.2 b o q e).1
      | some o' =>
        have q2 := locked_ex b o' e
        rw [q] at q2
        cases q2
        exact kp.2.1 _ _ (kp.1 _ _ e)
    exact h p ns H' ok hl hH old (kp.2.1 _ _ hp)
/-! ### what a call gives back is held open -/
theorem hold_rel {K : PySem.W.Frag} {F Hs H H' Hs' : Hp} {σ : St} {ε : PEnv} {h : Addr} {vs : List V} {v : V} {sz : List D} {rD : D} (R : RelS K F Hs σ H ε) (hh : H h = some (.lst vs)) (hs : Hs h = none) (hF : F h = none) (own : Nobody σ ε h)
    (kp : Keeps (upd (noL Hs) h (.lst vs)) H Hs' H') (rv : Rep K Hs' v (.tup [.lst sz, rD])) (n1 : noLsts sz = true) (n2 : noLst rD = true) :
    ∃ (Hs2 : Hp) (t s : Addr) (vr : V) (xs : List V), Ex Hs Hs2 ∧ v = .ref t ∧ SqT K Hs2 t [.ref s, vr] ∧ Rep K Hs2 vr rD ∧ Reps K Hs2 xs sz ∧ F s = none ∧ Nobody σ ε s ∧ RelS K (upd F s (.lst xs)) Hs2 σ H' ε := by
  obtain ⟨k1, k2, k3⟩ := kp
  have cIn : ∀ b u, upd (noL Hs) h (.lst vs) b = some u → H b = some u ∧ (b = h ∨ Hs b = some u) := fun b u e => by
    by_cases hb : b = h
    · subst hb
      rw [upd_same] at e
      cases e
      exact ⟨hh, .inl rfl⟩
    · rw [upd_ne hb] at e
      have e2 := noL_ex b u e
      exact ⟨R.ex b u e2, .inr e2⟩
  have keep : ∀ b u, H b = some u → H' b = some u := fun b u e => by
    cases c : upd (noL Hs) h (.lst vs) b with
    | none => exact (k3 b u e c).1
    | some u' =>
      have e2 := (cIn b u' c).1
      rw [e] at e2
      cases e2
      exact k2 b u (k1 b u c)
  have new : ∀ b u, Hs' b = some u → (b = h ∨ Hs b = some u) ∨ (H b = none ∧ H' b = some u) := fun b u e => by
    cases c : upd (noL Hs) h (.lst vs) b with
    | some u' =>
      have e2 := k1 b u' c
      rw [e] at e2
      cases e2
      exact .inl (cIn b u c).2
    | none =>
      refine .inr ⟨?_, k2 b u e⟩
      cases hb : H b with
      | none => rfl
      | some u' =>
        have := (k3 b u' hb c).2
        rw [e] at this
        cases this
  cases rv with
  | tup s1 r1 =>
    rename_i t ws
    cases r1 with
    | cons r1 r2 =>
      cases r2 with
      | cons r2 r3 =>
        cases r3
        cases r1 with
        | lst hsx rsx =>
          rename_i vr s xs
          have sNew : s = h ∨ H s = none := by
            rcases new s _ hsx with (z | z) | z
            · exact .inl z
            · by_cases hb : s = h
              · exact .inl hb
              · exfalso
                cases c : upd (noL Hs) h (.lst vs) s with
                | some u' =>
                  have e2 := k1 s u' c
                  rw [hsx] at e2
                  cases e2
                  rw [upd_ne hb] at c
                  unfold noL at c
                  split at c <;> cases c
                | none =>
                  have := (k3 s _ (R.ex _ _ z) c).2
                  rw [hsx] at this
                  cases this
            · exact .inr z.1
          have sHs : Hs s = none := by
            rcases sNew with z | z
            · rw [z]; exact hs
            · exact Evl.fresh_back R.ex z
          have sF : F s = none := by
            rcases sNew with z | z
            · rw [z]; exact hF
            · exact (R.nobody z).2.1
          have sOwn : Nobody σ ε s := by
            rcases sNew with z | z
            · rw [z]; exact own
            · exact (R.nobody z).2.2
          let Hs2 : Hp := fun b => match Hs b with
            | some u => some u
            | none => if b = s then none else Hs' b
          have d1 : ∀ b u, Hs b = some u → Hs2 b = some u := fun b u e => by show (match Hs b with | some u => some u | none => if b = s then none else Hs' b) = _; rw [e]
          have d2 : ∀ b, Hs b = none → b ≠ s → Hs2 b = Hs' b := fun b e n => by show (match Hs b with | some u => some u | none => if b = s then none else Hs' b) = _; rw [e]; exact if_neg n
          have d3 : Hs2 s = none := by show (match Hs s with | some u => some u | none => if s = s then none else Hs' s) = _; rw [sHs]; exact if_pos rfl
          have d4 : ∀ b u, Hs2 b = some u → H' b = some u := fun b u e => by
            cases c : Hs b with
            | some u' =>
              rw [d1 b u' c] at e
              cases e
              exact keep b u (R.ex b u c)
            | none =>
              by_cases hb : b = s
              · rw [hb, d3] at e; cases e
              · rw [d2 b c hb] at e
                exact k2 b u e
          have d5 : ∀ b u, b ≠ s → Hs' b = some u → Hs2 b = some u := fun b u n e => by
            cases c : Hs b with
            | none => rw [d2 b c n]; exact e
            | some u' =>
              rw [d1 b u' c]
              have e1 := keep b u' (R.ex b u' c)
              rw [k2 b u e] at e1
              exact e1.symm
          have d6 : ∀ b, Hs b = none → H b ≠ none → b ≠ h → b ≠ s → Hs2 b = none := fun b c n1 n2 n3 => by
            rw [d2 b c n3]
            cases e : Hs' b with
            | none => rfl
            | some u =>
              rcases new b u e with (z | z) | z
              · exact (n2 z).elim
              · rw [c] at z; cases z
              · exact (n1 z.1).elim
          have up : Ex (noL Hs') Hs2 := fun b u e => by
            refine d5 b u (fun z => ?_) (noL_ex b u e)
            subst z
            unfold noL at e
            rw [hsx] at e
            cases e
          refine ⟨Hs2, t, s, vr, xs, d1, rfl, Evl.ex_t up (noL_tup s1), (rep_noL r2 n2).mono up, (reps_noL rsx n1).mono up, sF, sOwn, ?_⟩
          have slotNe : ∀ q o, H q = some o → q ≠ h → q ≠ s := fun q o e n z => by
            rcases sNew with y | y
            · exact n (z.trans y)
            · rw [z, y] at e; cases e
          refine ⟨d4, fun b u e => ?_, R.len, fun i st e => ?_, R.ds⟩
          · by_cases hb : b = s
            · subst hb
              rw [upd_same] at e
              cases e
              exact ⟨k2 _ _ hsx, d3⟩
            · rw [upd_ne hb] at e
              obtain ⟨f1, f2⟩ := R.fr b u e
              exact ⟨keep b u f1, d6 b f2 (by rw [f1]; exact fun z => by cases z) (fun z => by rw [z, hF] at e; cases e) hb⟩
          · have z := R.sl i st e
            cases st with
            | v d =>
              obtain ⟨w, h1, h2⟩ := z
              exact ⟨w, h1, h2.mono d1⟩
            | o ds =>
              obtain ⟨q, ys, h1, h2, h3, h4, h5⟩ := z
              have nh : q ≠ h := fun y => own i _ e rfl (by rw [← y]; exact h1)
              have ns := slotNe q _ h4 nh
              exact ⟨q, ys, h1, d6 q h2 (by rw [h4]; exact fun z => by cases z) nh ns, by rw [upd_ne ns]; exact h3, keep _ _ h4, h5.mono d1⟩
            | od ds =>
              obtain ⟨q, ys, h1, h2, h3, h4, h5, h6⟩ := z
              have nh : q ≠ h := fun y => own i _ e rfl (by rw [← y]; exact h1)
              have ns := slotNe q _ h4 nh
              exact ⟨q, ys, h1, d6 q h2 (by rw [h4]; exact fun z => by cases z) nh ns, by rw [upd_ne ns]; exact h3, keep _ _ h4, h5, h6.mono d1⟩
/-! ### a for whose turns change what is held -/
def forNX (K : PySem.W.Frag) (I : Nat → Hp → Hp → PEnv → Prop) (Hb : Hp) (j : Nat) : St → Hp → Prop := fun σ H => ∃ (F Hs : Hp) (ε : PEnv), Ex Hb Hs ∧ RelS K F Hs σ H ε ∧ I j F Hs ε
theorem ps_for2 {X : Cx} {W : WX} {tg it : Expr} {ri : PTN} {g : PTG} {sl : List Nat} {body : List Stmt} {tb : TS} {pos : Pos} (hp : PassesOwn (model X.prog X.w) X.A X.env X.xe) (hc : X.calm = true) (hi : YI X W Ξ0 tg it ri) (hg : YG X tg g sl) (hb : PSs X body tb)
    (hs : ∀ x, foldedSetIterable it X.env x = pure x) : ∃ t, PS X (.For tg it body [] pos) t ∧
    ∀ (Dd : Ends) (F Hs : Hp) (σ : St) (H : Hp) (ε : PEnv) (I : List D → Nat → Hp → Hp → PEnv → Prop), RelS X.K F Hs σ H ε → (ri ε fun ds ε' => ∀ Hs', Ex Hs Hs' → I ds 0 F Hs' ε') →
      (∀ ds i F Hs Hs' ε, Ex Hs Hs' → I ds i F Hs ε → I ds i F Hs' ε) →
      (∀ (ds : List D) (Hb : Hp) (i : Nat) (d : D) (F Hs : Hp) (σ : St) (H : Hp) (ε : PEnv), Ex Hb Hs → RelS X.K F Hs σ H ε → I ds i F Hs ε → ds[i]? = some d →
        ∃ ε2, (g d ε fun ε' => ε' = ε2) ∧ ∀ (Hs2 : Hp) (σ2 : St) (H2 : Hp), Ex Hs Hs2 → RelS X.K F Hs2 σ2 H2 ε2 → tb { Dd with nx := forNX X.K (I ds) Hb (i + 1), ct := forNX X.K (I ds) Hb (i + 1), bk := Dd.nx } σ2 H2) →
      (∀ (ds : List D) (F Hs : Hp) (σ : St) (H : Hp) (ε : PEnv), RelS X.K F Hs σ H ε → I ds ds.length F Hs ε → Dd.nx σ H) → t Dd σ H := by
  obtain ⟨wi, pit, ki⟩ := hi.ex
  obtain ⟨tg', pg, kg⟩ := hg.ex
  refine ⟨_, ps_for hp hc pit pg hb hs, fun Dd F Hs σ H ε I R q mono st en => ?_⟩
  refine ki F Hs σ H ε _ _ R Lk.none q fun J H4 Hs4 ds4 ε4 e4 R4 sq q4 => ?_
  refine ⟨fun i m σ H => m = ds4.length - i ∧ i ≤ ds4.length ∧ forNX X.K (I ds4) Hs4 i σ H, ⟨ds4.length, rfl, Nat.zero_le _, F, Hs4, ε4, Evl.Ex.refl _, R4, q4 _ e4⟩, ?_⟩
  rintro i m σ5 H5 ⟨rfl, hil, F5, Hc, ε5, ec, R5, i5⟩
  by_cases hlt : i < ds4.length
  · refine .inr ⟨sq.go i H5 (ec.trans R5.ex) hlt, forNX X.K (I ds4) Hs4 (i + 1), fun σ' H' n' => ⟨ds4.length - (i + 1), by omega, rfl, hlt, n'⟩, fun x H6 y => ?_⟩
    obtain ⟨Hc6, d, e6, R6, hd, rx⟩ := sq.yld i _ Hc σ5 H5 _ x H6 ec R5 hlt y
    obtain ⟨ε2, hg2, body⟩ := st ds4 Hs4 i d F5 Hc6 σ5 H6 ε5 (ec.trans e6) R6 (mono ds4 i F5 Hc Hc6 ε5 e6 i5) hd
    refine kg F5 Hc6 σ5 H6 _ x d _ _ R6 rx hg2 fun σ7 H7 Hc7 ε7 e7 _ R7 q7 => ?_
    subst q7
    exact body Hc7 σ7 H7 e7 R7
  · have ei : i = ds4.length := by omega
    subst ei
    exact .inl ⟨sq.stop _ H5 (ec.trans R5.ex) (Nat.le_refl _), en ds4 F5 Hc σ5 H5 ε5 R5 i5⟩
/-- a list that is lent may be changed -/
theorem RelS.turn {K : PySem.W.Frag} {F Hs H : Hp} {σ : St} {ε : PEnv} {p : Addr} {o o' : HO} (hF : F p = none) (R : RelS K (upd F p o) Hs σ H ε) : RelS K (upd F p o') Hs σ (upd H p o') ε := by
  obtain ⟨hH, hp⟩ := R.fr p o upd_same
  refine ⟨fun a u q => ?_, fun a u q => ?_, R.len, fun j t q => ?_, R.ds⟩
  · rw [upd_ne (ne_of_none q hp)]
    exact R.ex a u q
  · by_cases ha : a = p
    · subst ha
      rw [upd_same] at q ⊢
      cases q
      exact ⟨rfl, hp⟩
    · rw [upd_ne ha] at q ⊢
      exact R.fr a u (by rw [upd_ne ha]; exact q)
  · have z := R.sl j t q
    have nF : ∀ b, upd F p o b = none → b ≠ p ∧ upd F p o' b = none := fun b e => by
      by_cases hb : b = p
      · subst hb
        rw [upd_same] at e
        cases e
      · rw [upd_ne hb] at e
        exact ⟨hb, by rw [upd_ne hb]; exact e⟩
    cases t with
    | v d' => exact z
    | o ds =>
      obtain ⟨b, vs, h1, h2, h3, h4, h5⟩ := z
      obtain ⟨n1, n2⟩ := nF b h3
      exact ⟨b, vs, h1, h2, n2, by rw [upd_ne n1]; exact h4, h5⟩
    | od ds =>
      obtain ⟨b, vs, h1, h2, h3, h4, h5, h6⟩ := z
      obtain ⟨n1, n2⟩ := nF b h3
      exact ⟨b, vs, h1, h2, n2, by rw [upd_ne n1]; exact h4, h5, h6⟩
/-- a statement told over plain data, run from a state -/
theorem ys_run {X : Cx} {W : WX} {s : Stmt} {r : PTS} (h : YS X W Ξ0 s r) : ∃ t, PS X s t ∧ ∀ (Dd : Ends) (F Hs : Hp) (σ : St) (H : Hp) (ε : PEnv) (G : PEnv → Prop), RelS X.K F Hs σ H ε → r { nx := G, rt := fun _ _ => False } ε →
    (∀ (Hs' : Hp) (σ' : St) (H' : Hp) (ε' : PEnv), Ex Hs Hs' → RelS X.K F Hs' σ' H' ε' → G ε' → Dd.nx σ' H') → t Dd σ H := by
  obtain ⟨t, p, k⟩ := h.ex
  exact ⟨t, p, fun Dd F Hs σ H ε G R q kk => k F Hs σ H ε { nx := G, rt := fun _ _ => False } Dd R Lk.none q ⟨fun σ' H' Hs' ε' e' R' q' => kk Hs' σ' H' ε' e' R' q', fun _ _ _ _ _ _ _ _ _ z => z.elim, fun _ _ _ _ _ _ z => z.elim, fun _ _ _ _ _ _ z => z.elim⟩⟩
/-- a call whose list is new and whose pair's list is held open -/
theorem hold_call {X : Cx} {W : WX} {eL : Expr} {rL : PTN} {φ : Spec} (hL : YN X W Ξ0 eL rL) : ∃ tL, PE X eL tL ∧ ∀ (Et : St → XK) (j : Nat) (F Hs : Hp) (σ : St) (H : Hp) (ε : PEnv) (ds : List D) (i : Int) (sz : List D) (rD : D) (Q : VK), RelS X.K F Hs σ H ε →
    (rL ε fun ds' ε' => ds' = ds ∧ ε' = ε) → ε[j]? = some (some (.v (.int i))) → noLsts ds = true → noLsts sz = true → noLst rD = true → (∀ K E, K (.tup [.lst sz, rD]) → φ [.lst ds, .int i] K E) →
    (∀ (F' Hs' H' : Hp) (t s : Addr) (vr : V) (xs : List V), Ex Hs Hs' → SqT X.K Hs' t [.ref s, vr] → Rep X.K Hs' vr rD → Reps X.K Hs' xs sz → F s = none → F' = upd F s (.lst xs) → RelS X.K F' Hs' σ H' ε → Q (.ref t) H') →
    tCallS (pSp X.K φ) Et (tCons tL (tCons (tVar j) tNil)) σ H Q := by
  obtain ⟨tL, pL, kL⟩ := hL.ex
  refine ⟨tL, pL, fun Et j F Hs σ H ε ds i sz rD Q R q hj n0 n1 n2 hφ kk => ?_⟩
  refine kL F Hs σ H _ _ _ R Lk.none q fun h H1 Hs1 vs ds1 ε1 e1 R1 hh hs hF own rs q1 => ?_
  obtain ⟨rfl, rfl⟩ := q1
  obtain ⟨v7, s7, r7⟩ := R1.sl j _ hj
  cases r7
  refine ⟨_, s7, ?_⟩
  have nh : noL Hs1 h = none := by
    cases e : noL Hs1 h with
    | none => rfl
    | some u =>
      have := noL_ex h u e
      rw [hs] at this
      cases this
  refine ⟨upd (noL Hs1) h (.lst vs), [.lst ds1, .int i], fun d => d = .tup [.lst sz, rD], fun _ => False, fun b u e => ?_, .cons (.lst upd_same ((reps_noL rs n0).mono (ex_upd nh))) (.cons (.int _) .nil), hφ _ _ rfl, fun d qd v H' Hs' kp rv => ?_, fun _ z => z.elim⟩
  · by_cases hb : b = h
    · rw [hb, upd_same] at e
      rw [hb]
      cases e
      exact hh
    · rw [upd_ne hb] at e
      exact R1.ex b u (noL_ex b u e)
  · subst qd
    obtain ⟨Hs2, t, s, vr, xs, e2, rfl, sqt, rvr, rxs, sF, sOwn, R2⟩ := hold_rel R1 hh hs hF own kp rv n1 n2
    exact kk _ Hs2 H' t s vr xs (e1.trans e2) sqt rvr rxs sF rfl R2
end PL

set_option Elab.async false
set_option linter.all false
set_option autoImplicit false
set_option maxRecDepth 100000
set_option maxHeartbeats 2000000
/-! zip of two lists; a module's constant that is a tuple of texts. -/
namespace PL
open PySem PySem.Spec PyProof.Rows L2
open Evl (Ex)
section
variable {X : Cx} {W : WX} {Ξ : Xi} {a b : Expr} {pos : Pos}
def zipD (ds es : List D) : List D := (ds.zip es).map fun p => .tup [p.1, p.2]
theorem zipD_len (ds es : List D) : (zipD ds es).length = min ds.length es.length := by
  unfold zipD
  rw [List.length_map, List.length_zip]
theorem seqs_zip {K : PySem.W.Frag} {Hs : Hp} {p q : Addr} {vs us : List V} {ds es : List D} (h1 : SqL K Hs p vs) (r1 : Reps K Hs vs ds) (h2 : SqL K Hs q us) (r2 : Reps K Hs us es) : Seqs K Hs (Itz K p q) (zipD ds es) where
  go := fun i H e hi => by
    rw [zipD_len, ← r1.len, ← r2.len] at hi
    exact ⟨vs, us, vs[i], us[i], Evl.ex_l e h1, Evl.ex_l e h2, by simp, by simp⟩
  stop := fun i H e hi => by
    rw [zipD_len, ← r1.len, ← r2.len] at hi
    exact ⟨vs, us, Evl.ex_l e h1, Evl.ex_l e h2, by omega⟩
  yld := fun i F Hc σ H ε x H' e R hi y => by
    obtain ⟨T, v, u, rfl, hT, rfl, y1, y2⟩ := y
    have e1 := y1 vs (Evl.ex_l (e.trans R.ex) h1)
    have e2 := y2 us (Evl.ex_l (e.trans R.ex) h2)
    obtain ⟨d, g1, g2⟩ := r1.getV e1
    obtain ⟨d', g3, g4⟩ := r2.getV e2
    obtain ⟨R2, e3⟩ := R.new (o := .tup [v, u]) hT
    refine ⟨_, .tup [d, d'], e3, R2, ?_, .tup (SqT.of upd_same) (.cons (g2.mono (e.trans e3)) (.cons (g4.mono (e.trans e3)) .nil))⟩
    unfold zipD
    rw [List.getElem?_map, List.getElem?_zip_eq_some.mpr (show ds[i]? = some (d, d').1 ∧ es[i]? = some (d, d').2 from ⟨g1, g3⟩)]
    rfl
def yiZip (rs : PTL) : PTN := fun ε Q => rs ε fun ts ε1 => outs ε1 ts fun ds ε2 => match ds with
  | [.lst xs, .lst ys] => Q (zipD xs ys) ε2
  | _ => False
theorem yi_zip {rs : PTL} {elts : List Expr} {kk : Nat} {tpos p : Pos} (hg : Gl X "zip") (hm : X.mg "zip" = none) (h : YL X W Ξ [a, b] rs) (hs : starEach [a, b] X.env = (false, eval a X.env) :: starEach [b] X.env := by rfl) (hpl : (backTo pos (starEach [b] X.env)).any (·.1) = false := by rfl) :
    YI X W Ξ (.Tuple elts kk tpos) (.Call (.Name "zip" p) [a, b] [] pos) (yiZip rs) := by
  obtain ⟨t, pa, k⟩ := h.ex
  refine ⟨_, pi_zip hg hm pa hs hpl, fun F Hs σ H ε Q' R' R L q kk => k F Hs σ H ε _ _ R L q fun vs H1 Hs1 ts ε1 e1 R1 p1 q1 => ?_⟩
  obtain ⟨ds, ε2, Hs2, e2, R2, rv, q2⟩ := R1.outs p1 q1
  split at q2
  · cases rv with
    | cons r1 rv =>
      cases rv with
      | cons r2 rv =>
        cases rv
        cases r1 with
        | lst g1 s1 =>
          cases r2 with
          | lst g2 s2 => exact ⟨_, _, _, _, rfl, SqL.of (R2.ex _ _ g1), SqL.of (R2.ex _ _ g2), kk _ H1 Hs2 _ ε2 (e1.trans e2) R2 (seqs_zip (SqL.of g1) s1 (SqL.of g2) s2) q2⟩
  · exact q2.elim
/-! ### a module's tuple of texts -/
structure GlT (K : PySem.W.Frag) (mg : Str → Option Value) (x : Str) (xs : List Str) : Prop where
  ex : ∃ (a : Addr) (o : Obj) (its : Array Value) (n : Nat), mg x = some (.ref a) ∧ K.lookup a = some o ∧ o.cls = .type "tuple" ∧ o.data = .seq its n ∧ its.size ≤ sizeLine ∧ Vals (xs.map V.str) its.toList
theorem yeGlT {x : Str} {xs : List Str} (h : GlT X.K X.mg x xs) (hg : Gl X x := by rfl) (hd : (x == ("__debug__" : Str)) = false := by decide) : YE X W Ξ (.Name x pos) (yC (.tup (xs.map D.str))) := by
  obtain ⟨a, o, its, n, hm, h1, h2, h3, h4, h5⟩ := h.ex
  exact ⟨_, pe_glob hg hm (v := .ref a) rfl hd, fun F Hs σ H ε Q' Q R _ q k => k _ H Hs (.d _) ε (Evl.Ex.refl _) R (.tup (.inr ⟨o, its, n, h1, h2, h3, h4, h5⟩) (Reps.strs xs)) q⟩
def valsB : List Str → List Value → Bool
  | [], [] => true
  | x :: xs, .str y _ :: vs => decide (x = y) && valsB xs vs
  | _, _ => false
theorem valsB_ok : ∀ {xs : List Str} {vs : List Value}, valsB xs vs = true → Vals (xs.map V.str) vs
  | [], [], _ => .nil
  | [], _ :: _, h => by cases h
  | x :: xs, [], h => by cases h
  | x :: xs, v :: vs, h => by
    cases v with
    | str y t =>
      obtain ⟨h1, h2⟩ := Bool.and_eq_true_iff.mp (show (decide (x = y) && valsB xs vs) = true from h)
      obtain rfl := of_decide_eq_true h1
      exact .cons ⟨_, rfl⟩ (valsB_ok h2)
    | _ => cases h
def tupB (K : PySem.W.Frag) (x : Str) (xs : List Str) : Bool := match PySem.W.nsIn K mainGlobals x with
  | some (some (.ref a)) => (match K.lookup a with
    | some ⟨.type c, _, .seq its _, _⟩ => decide (c = "tuple") && (Nat.ble its.size 1000 && valsB xs its.toList)
    | _ => false)
  | _ => false
theorem tupB_ok {K : PySem.W.Frag} {h : Heap} {mg : Str → Option Value} {x : Str} {xs : List Str} (Xk : K.In h) (G : h.Ns mainGlobals mg) (c : tupB K x xs = true) : GlT K mg x xs := by
  unfold tupB at c
  split at c
  · rename_i a e
    have hm := PySem.W.mg_of Xk G e
    split at c
    · rename_i cc od its n sl e2
      obtain ⟨c1, c2⟩ := Bool.and_eq_true_iff.mp c
      obtain ⟨c2, c3⟩ := Bool.and_eq_true_iff.mp c2
      obtain rfl := of_decide_eq_true c1
      refine ⟨a, _, its, n, hm, e2, rfl, rfl, ?_, valsB_ok c3⟩
      rw [sizeLine_eq]
      have := Nat.le_of_ble_eq_true c2
      omega
    · cases c
  · cases c
end
end PL

set_option Elab.async false
set_option linter.all false
set_option autoImplicit false
set_option maxRecDepth 100000
set_option maxHeartbeats 2000000
/-! tuples: any slice, +, times an int. -/
namespace PL
open PySem PySem.Spec PyProof.Rows L2
open Evl (Ex)
section
variable {X : Cx} {W : WX} {Ξ : Xi} {a b : Expr} {pos : Pos}
theorem cutD_whole {xs : List D} {lo hi : Option Int} (h : HT.sIx xs.length 0 lo = 0 ∧ HT.sIx xs.length xs.length hi = xs.length) : cutD xs lo hi = xs := by
  unfold cutD
  rw [h.1, h.2, List.drop_zero, Nat.sub_zero, List.take_length]
theorem RepV.tupR {K : PySem.W.Frag} {Hs H : Hp} {v : V} {ds : List D} (h : RepV K Hs H v (.tup ds)) : Rep K Hs v (.tup ds) := by
  cases h with
  | sc h => exact h
theorem Reps.nil_iff {K : PySem.W.Frag} {H : Hp} {vs : List V} {ds : List D} (r : Reps K H vs ds) : vs = [] ↔ ds = [] := by
  rw [← List.length_eq_zero_iff, ← List.length_eq_zero_iff, r.len]
/-- x[a:b], x a tuple -/
def ySlA (ra : PTE) (rl rh : PTO) : PTE := fun ε Q => ra ε fun t ε1 => rl ε1 fun lo ε2 => rh ε2 fun hi ε3 => res ε3 t (asTp fun xs => Q (.d (.tup (cutD xs lo hi))) ε3)
theorem ye_slA {lo hi : Option Expr} {p2 : Pos} {ra : PTE} {rl rh : PTO} (ha : YE X W Ξ a ra) (hl : YO X W Ξ lo rl) (hh : YO X W Ξ hi rh) : YE X W Ξ (.Subscript a (.Slice lo hi none p2) pos) (ySlA ra rl rh) := by
  obtain ⟨ta, pa, ka⟩ := ha.ex
  obtain ⟨tl, pl, kl⟩ := hl.ex
  obtain ⟨th, ph, kh⟩ := hh.ex
  refine ⟨_, pe_slice sl_tupA pa pl ph, fun F Hs σ H ε Q' Q R L q k => ?_⟩
  refine ka F Hs σ H ε _ _ R L q fun v H1 Hs1 t1 ε1 e1 R1 p1 q1 => ?_
  refine kl F Hs1 σ H1 ε1 _ _ R1 (L.mono e1) q1 fun l H2 Hs2 ε2 e2 R2 q2 => ?_
  refine kh F Hs2 σ H2 ε2 _ _ R2 (L.mono (e1.trans e2)) q2 fun h H3 Hs3 ε3 e3 R3 q3 => ?_
  obtain ⟨d, v1, q4⟩ := R3.res (p1.mono (e2.trans e3)) q3
  obtain ⟨xs, rfl, q4⟩ := asTp_elim q4
  obtain ⟨a, vs, g1, h1, p1⟩ := v1.tup' R3.ex
  refine ⟨a, vs, g1, h1, fun hn => ?_, fun hn p hp => ?_⟩
  · rw [p1.len] at hn
    have q4 : Q' (.d (.tup (cutD xs l h))) ε3 := q4
    rw [cutD_whole hn] at q4
    exact k _ _ _ (.d (.tup xs)) ε3 ((e1.trans e2).trans e3) R3 (by rw [← g1]; exact v1.tupR) q4
  · obtain ⟨R4, e4⟩ := R3.new (o := .tup (cutV vs l h)) hp
    exact k (.ref p) _ _ (.d (.tup (cutD _ l h))) ε3 (((e1.trans e2).trans e3).trans e4) R4 (show Rep X.K _ _ (.tup _) from .tup (SqT.of upd_same) ((p1.cut l h).mono e4)) q4
/-- t + u -/
def oAddT : OP2
  | .tup xs, .tup ys, Q => gd (xs.length + ys.length ≤ 16777216) (Q (.tup (xs ++ ys)))
  | _, _, _ => False
theorem oy_addT : OpY X (binaryOp .Add) oAddT := by
  refine ⟨_, op_catA, fun F Hs σ H ε v w d1 d2 Q' Q R r1 r2 q k => ?_⟩
  unfold oAddT at q
  split at q
  · have q := gd_elim q
    obtain ⟨a, vs, e1, h1, p1⟩ := r1.tup' R.ex
    obtain ⟨b, us, e2, h2, p2⟩ := r2.tup' R.ex
    refine ⟨a, b, vs, us, e1, e2, h1, h2, by rw [p1.len, p2.len]; exact line_le q.1, fun z => ?_, fun _ z => ?_, fun _ _ p hp => ?_⟩
    · have q2 := q.2
      rw [p1.nil_iff.mp z, List.nil_append] at q2
      exact k _ _ _ _ (Evl.Ex.refl _) R (by rw [← e2]; exact r2.tupR) q2
    · have q2 := q.2
      rw [p2.nil_iff.mp z, List.append_nil] at q2
      exact k _ _ _ _ (Evl.Ex.refl _) R (by rw [← e1]; exact r1.tupR) q2
    · obtain ⟨R3, e3⟩ := R.new (o := .tup (vs ++ us)) hp
      exact k (.ref p) _ _ _ e3 R3 (.tup (SqT.of upd_same) ((p1.append p2).mono e3)) q.2
  · exact q.elim
/-- t * n -/
def oMulT : OP2
  | .tup xs, .int k, Q => gd (xs ≠ [] ∧ 2 ≤ k ∧ k ≤ 1000 ∧ xs.length ≤ 1000) (Q (.tup (List.replicate k.toNat xs).flatten))
  | _, _, _ => False
theorem oy_mulT : OpY X (binaryOp .Mult) oMulT := by
  refine ⟨_, op_repT, fun F Hs σ H ε v w d1 d2 Q' Q R r1 r2 q k => ?_⟩
  unfold oMulT at q
  split at q
  · have q := gd_elim q
    obtain ⟨a, vs, e1, h1, p1⟩ := r1.tup' R.ex
    refine ⟨a, _, vs, e1, r2.int', h1, fun z => q.1.1 (p1.nil_iff.mp z), q.1.2.1, q.1.2.2.1, by rw [p1.len]; exact q.1.2.2.2, fun p hp => ?_⟩
    obtain ⟨R3, e3⟩ := R.new (o := .tup (List.replicate (Int.toNat _) vs).flatten) hp
    exact k (.ref p) _ _ _ e3 R3 (.tup (SqT.of upd_same) ((p1.rep _).mono e3)) q.2
  · exact q.elim
end
end PL

set_option Elab.async false
set_option linter.all false
set_option autoImplicit false
set_option maxRecDepth 100000
set_option maxHeartbeats 2000000
/-! str of a list, of a tuple, of whole numbers: some text, whatever is under way around it. -/
namespace PL
open PySem PySem.Sem PySem.Spec PyProof.Rows L2
open Evl (Ex)
/-! ### what stands in it -/
def ItOk (v : Value) : Prop := (∃ (i : Int) (t : Tok), v = .int i t ∧ i.natAbs.log2 < 1920) ∨ v = .none ∨ ∃ b, v = .bool b
theorem it_text {prog : Program} {w : World} {v : Value} (h : ItOk v) : ∃ t : Str, ReprIs prog w v t ∧ t.length ≤ 1930 := by
  rcases h with ⟨i, t, rfl, h⟩ | rfl | ⟨b, rfl⟩
  · refine ⟨_, ReprIs.int t h, ?_⟩
    have e := int_text_length_le (k := 1920) (by decide) h
    show (Str.ofString (toString i)).length ≤ 1930
    rw [PySem.ofString_length]
    omega
  · exact ⟨_, ReprIs.none, by decide⟩
  · exact ⟨_, ReprIs.bool b, by cases b <;> decide⟩
theorem it_texts {prog : Program} {w : World} : ∀ {l : List Value}, (∀ v ∈ l, ItOk v) → ∃ ts : List Str, ReprAll prog w l ts ∧ ts.length = l.length ∧ (ts.map (·.length)).sum ≤ 1930 * l.length ∧ ∀ (i : Nat) (y : Value), l[i]? = some y → ∃ t, ts[i]? = some t ∧ ReprIs prog w y t
  | [], _ => ⟨[], .nil, rfl, by decide, fun i y e => by simp at e⟩
  | v :: l, h => by
    obtain ⟨t, r, n⟩ := it_text (prog := prog) (w := w) (h v List.mem_cons_self)
    obtain ⟨ts, rs, e, m, g⟩ := it_texts (prog := prog) (w := w) (l := l) fun x hx => h x (List.mem_cons_of_mem _ hx)
    refine ⟨t :: ts, .cons r rs, by rw [List.length_cons, List.length_cons, e], ?_, fun i y e => ?_⟩
    · rw [List.map_cons, List.sum_cons, List.length_cons]
      omega
    · cases i with
      | zero =>
        rw [List.getElem?_cons_zero] at e
        cases e
        exact ⟨t, rfl, r⟩
      | succ i =>
        rw [List.getElem?_cons_succ] at e
        obtain ⟨u, hu, ru⟩ := g i y e
        exact ⟨u, by rw [List.getElem?_cons_succ]; exact hu, ru⟩
/-! ### the list -/
theorem list_repr_headA {M : Model} {A : Around} {E : Value → Shared → Prop} {s : Shared} {Q : Fin → Shared → Prop} {a : Addr} {o : Obj} {x : Value} {l : List Value} {n} {b : Nat}
    (hget : s.heap.get? a = some o) (hd : o.data = .seq (x :: l).toArray n)
    (h : wpAny M A (do again (.builtin "list.__repr__.loop" ⟨[.ref a, rawInt 0, ← newList [], rawInt b], []⟩)) Q E s) (h2 : Q (.done (.ret (.str "[...]" s.toks))) { s with toks := s.toks + 1 }) : wpAny M A (Builtin.listReprAt b ⟨[.ref a], []⟩) Q E s := by
  intro Γ p hΓ
  have h1 := h Γ p hΓ
  unfold Builtin.listReprAt
  simp [slotArgs, Builtin.List.listItems, seqItems?, wp_load_of (h := hget), hd, PySem.stack]
  show wp M Γ (if (Γ.below.any _) = true then _ else _) _ _ p s
  split
  · simp [PySem.rule, retStr, PySem.ret]
    exact h2
  · exact h1
section
variable {prog : Program} {w : World} {A : Around} {E : Value → Shared → Prop} {s : Shared} {a : Addr} {o : Obj} {items : Array Value} {n : Nat}
theorem call_list_reprA {Q : Value → Shared → Prop} (hTy : s.TypeIs (.ref a) "list") (ha : s.heap.get? a = some o) (hd : o.data = .seq items n) (hi : ∀ v ∈ items.toList, ItOk v) (hz : items.size ≤ 8000)
    (hQ : ∀ x h' u tk, (∀ b o, s.heap.get? b = some o → h'.get? b = some o) → Q (.str x u) { s with heap := h', toks := tk }) :
    wpAny (model prog w) A (call (.builtin "list.__repr__") [.ref a]) Q E s := by
  obtain ⟨l⟩ := items
  cases l with
  | nil => exact call_list_repr_empty hTy ha hd (hQ _ s.heap _ _ fun _ _ e => e)
  | cons x l =>
    obtain ⟨ts, _, e1, e2, g⟩ := it_texts (prog := prog) (w := w) hi
    have el : ts.length = (x :: l).toArray.size := by rw [e1]; rfl
    have fit : 0 + (listText ts).length ≤ sizeLine := by
      have := listText_len_le ts
      have hz' : (x :: l).length ≤ 8000 := hz
      replace e2 : (ts.map (·.length)).sum ≤ 1930 * (x :: l).length := e2
      replace e1 : ts.length = (x :: l).length := e1
      rw [sizeLine_eq]
      omega
    refine wpAny_call (codeAny_call_builtin F.slot_list_repr.plain F.entry_list_repr (F.slot_list_repr.check _ _ _ _ _ _ _ _ hTy (F.args_list_repr_1 _) ?_))
    refine list_repr_headA (b := 0) (A := A.in1) ha hd ?_ (hQ _ s.heap _ _ fun _ _ e => e)
    refine wpAny_bind (m := newList []) (wpAny_newObj_type ?_)
    refine wpAny_pure ⟨F.quiet_list_repr_loop _, ?_⟩
    refine codeAny_list_repr_start (P := s.heap.objs.size) (Nat.ne_of_lt (Heap.lt_size ha)) el (fun i y e => g i y (by simpa using e)) (Heap.get?_push_of_some _ ha) hd (Heap.get?_push_size _ rfl) (fun h' u tk hk => ?_) fit
    exact hQ _ h' u tk fun b o e => hk b o (Nat.ne_of_lt (Heap.lt_size e)) (Heap.get?_push_of_some _ e)
/-! ### the tuple -/
theorem call_tuple_reprA {Q : Value → Shared → Prop} (hTy : s.TypeIs (.ref a) "tuple") (ha : s.heap.get? a = some o) (hd : o.data = .seq items n) (hi : ∀ v ∈ items.toList, ItOk v) (hz : items.size ≤ 8000)
    (hQ : ∀ x h' u tk, (∀ b o, s.heap.get? b = some o → h'.get? b = some o) → Q (.str x u) { s with heap := h', toks := tk }) :
    wpAny (model prog w) A (call (.builtin "tuple.__repr__") [.ref a]) Q E s := by
  obtain ⟨ts, hT, e1, e2, g⟩ := it_texts (prog := prog) (w := w) hi
  have fit : 0 + (tupleText ts).length ≤ sizeLine := by
    have := tupleText_len_le ts
    have hz' : items.toList.length ≤ 8000 := hz
    rw [sizeLine_eq]
    omega
  refine wpAny_call (codeAny_call_builtin_own (Code.quiet_builtin _ (by decide +kernel)) F.entry_tuple_repr (F.slot_tuple_repr.check _ _ _ _ _ _ _ _ hTy (F.args_tuple_repr_1 _) ?_))
  show wpOwn _ _ _ (Builtin.tupleReprAt 0 ⟨[.ref a], []⟩) _ _ _
  rw [tuple_repr_tree, tupleReprUnderWay_eq]
  refine wpOwn_bind (wpOwn_bind (wpOwn_stack fun p below _ _ _ => ?_))
  refine wpOwn_of_wpAny (wpAny_pure ?_)
  cases z : (((Code.builtin "tuple.__repr__" ⟨[.ref a], []⟩, p) :: below).tail.any (tupGuardF (.ref a))) with
  | true =>
    refine wpOwn_of_wpAny ?_
    intro Γ p hΓ
    simp [PySem.rule, retStr, PySem.ret]
    exact hQ _ s.heap _ _ fun _ _ e => e
  | false => exact wpOwn_of_wpAny (wpAny_tupleReprRest ha hd hT (fun u tk => hQ _ s.heap u tk fun _ _ e => e) fit)
/-! ### str(x) -/
theorem str_seqA {T idr : String} {Q : Value → Shared → Prop} (hR : SlotG T "__repr__" idr) (hS : Slot T "__str__" "object.__str__") (hu : A.units + 5 < cLine) (hT : s.TypeIs (.ref a) T)
    (hc : ∀ (prog : Program) (w : World) (A : Around) (R : Value → Shared → Prop) (E : Value → Shared → Prop), (∀ x h' u tk, (∀ b o, s.heap.get? b = some o → h'.get? b = some o) → R (.str x u) { s with heap := h', toks := tk }) → wpAny (model prog w) A (call (.builtin idr) [.ref a]) R E s)
    (hQ : ∀ x h' u tk, (∀ b o, s.heap.get? b = some o → h'.get? b = some o) → Q (.str x u) { s with heap := h', toks := tk }) : wpAny (model prog w) A (call (.type "str") [.ref a]) Q E s :=
  callType_new F.called_str (by decide) (F.typeCall_str_1 _) (F.newCall_str_1 _) (fun obj => F.args_object_init_2 obj _) F.entry_str_new
    (meets_str_new (S := fun A' R s' => s' = s ∧ A'.units + 4 < cLine ∧ ∀ x h' u tk, (∀ b o, s.heap.get? b = some o → h'.get? b = some o) → R (.ok (.ret (.str x u))) { s with heap := h', toks := tk })
      fun prog' w' A' R s' h => by
        obtain ⟨rfl, h2, h3⟩ := h
        exact wpAny_strOf_slot rfl (by show A'.units + 1 + 1 < cLine; omega) hT hS hR (hc prog' w' _ _ _ fun x h' u tk kp => ⟨x, u, rfl, h3 x h' u tk kp⟩))
    ⟨rfl, by show A.units + 1 + 4 < cLine; omega, fun x h' u tk hk => ⟨typeIs_str _ _ _, hQ x h' u tk hk⟩⟩
end
end PL

set_option Elab.async false
set_option linter.all false
set_option autoImplicit false
set_option maxRecDepth 100000
set_option maxHeartbeats 4000000
/-! list(reversed(x)), x a list. -/
namespace PL
open PySem PySem.Spec PyProof.Rows L2 RT
open Evl (Ex)
section
variable {prog : Program} {w : World} {A : Around} {E : Value → Shared → Prop} {s : Shared}
theorem extend_rev {R : Result → Shared → Prop} {it l : Addr} {items : Array Value} (hh : A.handled = none) (hit : s.heap.IsRevIter it l ((items.size : Int) - 1)) (hl : s.heap.IsList l items) (hne : l ≠ it) (hn : items.size ≤ sizeLine)
    (S : Addr) (res : Value) (c₀ : Nat) (hSi : S ≠ it) (hSl : S ≠ l) (hS : s.heap.get? S = some { cls := .type "list", data := .seq #[] c₀ })
    (hR : ∀ h' tk acc' c', (∀ b o, b ≠ S → b ≠ it → s.heap.get? b = some o → h'.get? b = some o) → h'.get? S = some { cls := .type "list", dict := none, data := .seq acc' c', slots := #[] } →
      ItemsOf (fun i v => items[items.size - 1 - i]? = some v) acc' items.size → R (.ok (.ret res)) { s with heap := h', toks := tk }) :
    wpAny (model prog w) A.in1 (Builtin.List.listExtendWith (.ref S) (.ref it) res)
      (fun fin s' => match fin with | .done f => R (.ok f) s' | .again c' => c'.quiet = true ∧ codeAny (model prog w) A c' R s') (fun e s' => R (.error e) s') s := by
  have W := (Walks.listRev (prog := prog) (w := w) (A := A.in1) hh it l hne items).toS
  have hSf : S ∉ [it, l] := by simp only [List.mem_cons, List.not_mem_nil, or_false, not_or]; exact ⟨hSi, hSl⟩
  have hT : s.TypeIs (.ref it) "list_reverseiterator" := hit.typeIs
  have h1 : Builtin.List.listSameRef (.ref S) (.ref it) = false := by simp [Builtin.List.listSameRef, hSi]
  unfold Builtin.List.listExtendWith
  refine wpAny_bind (wpAny_typeOf hT ?_)
  rw [if_neg (by rw [h1]; decide)]
  refine wpAny_bind (wpAny_pyIter_revIter hit ?_)
  refine wpAny_bind (wpAny_holding ?_)
  unfold Builtin.List.listLengthHint
  refine wpAny_bind (wpAny_specialOf hT nolen_lri ?_)
  show wpAny _ A.in1 (specialOf (Value.ref it) (Str.ofString "__length_hint__") >>= _) _ _ _
  refine wpAny_bind (wpAny_specialOf hT hint_lri ?_)
  generalize hid : ("list_reverseiterator.__length_hint__" : String) = id0
  wp_delta
  rw [show splitId id0 = some ("list_reverseiterator", "__length_hint__") from by subst hid; decide +kernel]
  subst hid
  refine wpAny_bind (wpAny_isInstance (b := true) hT (by rw [isSubtype_type]; kernel_rfl) ?_)
  refine wpAny_pure ?_
  rw [if_neg (by decide)]
  have e0 : ((items.size : Nat) : Int) - 1 - ((0 : Nat) : Int) = (items.size : Int) - 1 := by omega
  refine wpAny_pure ⟨plainId_quiet F.plain_extend_loop _, codeAny_extend_loopS W hn S hSf res items.size 0 _ #[] c₀ rfl (Nat.zero_le _) ⟨Nat.zero_le _, by rw [e0]; exact hit, hl⟩ hS (ItemsOf.nil _) fun s' acc' c' hm hS' hacc => ?_⟩
  rw [Moved.eq_with hm]
  refine hR s'.heap s'.toks acc' c' (fun b o hb hb2 e => hm.heap b o (fun hmem => ?_) e) hS' hacc
  rcases List.mem_cons.mp hmem with e' | hmem
  · exact hb e'
  · exact hb2 (List.mem_singleton.mp hmem)
theorem init_rev {R : Result → Shared → Prop} {it l : Addr} {items : Array Value} (hh : A.handled = none) (hit : s.heap.IsRevIter it l ((items.size : Int) - 1)) (hl : s.heap.IsList l items) (hne : l ≠ it) (hn : items.size ≤ sizeLine)
    (S : Addr) (hSi : S ≠ it) (hSl : S ≠ l) (hS : s.heap.get? S = some { cls := .type "list", data := .seq #[] })
    (hR : ∀ h' tk acc' c', (∀ b o, b ≠ S → b ≠ it → s.heap.get? b = some o → h'.get? b = some o) → h'.get? S = some { cls := .type "list", dict := none, data := .seq acc' c', slots := #[] } →
      ItemsOf (fun i v => items[items.size - 1 - i]? = some v) acc' items.size → R (.ok (.ret .none)) { s with heap := h', toks := tk }) :
    wpAny (model prog w) A.in1 (Builtin.«list.__init__» ⟨[.ref S, .ref it], []⟩)
      (fun fin s' => match fin with | .done f => R (.ok f) s' | .again c' => c'.quiet = true ∧ codeAny (model prog w) A c' R s') (fun e s' => R (.error e) s') s := by
  show wpAny _ A.in1 (do let old ← Builtin.List.listItems (.ref S); Builtin.List.listUpdate (.ref S) (fun _ => #[]); letGo old.toList.reverse; Builtin.List.listExtendWith (.ref S) (.ref it) .none) _ _ s
  refine wpAny_bind ?_
  unfold Builtin.List.listItems
  refine wpAny_bind (wpAny_seqItems hS rfl (wpAny_pure ?_))
  show wpAny _ A.in1 (updateSeq S (fun _ => #[]) >>= fun _ => letGo (#[] : Array Value).toList.reverse >>= fun _ => Builtin.List.listExtendWith (.ref S) (.ref it) .none) _ _ s
  refine wpAny_bind (wpAny_updateSeq hS rfl ?_)
  have hS₂ := Heap.get?_update_self (Obj.mapSeq (fun _ => (#[] : Array Value))) hS rfl
  have oth : ∀ b o, b ≠ S → s.heap.get? b = some o → (s.heap.update S (Obj.mapSeq (fun _ => (#[] : Array Value)))).get? b = some o :=
    fun b o hb e => (Heap.get?_update_other _ _ (Ne.symm hb)).trans e
  refine wpAny_bind (wpAny_letGo ?_)
  refine extend_rev (s := { s with heap := s.heap.update S (Obj.mapSeq (fun _ => (#[] : Array Value))) }) hh (hit.at fun o e => oth _ _ (Ne.symm hSi) e) ?_ hne hn S .none _ hSi hSl hS₂ fun h' tk acc' c' hk hS' hacc => ?_
  · obtain ⟨o, e, r⟩ := hl
    exact ⟨o, oth _ _ (Ne.symm hSl) e, r⟩
  · exact hR h' tk acc' c' (fun b o hb hb2 e => hk b o hb hb2 (oth b o hb e)) hS' hacc
theorem call_list_rev {it l : Addr} {items : Array Value} {Q : Value → Shared → Prop} (hh : A.handled = none) (hit : s.heap.IsRevIter it l ((items.size : Int) - 1)) (hl : s.heap.IsList l items) (hne : l ≠ it) (hn : items.size ≤ sizeLine)
    (hQ : ∀ h' tk acc' c', (∀ b o, b ≠ it → s.heap.get? b = some o → h'.get? b = some o) → h'.get? s.heap.objs.size = some { cls := .type "list", dict := none, data := .seq acc' c', slots := #[] } →
      ItemsOf (fun i v => items[items.size - 1 - i]? = some v) acc' items.size → Q (.ref s.heap.objs.size) { s with heap := h', toks := tk }) :
    wpAny (model prog w) A (call (.type "list") [.ref it]) Q E s := by
  obtain ⟨oi, hoi, _⟩ := id hit
  obtain ⟨ol, hol, _⟩ := id hl
  refine callType_codes (Q₁ := fun obj s₁ => obj = .ref s.heap.objs.size ∧ s₁ = { s with heap := s.heap.push { cls := .type "list", data := .seq #[] } }) F.called_list (F.typeCall_list_1 _) F.entry_list_init
    (code_list_new _ ⟨rfl, rfl⟩) fun obj s₁ h₁ => ?_
  obtain ⟨rfl, rfl⟩ := h₁
  have hS : (s.heap.push { cls := .type "list", data := .seq #[] }).get? s.heap.objs.size = some { cls := .type "list", data := .seq #[] } := Heap.get?_push_size _ rfl
  refine ⟨⟨_, hS, rfl⟩, F.args_list_init_2 _ _, init_rev (s := { s with heap := s.heap.push { cls := .type "list", data := .seq #[] } }) (A := A.in1) hh (hit.at fun o e => Heap.get?_push_of_some _ e) (hl.push _) hne hn _ (Nat.ne_of_gt (Heap.lt_size hoi)) (Nat.ne_of_gt (Heap.lt_size hol)) hS fun h' tk acc' c' hk hS' hacc => ?_⟩
  exact ⟨rfl, hQ h' tk acc' c' (fun b o hb e => hk b o (Nat.ne_of_lt (Heap.lt_size e)) hb (Heap.get?_push_of_some _ e)) hS' hacc⟩
end
/-- list(reversed(x)), x a list: a new list -/
def tLstRev (K : PySem.W.Frag) (te : TE) : TE := fun σ H Q => te σ H fun v H1 => ∃ (a : Addr) (xs : List V), v = .ref a ∧ SqL K H1 a xs ∧ ∀ q, H1 q = none → Q (.ref q) (upd H1 q (.lst xs.reverse))
section
variable {X : Cx}
theorem pe_lstRev {e : Expr} {te : TE} {p p2 pos pos2 : Pos} (hc : X.calm = true) (hg : Gl X "list") (hm : X.mg "list" = none) (hg2 : Gl X "reversed") (hm2 : X.mg "reversed" = none) (he : PE X e te)
    (hs : starEach [e] X.env = (false, eval e X.env) :: starEach [] X.env := by rfl)
    (hs2 : starEach [.Call (.Name "reversed" p2) [e] [] pos2] X.env = (false, eval (.Call (.Name "reversed" p2) [e] [] pos2) X.env) :: starEach [] X.env := by rfl) :
    PE X (.Call (.Name "list" p) [.Call (.Name "reversed" p2) [e] [] pos2] [] pos) (tLstRev X.K te) := by
  refine ⟨fun pins s σ H Q I h => ?_⟩
  refine Call_ (ld_blt I hg hm boot_list (PyProof.Rows.callWith_type1 (args_cons (Call_ (ld_blt I hg2 hm2 PyProof.Rows.boot_reversed (PyProof.Rows.callWith_type1 (args_cons (thn (he.run pins s σ H _ I h) fun u s1 ⟨v, H1, I1, r1, q1⟩ => args_nil ?_) hs) hs rfl))) hs2) hs2 rfl))
  obtain ⟨a, xs, ev, hq, q⟩ := q1
  subst ev
  obtain rfl : u = Value.ref a := r1
  obtain ⟨its, rv, p', hz⟩ := I1.list hq
  refine call_reversed_list p'.isList (args_nil ?_)
  have k0 : ∀ b o, s1.heap.get? b = some o → (s1.heap.push (revObj a ((its.toArray.size : Int) - 1))).get? b = some o := fun b o e => Heap.get?_push_of_some _ e
  have I2 : Inv X pins σ H1 { s1 with heap := s1.heap.push (revObj a ((its.toArray.size : Int) - 1)) } := I1.kept (t' := s1.toks) k0
  obtain ⟨f0, f1, f2, f3, f4, f5⟩ := I1.fpOk (H' := H1) (b := s1.heap.objs.size) (Nat.le_refl _) (I1.hok.fresh (Nat.le_refl _))
  have hl := p'.isList
  obtain ⟨ol, hol, _⟩ := id hl
  have hne : a ≠ s1.heap.objs.size := Nat.ne_of_lt (Heap.lt_size hol)
  have hn : its.toArray.size ≤ sizeLine := by rw [List.size_toArray, ← rv.length]; exact hz
  refine call_list_rev (s := { s1 with heap := s1.heap.push (revObj a ((its.toArray.size : Int) - 1)) }) (I1.ok.hd hc) ⟨_, Heap.get?_push_size _ rfl, rfl, rfl⟩ (hl.push _) hne hn fun h' tk acc c' hk hS hi => ?_
  have hsz : s1.heap.objs.size ≤ (s1.heap.push (revObj a ((its.toArray.size : Int) - 1))).objs.size := by simp [Heap.push]
  refine ⟨.ref _, upd H1 _ (.lst xs.reverse), I1.laid (t' := tk) (fun b o e => hk b o (Nat.ne_of_lt (Heap.lt_size e)) (k0 b o e)) hsz (show ObjOk X.prog X.w _ _ _ (.lst xs.reverse) from ⟨by rw [List.length_reverse]; exact hz, acc.toList, c', vals_rev rv hi, ?_⟩), rfl, q _ (I1.hok.fresh hsz)⟩
  rw [Array.toArray_toList]
  exact hS
end
end PL

set_option Elab.async false
set_option linter.all false
set_option autoImplicit false
set_option maxRecDepth 100000
set_option maxHeartbeats 2000000
/-! str, list(reversed(..)) told over plain data. -/
namespace PL
open PySem PySem.Spec PyProof.Rows L2
open Evl (Ex)
def VOk : V → Prop
  | .int i => i.natAbs.log2 < 1920
  | .non => True
  | .bl _ => True
  | _ => False
theorem itok {v : V} {u : Value} (r : RelV v u) (h : VOk v) : ItOk u := by
  cases v with
  | int i => obtain ⟨t, rfl⟩ := r; exact .inl ⟨i, t, rfl, h⟩
  | non => cases r; exact .inr (.inl rfl)
  | bl b => cases r; exact .inr (.inr ⟨b, rfl⟩)
  | _ => exact h.elim
theorem itoks : ∀ {vs : List V} {us : List Value}, Vals vs us → (∀ v ∈ vs, VOk v) → ∀ u ∈ us, ItOk u
  | _, _, .nil, _ => fun u h => by cases h
  | _, _, .cons r t, h => fun u hu => by
    rcases List.mem_cons.mp hu with rfl | hu
    · exact itok r (h _ List.mem_cons_self)
    · exact itoks t (fun v hv => h v (List.mem_cons_of_mem _ hv)) u hu
def rStrA (K : PySem.W.Frag) : List V → Hp → VK → Prop := fun xs H Q => (∃ i, xs = [.int i] ∧ i.natAbs.log2 < 1920 ∧ ∀ x : Str, Q (.str x) H) ∨ ∃ p ys, xs = [.ref p] ∧ (SqL K H p ys ∨ SqT K H p ys) ∧ ys.length ≤ 8000 ∧ (∀ v ∈ ys, VOk v) ∧ ∀ x : Str, Q (.str x) H
section
variable {X : Cx} {W : WX} {Ξ : Xi}
theorem call_strA (hu : X.A.units + 64 < cLine) : CallR X (.type "str") (rStrA X.K) := by
  intro pins s σ H xs us Q I r h
  rcases h with ⟨i, rfl, hz, q⟩ | ⟨p, ys, rfl, hq, hl, hv, q⟩
  · obtain ⟨u, rfl, t, rfl⟩ := vals1 r
    exact PySem.P.str_of_int hz ⟨.str _, H, I.tok _, ⟨_, rfl⟩, q _⟩
  · obtain ⟨u, rfl, rx⟩ := vals1 r
    cases rx
    have fin : ∀ (x : Str) (h' : Heap) (u : Tok) (tk : Nat), (∀ b o, s.heap.get? b = some o → h'.get? b = some o) → EP X pins σ Q (.str x u) { s with heap := h', toks := tk } := fun x h' u tk kp => ⟨.str x, H, I.kept (t' := tk) kp, ⟨_, rfl⟩, q x⟩
    rcases hq with hq | hq
    · obtain ⟨its, r', pl, hz⟩ := I.list hq
      have hlen := r'.length
      obtain ⟨o, ho, hc, n, hd⟩ := pl.isList
      have hi := itoks r' hv
      have hT : s.TypeIs (.ref p) "list" := ⟨o, ho, hc⟩
      exact str_seqA PySem.F.slot_list_repr.toG PySem.F.slot_list_str (by omega) hT (fun prog w A R E k => call_list_reprA hT ho hd (by simpa using hi) (by simp only [List.size_toArray]; omega) k) fin
    · obtain ⟨its, r', pl, hz⟩ := I.tuple hq
      have hlen := r'.length
      obtain ⟨o, ho, hc, n, hd⟩ := pl
      have hi := itoks r' hv
      have hT : s.TypeIs (.ref p) "tuple" := ⟨o, ho, hc⟩
      exact str_seqA PySem.F.slot_tuple_repr PySem.F.slot_tuple_str (by omega) hT (fun prog w A R E k => call_tuple_reprA hT ho hd (by simpa using hi) (by simp only [List.size_toArray]; omega) k) fin
def itB : D → Bool
  | .int i => decide (i.natAbs.log2 < 1920)
  | .non => true
  | .bl _ => true
  | _ => false
theorem itB_ok {K : PySem.W.Frag} {H : Hp} {v : V} {d : D} (r : Rep K H v d) (h : itB d = true) : VOk v := by
  cases r with
  | int i => exact (of_decide_eq_true (p := i.natAbs.log2 < 1920) h : i.natAbs.log2 < 1920)
  | non => trivial
  | bl b => trivial
  | _ => cases h
theorem itBs_ok {K : PySem.W.Frag} {H : Hp} : ∀ {vs : List V} {ds : List D}, Reps K H vs ds → ds.all itB = true → ∀ v ∈ vs, VOk v
  | _, _, .nil, _ => fun v h => by cases h
  | _, _, .cons r t, h => fun v hv => by
    rw [List.all_cons] at h
    obtain ⟨h1, h2⟩ := Bool.and_eq_true_iff.mp h
    rcases List.mem_cons.mp hv with rfl | hv
    · exact itB_ok r h1
    · exact itBs_ok t h2 v hv
/-- some text -/
def oStrA : OPC
  | [.int i], Q => gd (i.natAbs.log2 < 1920) (∀ x : Str, Q (.str x))
  | [.lst ds], Q => gd (ds.length ≤ 8000 ∧ ds.all itB = true) (∀ x : Str, Q (.str x))
  | [.tup ds], Q => gd (ds.length ≤ 8000 ∧ ds.all itB = true) (∀ x : Str, Q (.str x))
  | _, _ => False
theorem cy_strA (hu : X.A.units + 64 < cLine) : CallY X (.type "str") oStrA := by
  refine ⟨_, call_strA hu, fun F Hs σ H ε vs ds Q' Q R r q k => ?_⟩
  unfold oStrA at q
  split at q
  · obtain ⟨v, rfl, rv⟩ := r.one
    have q := gd_elim q
    exact .inl ⟨_, by rw [rv.int'], q.1, fun x => k _ H Hs _ (Evl.Ex.refl _) R (.str _) (q.2 x)⟩
  · obtain ⟨v, rfl, rv⟩ := r.one
    obtain ⟨⟨q1, q2⟩, q⟩ := gd_elim q
    obtain ⟨a, ws, g1, h1, p1⟩ := rv.lst' R.ex
    subst g1
    exact .inr ⟨a, ws, rfl, .inl (SqL.of h1), by rw [p1.len]; exact q1, itBs_ok p1 q2, fun x => k _ H Hs _ (Evl.Ex.refl _) R (.str _) (q x)⟩
  · obtain ⟨v, rfl, rv⟩ := r.one
    obtain ⟨⟨q1, q2⟩, q⟩ := gd_elim q
    obtain ⟨a, ws, g1, h1, p1⟩ := rv.tup' R.ex
    subst g1
    exact .inr ⟨a, ws, rfl, .inr h1, by rw [p1.len]; exact q1, itBs_ok p1 q2, fun x => k _ H Hs _ (Evl.Ex.refl _) R (.str _) (q x)⟩
  · exact q.elim
/-- list(reversed(x)), x a list -/
def ynLRev (r : PTE) : PTN := fun ε Q => r ε fun t ε1 => out ε1 t fun d ε2 => match d with
  | .lst ds => Q ds.reverse ε2
  | _ => False
theorem yn_lstRev {e : Expr} {r : PTE} {p p2 pos pos2 : Pos} (hc : X.calm = true) (hg : Gl X "list") (hm : X.mg "list" = none) (hg2 : Gl X "reversed") (hm2 : X.mg "reversed" = none) (h : YE X W Ξ e r)
    (hs : starEach [e] X.env = (false, eval e X.env) :: starEach [] X.env := by rfl)
    (hs2 : starEach [.Call (.Name "reversed" p2) [e] [] pos2] X.env = (false, eval (.Call (.Name "reversed" p2) [e] [] pos2) X.env) :: starEach [] X.env := by rfl) :
    YN X W Ξ (.Call (.Name "list" p) [.Call (.Name "reversed" p2) [e] [] pos2] [] pos) (ynLRev r) := by
  obtain ⟨t, pt, k⟩ := h.ex
  refine ⟨_, pe_lstRev hc hg hm hg2 hm2 pt hs hs2, fun F Hs σ H ε Q' Q R L q kk => k F Hs σ H ε _ _ R L q fun v H1 Hs1 t1 ε1 e1 R1 p1 q1 => ?_⟩
  obtain ⟨d, ε2, Hs2, e2, R2, rv, q2⟩ := R1.out p1 q1
  cases d with
  | lst ds =>
    cases rv with
    | lst hp rs =>
      rename_i a ws
      refine ⟨a, ws, rfl, SqL.of (R2.ex _ _ hp), fun p hp => ?_⟩
      obtain ⟨n1, n2, n3⟩ := R2.nobody hp
      exact kk p _ Hs2 ws.reverse ds.reverse ε2 (e1.trans e2) (R2.lay hp) upd_same n1 n2 n3 rs.rev q2
  | _ => exact False.elim q2
end
end PL

set_option Elab.async false
set_option linter.all false
set_option autoImplicit false
set_option maxRecDepth 100000
set_option maxHeartbeats 1000000
namespace PL.K57
open PySem PySem.Spec PyProof.Rows L2
local macro_rules | `(tactic| walk_at "y") => `(tactic| conv => whnf)
/-! ### parts, plain -/
structure Pt where
  b : Int
  w : Int
  lo : Option Int
  hi : Option Int
def cutI (x : Int) (lo hi : Option Int) : Int :=
  match hi, lo with
  | some h, some l => if (if h < x then h else x) < l then l else (if h < x then h else x)
  | some h, none => if h < x then h else x
  | none, some l => if x < l then l else x
  | none, none => x
def mulO (o : Option Int) (k : Int) : Option Int := match o with
  | some i => some (i * k)
  | none => none
def topI (p : Pt) (top low : Int) : Int := cutI (p.b * low + p.w * top) (mulO p.lo low) (mulO p.hi low)
def sumI (ps : List Pt) (top low : Int) : Int := (ps.map fun p => topI p top low).sum
structure POk (p : Pt) : Prop where
  w0 : 0 ≤ p.w
  le : ∀ l h, p.lo = some l → p.hi = some h → l ≤ h
/-! over the rationals -/
def cutQ (x : Rat) (lo hi : Option Int) : Rat :=
  match hi, lo with
  | some h, some l => if (if (h : Rat) < x then (h : Rat) else x) < l then (l : Rat) else (if (h : Rat) < x then (h : Rat) else x)
  | some h, none => if (h : Rat) < x then (h : Rat) else x
  | none, some l => if x < l then (l : Rat) else x
  | none, none => x
def at_ (p : Pt) (t : Rat) : Rat := (p.b : Rat) + (p.w : Rat) * t
def vQ (p : Pt) (t : Rat) : Rat := cutQ (at_ p t) p.lo p.hi
def SQ : List Pt → Rat → Rat
  | [], _ => 0
  | p :: ps, t => vQ p t + SQ ps t
/-- it moves to the right of t -/
def Mov (p : Pt) (t : Rat) : Prop := (∀ l, p.lo = some l → (l : Rat) ≤ at_ p t) ∧ ∀ h, p.hi = some h → at_ p t < h
open Classical in
noncomputable def gQ : List Pt → Rat → Rat
  | [], _ => 0
  | p :: ps, t => (if Mov p t then (p.w : Rat) else 0) + gQ ps t
/-- a bound of the part's -/
def Bd (p : Pt) (x : Int) : Prop := p.lo = some x ∨ p.hi = some x
/-- no knot of the part's between t and s -/
def NoK (p : Pt) (t s : Rat) : Prop := 0 < p.w → ∀ x, Bd p x → p.b < x → (x : Rat) ≤ at_ p t ∨ at_ p s ≤ x
theorem at_mono {p : Pt} (hw : 0 ≤ p.w) {t s : Rat} (h : t ≤ s) : at_ p t ≤ at_ p s := by
  have hw : (0 : Rat) ≤ (p.w : Rat) := by exact_mod_cast hw
  have := Rat.mul_le_mul_of_nonneg_left h hw
  unfold at_
  grind
theorem at_lt {p : Pt} (hw : 0 < p.w) {t s : Rat} (h : t < s) : at_ p t < at_ p s := by
  have hw : (0 : Rat) < (p.w : Rat) := by exact_mod_cast hw
  have := Rat.mul_lt_mul_of_pos_left h hw
  unfold at_
  grind
theorem at_zero (p : Pt) : at_ p 0 = (p.b : Rat) := by unfold at_; grind
theorem flat_one {p : Pt} (ok : POk p) {t s : Rat} (h0 : 0 ≤ t) (hs : t ≤ s) (nk : NoK p t s) : (Mov p t → vQ p s = vQ p t + (p.w : Rat) * (s - t)) ∧ (¬ Mov p t → vQ p s = vQ p t) := by
  have hm := at_mono ok.w0 hs
  have hb := at_mono ok.w0 h0
  rw [at_zero] at hb
  have hd : at_ p s = at_ p t + (p.w : Rat) * (s - t) := by unfold at_; grind
  have hw0 : p.w = 0 ∨ 0 < p.w := by have := ok.w0; omega
  have hle : ∀ l h, p.lo = some l → p.hi = some h → (l : Rat) ≤ (h : Rat) := fun l h a b => by exact_mod_cast ok.le l h a b
  rcases hw0 with hw | hw
  · have hz : at_ p s = at_ p t := by rw [hd, hw]; grind
    have hv : vQ p s = vQ p t := by unfold vQ; rw [hz]
    refine ⟨fun _ => ?_, fun _ => hv⟩
    rw [hv, hw]
    grind
  · have nk := nk hw
    have kn : ∀ x, Bd p x → (x : Rat) ≤ at_ p t ∨ at_ p s ≤ x := fun x hx => by
      by_cases hbx : p.b < x
      · exact nk x hx hbx
      · left
        have : (x : Rat) ≤ (p.b : Rat) := by exact_mod_cast (show x ≤ p.b by omega)
        grind
    constructor
    · rintro ⟨m1, m2⟩
      unfold vQ cutQ
      cases el : p.lo with
      | none =>
        cases eh : p.hi with
        | none => exact hd
        | some h =>
          have a := m2 h eh
          have b := kn h (.inr eh)
          dsimp only
          grind
      | some l =>
        have c := m1 l el
        cases eh : p.hi with
        | none =>
          dsimp only
          grind
        | some h =>
          have a := m2 h eh
          have b := kn h (.inr eh)
          dsimp only
          grind
    · intro nm
      unfold vQ cutQ
      cases el : p.lo with
      | none =>
        cases eh : p.hi with
        | none => exact (nm ⟨fun l z => (by rw [el] at z; cases z), fun l z => (by rw [eh] at z; cases z)⟩).elim
        | some h =>
          have a : (h : Rat) ≤ at_ p t := by
            refine Rat.not_lt.mp fun z => nm ⟨fun l y => (by rw [el] at y; cases y), fun h' y => ?_⟩
            rw [eh] at y; cases y; exact z
          dsimp only
          grind
      | some l =>
        have b := kn l (.inl el)
        cases eh : p.hi with
        | none =>
          have a : at_ p t < l := by
            refine Rat.not_le.mp fun z => nm ⟨fun l' y => ?_, fun h' y => (by rw [eh] at y; cases y)⟩
            rw [el] at y; cases y; exact z
          dsimp only
          grind
        | some h =>
          have lh := hle l h el eh
          have a : at_ p t < l ∨ (h : Rat) ≤ at_ p t := by
            by_cases z : at_ p t < l
            · exact .inl z
            · right
              refine Rat.not_lt.mp fun y => nm ⟨fun l' y' => ?_, fun h' y' => ?_⟩
              · rw [el] at y'; cases y'; exact Rat.not_lt.mp z
              · rw [eh] at y'; cases y'; exact y
          dsimp only
          grind
theorem flat_sum : ∀ {ps : List Pt} {t s : Rat}, (∀ p ∈ ps, POk p) → 0 ≤ t → t ≤ s → (∀ p ∈ ps, NoK p t s) → SQ ps s = SQ ps t + gQ ps t * (s - t)
  | [], t, s, _, _, _, _ => by unfold SQ gQ; grind
  | p :: ps, t, s, ok, h0, hs, nk => by
    have h1 := flat_one (ok p List.mem_cons_self) h0 hs (nk p List.mem_cons_self)
    have h2 := flat_sum (fun q hq => ok q (List.mem_cons_of_mem _ hq)) h0 hs (fun q hq => nk q (List.mem_cons_of_mem _ hq))
    unfold SQ gQ
    by_cases m : Mov p t
    · rw [if_pos m, h1.1 m, h2]
      grind
    · rw [if_neg m, h1.2 m, h2]
      grind

end PL.K57

set_option Elab.async false
set_option linter.all false
set_option autoImplicit false
set_option maxRecDepth 100000
set_option maxHeartbeats 1000000
namespace PL.K57
open PySem PySem.Spec PyProof.Rows L2
local macro_rules | `(tactic| walk_at "y") => `(tactic| conv => whnf)
/-! ### whole numbers and rationals -/
def rat (k : Int × Int) : Rat := (k.1 : Rat) / (k.2 : Rat)
theorem rat_mul {k : Int × Int} (h : 0 < k.2) : (k.2 : Rat) * rat k = (k.1 : Rat) := by
  have : (k.2 : Rat) ≠ 0 := by
    have : (0 : Rat) < (k.2 : Rat) := by exact_mod_cast h
    grind
  unfold rat
  grind
theorem pos_q {i : Int} (h : 0 < i) : (0 : Rat) < (i : Rat) := by exact_mod_cast h
theorem mul_le_q {a b c : Rat} (h : 0 < c) : c * a ≤ c * b ↔ a ≤ b := by
  constructor
  · intro z
    refine Rat.not_lt.mp fun y => ?_
    have := Rat.mul_lt_mul_of_pos_left y h
    grind
  · intro z
    exact Rat.mul_le_mul_of_nonneg_left z (Rat.le_of_lt h)
theorem mul_lt_q {a b c : Rat} (h : 0 < c) : c * a < c * b ↔ a < b := by
  rw [← Rat.not_le, ← Rat.not_le, mul_le_q h]
theorem rat_lt {t k : Int × Int} (ht : 0 < t.2) (hk : 0 < k.2) : rat t < rat k ↔ t.1 * k.2 < k.1 * t.2 := by
  have a := rat_mul ht
  have b := rat_mul hk
  have c := pos_q ht
  have d := pos_q hk
  have e : (0 : Rat) < (t.2 : Rat) * (k.2 : Rat) := by
    have := Rat.mul_lt_mul_of_pos_left c d
    grind
  rw [← mul_lt_q e]
  have l : (t.2 : Rat) * (k.2 : Rat) * rat t = ((t.1 * k.2 : Int) : Rat) := by rw [Rat.intCast_mul, ← a]; grind
  have r : (t.2 : Rat) * (k.2 : Rat) * rat k = ((k.1 * t.2 : Int) : Rat) := by rw [Rat.intCast_mul, ← b]; grind
  rw [l, r]
  exact Rat.intCast_lt_intCast
theorem if_cast {p : Prop} [Decidable p] {a b : Int} : (((if p then a else b) : Int) : Rat) = if p then (a : Rat) else (b : Rat) := by split <;> rfl
theorem cut_v {x : Int} {y c : Rat} {k : Int} (hk : (k : Rat) = c) (hc : 0 < c) (hx : (x : Rat) = c * y) (lo hi : Option Int) : ((cutI x (mulO lo k) (mulO hi k) : Int) : Rat) = c * cutQ y lo hi := by
  have key : ∀ (u : Int) (v : Rat), (u : Rat) = c * v → ∀ b : Int, ((b * k : Int) : Rat) = c * (b : Rat) ∧ (b * k < u ↔ (b : Rat) < v) ∧ (u < b * k ↔ v < (b : Rat)) := fun u v e b => by
    have eb : ((b * k : Int) : Rat) = c * (b : Rat) := by rw [Rat.intCast_mul, hk]; grind
    refine ⟨eb, ?_, ?_⟩
    · rw [← Rat.intCast_lt_intCast, eb, e, mul_lt_q hc]
    · rw [← Rat.intCast_lt_intCast, eb, e, mul_lt_q hc]
  cases lo with
  | none =>
    cases hi with
    | none => exact hx
    | some h =>
      obtain ⟨k1, k2, k3⟩ := key x y hx h
      show (((if h * k < x then h * k else x) : Int) : Rat) = c * (if (h : Rat) < y then (h : Rat) else y)
      by_cases z : h * k < x
      · rw [if_pos z, if_pos (k2.mp z), k1]
      · rw [if_neg z, if_neg (fun w => z (k2.mpr w)), hx]
  | some l =>
    cases hi with
    | none =>
      obtain ⟨k1, k2, k3⟩ := key x y hx l
      show (((if x < l * k then l * k else x) : Int) : Rat) = c * (if y < (l : Rat) then (l : Rat) else y)
      by_cases z : x < l * k
      · rw [if_pos z, if_pos (k3.mp z), k1]
      · rw [if_neg z, if_neg (fun w => z (k3.mpr w)), hx]
    | some h =>
      obtain ⟨k1, k2, k3⟩ := key x y hx h
      obtain ⟨u, v, e1, e2, e3⟩ : ∃ (u : Int) (v : Rat), (if h * k < x then h * k else x) = u ∧ (if (h : Rat) < y then (h : Rat) else y) = v ∧ (u : Rat) = c * v := by
        by_cases z : h * k < x
        · exact ⟨h * k, h, by rw [if_pos z], by rw [if_pos (k2.mp z)], k1⟩
        · exact ⟨x, y, by rw [if_neg z], by rw [if_neg (fun w => z (k2.mpr w))], hx⟩
      obtain ⟨j1, j2, j3⟩ := key u v e3 l
      show (((if (if h * k < x then h * k else x) < l * k then l * k else (if h * k < x then h * k else x)) : Int) : Rat) = c * (if (if (h : Rat) < y then (h : Rat) else y) < (l : Rat) then (l : Rat) else (if (h : Rat) < y then (h : Rat) else y))
      rw [e1, e2]
      by_cases z : u < l * k
      · rw [if_pos z, if_pos (j3.mp z), j1]
      · rw [if_neg z, if_neg (fun w => z (j3.mpr w)), e3]
theorem top_at {p : Pt} {k : Int × Int} (h : 0 < k.2) : ((p.b * k.2 + p.w * k.1 : Int) : Rat) = (k.2 : Rat) * at_ p (rat k) := by
  have a := rat_mul h
  unfold at_
  rw [Rat.intCast_add, Rat.intCast_mul, Rat.intCast_mul, ← a]
  grind
theorem top_v {p : Pt} {k : Int × Int} (h : 0 < k.2) : ((topI p k.1 k.2 : Int) : Rat) = (k.2 : Rat) * vQ p (rat k) := cut_v rfl (pos_q h) (top_at h) p.lo p.hi
theorem sum_v : ∀ {ps : List Pt} {k : Int × Int}, 0 < k.2 → ((sumI ps k.1 k.2 : Int) : Rat) = (k.2 : Rat) * SQ ps (rat k)
  | [], k, _ => by
    show ((0 : Int) : Rat) = (k.2 : Rat) * 0
    grind
  | p :: ps, k, h => by
    show (((topI p k.1 k.2 + sumI ps k.1 k.2 : Int)) : Rat) = (k.2 : Rat) * (vQ p (rat k) + SQ ps (rat k))
    rw [Rat.intCast_add, top_v h, sum_v h]
    grind
/-! ### knots -/
def knotOf (p : Pt) : Option Int → List (Int × Int)
  | some x => if 0 < p.w ∧ p.b < x then [(x - p.b, p.w)] else []
  | none => []
def knots : List Pt → List (Int × Int)
  | [] => []
  | p :: ps => knotOf p p.lo ++ knotOf p p.hi ++ knots ps
theorem knotOf_mem {p : Pt} {o : Option Int} {k : Int × Int} (h : k ∈ knotOf p o) : ∃ x, o = some x ∧ 0 < p.w ∧ p.b < x ∧ k = (x - p.b, p.w) := by
  cases o with
  | none => cases h
  | some x =>
    unfold knotOf at h
    dsimp only at h
    split at h
    · rename_i e
      exact ⟨x, rfl, e.1, e.2, List.mem_singleton.mp h⟩
    · cases h
theorem knot_mem {k : Int × Int} : ∀ {ps : List Pt}, k ∈ knots ps → ∃ p ∈ ps, ∃ x, Bd p x ∧ 0 < p.w ∧ p.b < x ∧ k = (x - p.b, p.w)
  | [], h => by cases h
  | p :: ps, h => by
    rcases List.mem_append.mp h with h | h
    · rcases List.mem_append.mp h with h | h
      · obtain ⟨x, e, r⟩ := knotOf_mem h
        exact ⟨p, List.mem_cons_self, x, .inl e, r⟩
      · obtain ⟨x, e, r⟩ := knotOf_mem h
        exact ⟨p, List.mem_cons_self, x, .inr e, r⟩
    · obtain ⟨q, hq, r⟩ := knot_mem h
      exact ⟨q, List.mem_cons_of_mem _ hq, r⟩
theorem mem_knot {p : Pt} {x : Int} (hb : Bd p x) (hw : 0 < p.w) (hx : p.b < x) : ∀ {ps : List Pt}, p ∈ ps → (x - p.b, p.w) ∈ knots ps
  | [], h => by cases h
  | q :: ps, h => by
    rcases List.mem_cons.mp h with rfl | h
    · refine List.mem_append_left _ ?_
      rcases hb with e | e
      · refine List.mem_append_left _ ?_
        rw [e]
        show _ ∈ (if 0 < p.w ∧ p.b < x then [(x - p.b, p.w)] else [])
        rw [if_pos ⟨hw, hx⟩]
        exact List.mem_cons_self
      · refine List.mem_append_right _ ?_
        rw [e]
        show _ ∈ (if 0 < p.w ∧ p.b < x then [(x - p.b, p.w)] else [])
        rw [if_pos ⟨hw, hx⟩]
        exact List.mem_cons_self
    · exact List.mem_append_right _ (mem_knot hb hw hx h)
theorem knot_at {p : Pt} {x : Int} (hw : 0 < p.w) : at_ p (rat (x - p.b, p.w)) = (x : Rat) := by
  have a := rat_mul (k := (x - p.b, p.w)) hw
  unfold at_
  dsimp only at a
  rw [a, Rat.intCast_sub]
  grind
theorem knot_le {p : Pt} {x : Int} {t : Rat} (hw : 0 < p.w) : rat (x - p.b, p.w) ≤ t ↔ (x : Rat) ≤ at_ p t := by
  rw [← knot_at (x := x) hw]
  constructor
  · exact fun h => at_mono (Int.le_of_lt hw) h
  · exact fun h => Rat.not_lt.mp fun z => by
      have := at_lt hw z
      grind
theorem le_knot {p : Pt} {x : Int} {t : Rat} (hw : 0 < p.w) : t ≤ rat (x - p.b, p.w) ↔ at_ p t ≤ (x : Rat) := by
  rw [← knot_at (x := x) hw]
  constructor
  · exact fun h => at_mono (Int.le_of_lt hw) h
  · exact fun h => Rat.not_lt.mp fun z => by
      have := at_lt hw z
      grind
/-- no knot between: for all parts -/
theorem noK_of {ps : List Pt} {t s : Rat} (h : ∀ k ∈ knots ps, rat k ≤ t ∨ s ≤ rat k) : ∀ p ∈ ps, NoK p t s := fun p hp hw x hb hx => by
  rcases h _ (mem_knot hb hw hx hp) with z | z
  · exact .inl ((knot_le hw).mp z)
  · exact .inr ((le_knot hw).mp z)

end PL.K57

set_option Elab.async false
set_option linter.all false
set_option autoImplicit false
set_option maxRecDepth 100000
set_option maxHeartbeats 1000000
namespace PL.K57
open PySem PySem.Spec PyProof.Rows L2
local macro_rules | `(tactic| walk_at "y") => `(tactic| conv => whnf)
/-! ### the least ratio -/
def lrStep (ps : List Pt) (room : Int) (t k : Int × Int) : Int × Int := if t.1 * k.2 < k.1 * t.2 ∧ sumI ps k.1 k.2 < room * k.2 then k else t
def lrT (ps : List Pt) (room : Int) : Int × Int := (knots ps).foldl (lrStep ps room) (0, 1)
def gStat (p : Pt) (top low : Int) : Bool := (match p.lo with
  | some l => decide (l * low ≤ p.b * low + p.w * top)
  | none => true) && (match p.hi with
  | some h => decide (p.b * low + p.w * top < h * low)
  | none => true)
def gainI (top low : Int) : List Pt → Int
  | [] => 0
  | p :: ps => (if gStat p top low = true then p.w else 0) + gainI top low ps
def lowI (top low : Int) : Int × Int := (top / ((Nat.gcd top.natAbs low.natAbs : Nat) : Int), low / ((Nat.gcd top.natAbs low.natAbs : Nat) : Int))
def leastR (ps : List Pt) (room : Int) : Option (Int × Int) := match decide (gainI (lrT ps room).1 (lrT ps room).2 ps = 0) with
  | true => none
  | false => some (lowI ((lrT ps room).1 * gainI (lrT ps room).1 (lrT ps room).2 ps + room * (lrT ps room).2 - sumI ps (lrT ps room).1 (lrT ps room).2) ((lrT ps room).2 * gainI (lrT ps room).1 (lrT ps room).2 ps))
theorem low_lt_q {i j : Int} {c x y : Rat} (hc : 0 < c) (hi : (i : Rat) = c * x) (hj : (j : Rat) = c * y) : i < j ↔ x < y := by
  rw [← Rat.intCast_lt_intCast, hi, hj, mul_lt_q hc]
theorem low_le_q {i j : Int} {c x y : Rat} (hc : 0 < c) (hi : (i : Rat) = c * x) (hj : (j : Rat) = c * y) : i ≤ j ↔ x ≤ y := by
  rw [← Rat.intCast_le_intCast, hi, hj, mul_le_q hc]
theorem cast_mul_r {a k : Int} : ((a * k : Int) : Rat) = (k : Rat) * (a : Rat) := by rw [Rat.intCast_mul]; grind
theorem stat_mov {p : Pt} {k : Int × Int} (h : 0 < k.2) : gStat p k.1 k.2 = true ↔ Mov p (rat k) := by
  have hx := top_at (p := p) h
  have hc := pos_q h
  unfold gStat Mov
  constructor
  · intro z
    obtain ⟨z1, z2⟩ := Bool.and_eq_true_iff.mp z
    refine ⟨fun l e => ?_, fun h' e => ?_⟩
    · rw [e] at z1
      exact (low_le_q hc cast_mul_r hx).mp (of_decide_eq_true z1)
    · rw [e] at z2
      exact (low_lt_q hc hx cast_mul_r).mp (of_decide_eq_true z2)
  · rintro ⟨z1, z2⟩
    refine Bool.and_eq_true_iff.mpr ⟨?_, ?_⟩
    · cases e : p.lo with
      | none => rfl
      | some l => exact decide_eq_true ((low_le_q hc cast_mul_r hx).mpr (z1 l e))
    · cases e : p.hi with
      | none => rfl
      | some l => exact decide_eq_true ((low_lt_q hc hx cast_mul_r).mpr (z2 l e))
open Classical in
theorem gain_q : ∀ {ps : List Pt} {k : Int × Int}, 0 < k.2 → ((gainI k.1 k.2 ps : Int) : Rat) = gQ ps (rat k)
  | [], _, _ => rfl
  | p :: ps, k, h => by
    show (((if gStat p k.1 k.2 = true then p.w else 0) + gainI k.1 k.2 ps : Int) : Rat) = (if Mov p (rat k) then (p.w : Rat) else 0) + gQ ps (rat k)
    rw [Rat.intCast_add, gain_q h]
    by_cases z : Mov p (rat k)
    · rw [if_pos z, if_pos ((stat_mov h).mpr z)]
    · rw [if_neg z, if_neg (fun y => z ((stat_mov h).mp y))]
      rfl
theorem gain_nonneg {ps : List Pt} (ok : ∀ p ∈ ps, POk p) (top low : Int) : 0 ≤ gainI top low ps := by
  induction ps with
  | nil => exact Int.le_refl _
  | cons p ps ih =>
    have h1 := ih fun q hq => ok q (List.mem_cons_of_mem _ hq)
    have h2 := (ok p List.mem_cons_self).w0
    show 0 ≤ (if gStat p top low = true then p.w else 0) + gainI top low ps
    split <;> omega
theorem gain_zero {top low : Int} : ∀ {ps : List Pt}, (∀ p ∈ ps, POk p) → gainI top low ps = 0 → ∀ p ∈ ps, 0 < p.w → gStat p top low = false
  | [], _, _, p, hp, _ => by cases hp
  | q :: ps, ok, h, p, hp, hw => by
    have h1 := gain_nonneg (fun q hq => ok q (List.mem_cons_of_mem _ hq)) top low
    have h2 := (ok q List.mem_cons_self).w0
    have h : (if gStat q top low = true then q.w else 0) + gainI top low ps = 0 := h
    rcases List.mem_cons.mp hp with rfl | hp
    · cases e : gStat p top low with
      | false => rfl
      | true =>
        rw [if_pos e] at h
        omega
    · refine gain_zero (fun q hq => ok q (List.mem_cons_of_mem _ hq)) ?_ p hp hw
      split at h <;> omega
theorem gain_pos {top low : Int} : ∀ {ps : List Pt}, 0 < gainI top low ps → ∃ p ∈ ps, 0 < p.w ∧ gStat p top low = true
  | [], h => by
    have h : (0 : Int) < 0 := h
    omega
  | q :: ps, h => by
    have h : 0 < (if gStat q top low = true then q.w else 0) + gainI top low ps := h
    by_cases z : gStat q top low = true ∧ 0 < q.w
    · exact ⟨q, List.mem_cons_self, z.2, z.1⟩
    · have : 0 < gainI top low ps := by
        by_cases y : gStat q top low = true
        · rw [if_pos y] at h
          have : ¬ 0 < q.w := fun w => z ⟨y, w⟩
          omega
        · rw [if_neg y] at h
          omega
      obtain ⟨p, hp, r⟩ := gain_pos this
      exact ⟨p, List.mem_cons_of_mem _ hp, r⟩
/-- where the walk over the knots stands -/
structure LrI (ps : List Pt) (room : Int) (t : Int × Int) (seen : List (Int × Int)) : Prop where
  t0 : 0 ≤ t.1
  t1 : 0 < t.2
  lt : SQ ps (rat t) < (room : Rat)
  met : ∀ k ∈ seen, rat k ≤ rat t ∨ (room : Rat) ≤ SQ ps (rat k)
theorem lr_test {ps : List Pt} {room : Int} {k : Int × Int} (h : 0 < k.2) : sumI ps k.1 k.2 < room * k.2 ↔ SQ ps (rat k) < (room : Rat) := low_lt_q (pos_q h) (sum_v h) cast_mul_r
theorem lr_fold {ps : List Pt} {room : Int} : ∀ {ks seen : List (Int × Int)} {t : Int × Int}, (∀ k ∈ ks, 0 < k.1 ∧ 0 < k.2) → LrI ps room t seen → LrI ps room (ks.foldl (lrStep ps room) t) (seen ++ ks)
  | [], seen, t, _, h => by rw [List.append_nil]; exact h
  | k :: ks, seen, t, hk, h => by
    have k0 := hk k List.mem_cons_self
    have e : seen ++ k :: ks = (seen ++ [k]) ++ ks := by simp
    rw [e]
    refine lr_fold (fun q hq => hk q (List.mem_cons_of_mem _ hq)) ?_
    unfold lrStep
    by_cases z : t.1 * k.2 < k.1 * t.2 ∧ sumI ps k.1 k.2 < room * k.2
    · rw [if_pos z]
      have lt := (rat_lt h.t1 k0.2).mpr z.1
      refine ⟨Int.le_of_lt k0.1, k0.2, (lr_test k0.2).mp z.2, fun q hq => ?_⟩
      rcases List.mem_append.mp hq with hq | hq
      · rcases h.met q hq with y | y
        · left; grind
        · exact .inr y
      · rw [List.mem_singleton.mp hq]
        left; grind
    · rw [if_neg z]
      refine ⟨h.t0, h.t1, h.lt, fun q hq => ?_⟩
      rcases List.mem_append.mp hq with hq | hq
      · exact h.met q hq
      · rw [List.mem_singleton.mp hq]
        by_cases y : t.1 * k.2 < k.1 * t.2
        · right
          exact Rat.not_lt.mp fun w => z ⟨y, (lr_test k0.2).mpr w⟩
        · left
          exact Rat.not_lt.mp fun w => y ((rat_lt h.t1 k0.2).mp w)
theorem knot_pos {ps : List Pt} : ∀ k ∈ knots ps, 0 < k.1 ∧ 0 < k.2 := fun k hk => by
  obtain ⟨p, _, x, _, hw, hx, rfl⟩ := knot_mem hk
  exact ⟨by dsimp only; omega, hw⟩
theorem rat_zero : rat (0, 1) = 0 := by unfold rat; grind
theorem lr_ok {ps : List Pt} {room : Int} (h : SQ ps 0 < (room : Rat)) : LrI ps room (lrT ps room) (knots ps) := by
  have := lr_fold (ps := ps) (room := room) (ks := knots ps) (seen := []) (t := (0, 1)) knot_pos ⟨Int.le_refl _, by decide, by rw [rat_zero]; exact h, fun k hk => by cases hk⟩
  rw [List.nil_append] at this
  exact this
theorem min_of : ∀ {l : List Rat}, l ≠ [] → ∃ m ∈ l, ∀ x ∈ l, m ≤ x
  | [], h => (h rfl).elim
  | [a], _ => ⟨a, List.mem_cons_self, fun x hx => by rw [List.mem_singleton.mp hx]; exact Rat.le_refl⟩
  | a :: b :: l, _ => by
    obtain ⟨m, hm, h⟩ := min_of (l := b :: l) (by simp)
    by_cases z : a ≤ m
    · refine ⟨a, List.mem_cons_self, fun x hx => ?_⟩
      rcases List.mem_cons.mp hx with rfl | hx
      · exact Rat.le_refl
      · have := h x hx
        grind
    · refine ⟨m, List.mem_cons_of_mem _ hm, fun x hx => ?_⟩
      rcases List.mem_cons.mp hx with rfl | hx
      · grind
      · exact h x hx
/-- the first knot behind t -/
theorem next_knot {ps : List Pt} {t : Rat} {k : Int × Int} (hk : k ∈ knots ps) (h : t < rat k) : ∃ m ∈ knots ps, t < rat m ∧ rat m ≤ rat k ∧ ∀ q ∈ knots ps, rat q ≤ t ∨ rat m ≤ rat q := by
  let l := ((knots ps).map rat).filter fun x => decide (t < x)
  have hm : rat k ∈ l := List.mem_filter.mpr ⟨List.mem_map.mpr ⟨k, hk, rfl⟩, decide_eq_true h⟩
  obtain ⟨m, m1, m2⟩ := min_of (l := l) (List.ne_nil_of_mem hm)
  obtain ⟨m3, m4⟩ := List.mem_filter.mp m1
  obtain ⟨q, q1, rfl⟩ := List.mem_map.mp m3
  refine ⟨q, q1, of_decide_eq_true m4, m2 _ hm, fun x hx => ?_⟩
  by_cases z : t < rat x
  · exact .inr (m2 _ (List.mem_filter.mpr ⟨List.mem_map.mpr ⟨x, hx, rfl⟩, decide_eq_true z⟩))
  · exact .inl (Rat.not_lt.mp z)

end PL.K57

set_option Elab.async false
set_option linter.all false
set_option autoImplicit false
set_option maxRecDepth 100000
set_option maxHeartbeats 1000000
namespace PL.K57
open PySem PySem.Spec PyProof.Rows L2
local macro_rules | `(tactic| walk_at "y") => `(tactic| conv => whnf)
/-! ### what the least ratio is -/
theorem lr_between {ps : List Pt} {room : Int} {t : Int × Int} (ok : ∀ p ∈ ps, POk p) (I : LrI ps room t (knots ps)) {s : Rat} (hs : ∀ m : Rat, m < s → SQ ps (rat t) + gQ ps (rat t) * (m - rat t) < (room : Rat)) : ∀ k ∈ knots ps, rat k ≤ rat t ∨ s ≤ rat k := fun k hk => by
  by_cases z : rat t < rat k
  · right
    refine Rat.not_lt.mp fun y => ?_
    obtain ⟨m, m1, m2, m3, m4⟩ := next_knot hk z
    have t0 : (0 : Rat) ≤ rat t := by
      have a := (rat_lt (t := t) (k := (0, 1)) I.t1 (by decide))
      rw [rat_zero] at a
      refine Rat.not_lt.mp fun w => ?_
      have := a.mp w
      have := I.t0
      omega
    have f := flat_sum ok t0 (Rat.le_of_lt m2) (noK_of m4)
    have g := hs (rat m) (by grind)
    rcases I.met m m1 with w | w
    · grind
    · grind
  · exact .inl (Rat.not_lt.mp z)
theorem rat_nonneg {t : Int × Int} (h0 : 0 ≤ t.1) (h1 : 0 < t.2) : (0 : Rat) ≤ rat t := by
  have a := (rat_lt (t := t) (k := (0, 1)) h1 (by decide))
  rw [rat_zero] at a
  refine Rat.not_lt.mp fun w => ?_
  have := a.mp w
  omega
theorem rat_pos {t : Int × Int} (h0 : 0 < t.1) (h1 : 0 < t.2) : (0 : Rat) < rat t := by
  have a := (rat_lt (t := (0, 1)) (k := t) (by decide) h1)
  rw [rat_zero] at a
  refine a.mpr ?_
  omega
theorem lowI_mul {n d : Int} (hd : 0 < d) : 0 < ((Nat.gcd n.natAbs d.natAbs : Nat) : Int) ∧ n = (lowI n d).1 * ((Nat.gcd n.natAbs d.natAbs : Nat) : Int) ∧ d = (lowI n d).2 * ((Nat.gcd n.natAbs d.natAbs : Nat) : Int) := by
  have h0 : 0 < Nat.gcd n.natAbs d.natAbs := Nat.gcd_pos_of_pos_right _ (by omega)
  refine ⟨by omega, ?_, ?_⟩
  · have : ((Nat.gcd n.natAbs d.natAbs : Nat) : Int) ∣ n := Int.ofNat_dvd_left.mpr (Nat.gcd_dvd_left _ _)
    exact (Int.ediv_mul_cancel this).symm
  · have : ((Nat.gcd n.natAbs d.natAbs : Nat) : Int) ∣ d := Int.ofNat_dvd_left.mpr (Nat.gcd_dvd_right _ _)
    exact (Int.ediv_mul_cancel this).symm
theorem pos_of_mul {a g d : Int} (hd : 0 < d) (hg : 0 < g) (e : d = a * g) : 0 < a := by
  rcases Int.lt_or_le 0 a with h | h
  · exact h
  · have := Int.mul_nonpos_of_nonpos_of_nonneg h (Int.le_of_lt hg)
    omega
theorem lowI_low {n d : Int} (hd : 0 < d) : 0 < (lowI n d).2 ∧ (lowI n d).2 ≤ d := by
  obtain ⟨g0, _, e⟩ := lowI_mul (n := n) hd
  have h := pos_of_mul hd g0 e
  refine ⟨h, ?_⟩
  have : (lowI n d).2 * 1 ≤ (lowI n d).2 * ((Nat.gcd n.natAbs d.natAbs : Nat) : Int) := Int.mul_le_mul_of_nonneg_left (by omega) (by omega)
  omega
theorem lowI_top {n d : Int} (hd : 0 < d) (hn : 0 < n) : 0 < (lowI n d).1 := by
  obtain ⟨g0, e, _⟩ := lowI_mul (n := n) hd
  exact pos_of_mul hn g0 e
theorem lowI_gcd {n d : Int} (hd : 0 < d) : Nat.gcd (lowI n d).1.natAbs (lowI n d).2.natAbs = 1 := by
  have h0 : 0 < Nat.gcd n.natAbs d.natAbs := Nat.gcd_pos_of_pos_right _ (by omega)
  obtain ⟨_, e1, e2⟩ := lowI_mul (n := n) hd
  have a1 : n.natAbs = (lowI n d).1.natAbs * Nat.gcd n.natAbs d.natAbs := by
    have := congrArg Int.natAbs e1
    rw [Int.natAbs_mul, Int.natAbs_natCast] at this
    exact this
  have a2 : d.natAbs = (lowI n d).2.natAbs * Nat.gcd n.natAbs d.natAbs := by
    have := congrArg Int.natAbs e2
    rw [Int.natAbs_mul, Int.natAbs_natCast] at this
    exact this
  have := Nat.gcd_mul_right (lowI n d).1.natAbs (Nat.gcd n.natAbs d.natAbs) (lowI n d).2.natAbs
  rw [← a1, ← a2] at this
  exact Nat.eq_of_mul_eq_mul_right h0 (by omega)
theorem lowI_rat {n d : Int} (hd : 0 < d) : (d : Rat) * rat (lowI n d) = (n : Rat) := by
  obtain ⟨g0, e1, e2⟩ := lowI_mul (n := n) hd
  have l := (lowI_low (n := n) hd).1
  have a := rat_mul l
  have b : (d : Rat) = ((lowI n d).2 : Rat) * (((Nat.gcd n.natAbs d.natAbs : Nat) : Int) : Rat) := by rw [← Rat.intCast_mul, ← e2]
  have c : (n : Rat) = ((lowI n d).1 : Rat) * (((Nat.gcd n.natAbs d.natAbs : Nat) : Int) : Rat) := by rw [← Rat.intCast_mul, ← e1]
  rw [b, c, ← a]
  grind
/-- it moves to the left of t -/
def MovL (p : Pt) (t : Rat) : Prop := (∀ l, p.lo = some l → (l : Rat) < at_ p t) ∧ ∀ h, p.hi = some h → at_ p t ≤ h
def LeastOk (ps : List Pt) (room : Int) : Option (Int × Int) → Prop
  | none => ∃ t : Rat, 0 ≤ t ∧ SQ ps t < (room : Rat) ∧ ∀ p ∈ ps, 0 < p.w → ∃ h, p.hi = some h ∧ (h : Rat) ≤ at_ p t
  | some r => 0 < r.1 ∧ 0 < r.2 ∧ Nat.gcd r.1.natAbs r.2.natAbs = 1 ∧ SQ ps (rat r) = (room : Rat) ∧ ∃ p ∈ ps, 0 < p.w ∧ MovL p (rat r)
theorem least_spec {ps : List Pt} {room : Int} (ok : ∀ p ∈ ps, POk p) (h : SQ ps 0 < (room : Rat)) : LeastOk ps room (leastR ps room) := by
  have I := lr_ok h
  have t0 := rat_nonneg I.t0 I.t1
  unfold leastR
  generalize lrT ps room = t at I t0
  cases e : decide (gainI t.1 t.2 ps = 0) with
  | true =>
    have g0 := of_decide_eq_true e
    have gz : gQ ps (rat t) = 0 := by
      rw [← gain_q I.t1, g0]; rfl
    refine ⟨rat t, t0, I.lt, fun p hp hw => ?_⟩
    have st := gain_zero ok g0 p hp hw
    have nm : ¬ Mov p (rat t) := fun z => by rw [(stat_mov I.t1).mpr z] at st; cases st
    have lb : ∀ l, p.lo = some l → (l : Rat) ≤ at_ p (rat t) := fun l hl => by
      refine Rat.not_lt.mp fun z => ?_
      have b0 := at_mono (p := p) (Int.le_of_lt hw) t0
      rw [at_zero] at b0
      have lp : (p.b : Rat) < (l : Rat) := by grind
      have lp : p.b < l := Rat.intCast_lt_intCast.mp lp
      have hk := mem_knot (.inl hl) hw lp hp
      have s := lr_between ok I (s := rat (l - p.b, p.w) + 1) (fun m _ => by rw [gz]; have := I.lt; grind) _ hk
      rcases s with s | s
      · have := (knot_le hw).mp s
        grind
      · grind
    cases eh : p.hi with
    | none => exact (nm ⟨lb, fun h z => by rw [eh] at z; cases z⟩).elim
    | some h =>
      refine ⟨h, rfl, Rat.not_lt.mp fun z => nm ⟨lb, fun h' y => ?_⟩⟩
      rw [eh] at y
      cases y
      exact z
  | false =>
    have g0 : 0 < gainI t.1 t.2 ps := by
      have a := gain_nonneg ok t.1 t.2
      have b := of_decide_eq_false e
      omega
    have hd : 0 < t.2 * gainI t.1 t.2 ps := Int.mul_pos I.t1 g0
    have gq := gain_q (ps := ps) I.t1
    have gp := pos_q g0
    have sq := sum_v (ps := ps) I.t1
    have rm := rat_mul I.t1
    have tp := pos_q I.t1
    have L := I.lt
    have hn : 0 < t.1 * gainI t.1 t.2 ps + room * t.2 - sumI ps t.1 t.2 := by
      have a : sumI ps t.1 t.2 < room * t.2 := (lr_test I.t1).mpr I.lt
      have b := Int.mul_nonneg I.t0 (Int.le_of_lt g0)
      omega
    have lr := lowI_rat (n := t.1 * gainI t.1 t.2 ps + room * t.2 - sumI ps t.1 t.2) hd
    have l1 := lowI_low (n := t.1 * gainI t.1 t.2 ps + room * t.2 - sumI ps t.1 t.2) hd
    have l2 := lowI_top hd hn
    have l3 := lowI_gcd (n := t.1 * gainI t.1 t.2 ps + room * t.2 - sumI ps t.1 t.2) hd
    show LeastOk ps room (some (lowI (t.1 * gainI t.1 t.2 ps + room * t.2 - sumI ps t.1 t.2) (t.2 * gainI t.1 t.2 ps)))
    generalize lowI (t.1 * gainI t.1 t.2 ps + room * t.2 - sumI ps t.1 t.2) (t.2 * gainI t.1 t.2 ps) = r at lr l1 l2 l3
    have eq1 : gQ ps (rat t) * (rat r - rat t) = (room : Rat) - SQ ps (rat t) := by
      rw [Rat.intCast_mul, Rat.intCast_sub, Rat.intCast_add, Rat.intCast_mul, Rat.intCast_mul, gq, sq, ← rm] at lr
      have tp' : (t.2 : Rat) ≠ 0 := by grind
      have : (t.2 : Rat) * (gQ ps (rat t) * (rat r - rat t) - ((room : Rat) - SQ ps (rat t))) = 0 := by grind
      rcases Rat.mul_eq_zero.mp this with z | z
      · exact (tp' z).elim
      · grind
    rw [gq] at gp
    have lt : rat t < rat r := by
      refine Rat.not_le.mp fun z => ?_
      have := Rat.mul_le_mul_of_nonneg_left z (Rat.le_of_lt gp)
      grind
    have nk := lr_between ok I (s := rat r) fun m hm => by
      have := Rat.mul_lt_mul_of_pos_left hm gp
      grind
    have nk := noK_of nk
    have f := flat_sum ok t0 (Rat.le_of_lt lt) nk
    refine ⟨l2, l1.1, l3, by rw [f, eq1]; grind, ?_⟩
    obtain ⟨p, hp, hw, st⟩ := gain_pos g0
    obtain ⟨m1, m2⟩ := (stat_mov I.t1).mp st
    have a1 := at_lt hw lt
    refine ⟨p, hp, hw, fun l hl => ?_, fun h hh => ?_⟩
    · have := m1 l hl
      grind
    · have a2 := m2 h hh
      have b0 := at_mono (p := p) (Int.le_of_lt hw) t0
      rw [at_zero] at b0
      have lp : (p.b : Rat) < (h : Rat) := by grind
      have lp : p.b < h := Rat.intCast_lt_intCast.mp lp
      rcases nk p hp hw h (.inr hh) lp with z | z
      · grind
      · exact z

end PL.K57

set_option Elab.async false
set_option linter.all false
set_option autoImplicit false
set_option maxRecDepth 100000
set_option maxHeartbeats 1000000
namespace PL.K57
open PySem PySem.Spec PyProof.Rows L2
local macro_rules | `(tactic| walk_at "y") => `(tactic| conv => whnf)
/-! ### mirrored, the ends, the ratio -/
def negO : Option Int → Option Int
  | some l => some (-l)
  | none => none
def mir (p : Pt) : Pt := ⟨-p.b, p.w, mulO p.hi (-1), negO p.lo⟩
theorem mir_ok {p : Pt} (h : POk p) : POk (mir p) := ⟨h.w0, fun l h' a b => by
  unfold mir mulO negO at a b
  dsimp only at a b
  cases el : p.lo with
  | none => rw [el] at b; cases b
  | some l0 =>
    cases eh : p.hi with
    | none => rw [eh] at a; cases a
    | some h0 =>
      rw [el] at b
      rw [eh] at a
      have := h.le l0 h0 el eh
      cases a; cases b
      omega⟩
theorem mir_at (p : Pt) (t : Rat) : at_ (mir p) t = -at_ p (-t) := by
  unfold at_ mir
  dsimp only
  rw [Rat.intCast_neg]
  grind
theorem mir_v {p : Pt} (ok : POk p) (t : Rat) : vQ (mir p) t = -vQ p (-t) := by
  unfold vQ
  rw [mir_at]
  generalize at_ p (-t) = x
  unfold mir cutQ
  dsimp only
  cases el : p.lo with
  | none =>
    cases eh : p.hi with
    | none => rfl
    | some h =>
      dsimp only [mulO, negO]
      rw [Rat.intCast_mul]
      have : (((-1 : Int)) : Rat) = -1 := rfl
      rw [this]
      grind
  | some l =>
    cases eh : p.hi with
    | none =>
      dsimp only [mulO, negO]
      rw [Rat.intCast_neg]
      grind
    | some h =>
      have lh : (l : Rat) ≤ (h : Rat) := Rat.intCast_le_intCast.mpr (ok.le l h el eh)
      dsimp only [mulO, negO]
      rw [Rat.intCast_mul, Rat.intCast_neg]
      have : (((-1 : Int)) : Rat) = -1 := rfl
      rw [this]
      grind
theorem mir_S : ∀ {ps : List Pt} (t : Rat), (∀ p ∈ ps, POk p) → SQ (ps.map mir) t = -SQ ps (-t)
  | [], t, _ => by unfold SQ; show (0 : Rat) = -0; grind
  | p :: ps, t, ok => by
    show vQ (mir p) t + SQ (ps.map mir) t = -(vQ p (-t) + SQ ps (-t))
    rw [mir_v (ok p List.mem_cons_self), mir_S t fun q hq => ok q (List.mem_cons_of_mem _ hq)]
    grind
theorem cut_cast (x : Int) (lo hi : Option Int) : ((cutI x lo hi : Int) : Rat) = cutQ (x : Rat) lo hi := by
  have key : ∀ b u : Int, (b < u ↔ (b : Rat) < (u : Rat)) := fun b u => Rat.intCast_lt_intCast.symm
  cases lo with
  | none =>
    cases hi with
    | none => rfl
    | some h =>
      show (((if h < x then h else x) : Int) : Rat) = (if (h : Rat) < (x : Rat) then (h : Rat) else x)
      rw [if_cast]
      simp only [key h x]
  | some l =>
    cases hi with
    | none =>
      show (((if x < l then l else x) : Int) : Rat) = (if (x : Rat) < (l : Rat) then (l : Rat) else x)
      rw [if_cast]
      simp only [key x l]
    | some h =>
      show (((if (if h < x then h else x) < l then l else (if h < x then h else x)) : Int) : Rat) = (if (if (h : Rat) < (x : Rat) then (h : Rat) else x) < (l : Rat) then (l : Rat) else (if (h : Rat) < (x : Rat) then (h : Rat) else x))
      rw [if_cast, if_cast]
      simp only [key _ l, if_cast, key h x]
/-- the ends -/
def leastI (p : Pt) : Int := if 0 < p.w then p.lo.getD 0 else cutI p.b p.lo p.hi
def mostO (p : Pt) : Option Int := if 0 < p.w then p.hi else some (cutI p.b p.lo p.hi)
def leasts (ps : List Pt) : Int := (ps.map leastI).sum
def mosts (ps : List Pt) : Int := (ps.map fun p => (mostO p).getD 0).sum
theorem v_flat {p : Pt} (h : ¬ 0 < p.w) (ok : POk p) (t : Rat) : vQ p t = ((cutI p.b p.lo p.hi : Int) : Rat) := by
  have : p.w = 0 := by have := ok.w0; omega
  rw [cut_cast]
  unfold vQ at_
  rw [this]
  have : (p.b : Rat) + ((0 : Int) : Rat) * t = (p.b : Rat) := by grind
  rw [this]
theorem v_least {p : Pt} (ok : POk p) (t : Rat) {l : Int} (hl : p.lo = some l) : (leastI p : Rat) ≤ vQ p t := by
  unfold leastI
  by_cases z : 0 < p.w
  · rw [if_pos z, hl]
    unfold vQ cutQ
    rw [hl]
    cases p.hi with
    | none => dsimp only [Option.getD]; grind
    | some h => dsimp only [Option.getD]; grind
  · rw [if_neg z, v_flat z ok]
    exact Rat.le_refl
theorem v_most {p : Pt} (ok : POk p) (t : Rat) {m : Int} (hm : mostO p = some m) : vQ p t ≤ (m : Rat) := by
  unfold mostO at hm
  by_cases z : 0 < p.w
  · rw [if_pos z] at hm
    unfold vQ cutQ
    rw [hm]
    cases el : p.lo with
    | none => dsimp only; grind
    | some l =>
      have lh : (l : Rat) ≤ (m : Rat) := Rat.intCast_le_intCast.mpr (ok.le l m el hm)
      dsimp only; grind
  · rw [if_neg z] at hm
    cases hm
    rw [v_flat z ok]
    exact Rat.le_refl
theorem S_least : ∀ {ps : List Pt} (t : Rat), (∀ p ∈ ps, POk p ∧ ∃ l, p.lo = some l) → (leasts ps : Rat) ≤ SQ ps t
  | [], t, _ => Rat.le_refl
  | p :: ps, t, ok => by
    have h2 := S_least t fun q hq => ok q (List.mem_cons_of_mem _ hq)
    obtain ⟨k, l, hl⟩ := ok p List.mem_cons_self
    have h1 := v_least k t hl
    show ((leastI p + leasts ps : Int) : Rat) ≤ vQ p t + SQ ps t
    rw [Rat.intCast_add]
    grind
theorem S_most : ∀ {ps : List Pt} (t : Rat), (∀ p ∈ ps, POk p ∧ ∃ m, mostO p = some m) → SQ ps t ≤ (mosts ps : Rat)
  | [], t, _ => Rat.le_refl
  | p :: ps, t, ok => by
    have h2 := S_most t fun q hq => ok q (List.mem_cons_of_mem _ hq)
    obtain ⟨k, l, hl⟩ := ok p List.mem_cons_self
    have h1 := v_most k t hl
    show vQ p t + SQ ps t ≤ (((mostO p).getD 0 + mosts ps : Int) : Rat)
    rw [Rat.intCast_add, hl]
    dsimp only [Option.getD]
    grind
theorem S_at_most : ∀ {ps : List Pt} {t : Rat}, (∀ p ∈ ps, POk p ∧ (0 < p.w → ∃ h, p.hi = some h ∧ (h : Rat) ≤ at_ p t)) → SQ ps t = (mosts ps : Rat) ∧ ∀ p ∈ ps, ∃ m, mostO p = some m
  | [], t, _ => ⟨rfl, fun p hp => by cases hp⟩
  | p :: ps, t, ok => by
    have h2 := S_at_most (t := t) fun q hq => ok q (List.mem_cons_of_mem _ hq)
    obtain ⟨k, hl⟩ := ok p List.mem_cons_self
    have h1 : ∃ m, mostO p = some m ∧ vQ p t = (m : Rat) := by
      unfold mostO
      by_cases z : 0 < p.w
      · obtain ⟨h, e, a⟩ := hl z
        rw [if_pos z]
        refine ⟨h, e, ?_⟩
        unfold vQ cutQ
        rw [e]
        cases el : p.lo with
        | none => dsimp only; grind
        | some l =>
          have lh : (l : Rat) ≤ (h : Rat) := Rat.intCast_le_intCast.mpr (k.le l h el e)
          dsimp only; grind
      · rw [if_neg z]
        exact ⟨_, rfl, v_flat z k t⟩
    obtain ⟨m, e1, e2⟩ := h1
    refine ⟨?_, fun q hq => ?_⟩
    · show vQ p t + SQ ps t = (((mostO p).getD 0 + mosts ps : Int) : Rat)
      rw [Rat.intCast_add, e1, h2.1, e2]
      rfl
    · rcases List.mem_cons.mp hq with rfl | hq
      · exact ⟨m, e1⟩
      · exact h2.2 q hq
/-- the mirrored ones at their most -/
theorem S_at_least : ∀ {ps : List Pt} {t : Rat}, (∀ p ∈ ps, (POk p ∧ ∃ l, p.lo = some l) ∧ (0 < p.w → ∃ h, negO p.lo = some h ∧ (h : Rat) ≤ -at_ p t)) → SQ ps t = (leasts ps : Rat)
  | [], t, _ => rfl
  | p :: ps, t, ok => by
    have h2 := S_at_least (t := t) fun q hq => ok q (List.mem_cons_of_mem _ hq)
    obtain ⟨⟨k, l, el⟩, hl⟩ := ok p List.mem_cons_self
    show vQ p t + SQ ps t = ((leastI p + leasts ps : Int) : Rat)
    rw [Rat.intCast_add, h2]
    have : vQ p t = (leastI p : Rat) := by
      unfold leastI
      by_cases z : 0 < p.w
      · obtain ⟨h, e, a⟩ := hl z
        rw [if_pos z, el]
        rw [el] at e
        cases e
        rw [Rat.intCast_neg] at a
        unfold vQ cutQ
        rw [el]
        cases eh : p.hi with
        | none => dsimp only [Option.getD]; grind
        | some h =>
          have lh : (l : Rat) ≤ (h : Rat) := Rat.intCast_le_intCast.mpr (k.le l h el eh)
          dsimp only [Option.getD]; grind
      · rw [if_neg z]
        exact v_flat z k t
    rw [this]
def lStat (p : Pt) (top low : Int) : Bool := (match p.lo with
  | some l => decide (l * low < p.b * low + p.w * top)
  | none => true) && (match p.hi with
  | some h => decide (p.b * low + p.w * top ≤ h * low)
  | none => true)
theorem statL_mov {p : Pt} {k : Int × Int} (h : 0 < k.2) : lStat p k.1 k.2 = true ↔ MovL p (rat k) := by
  have hx := top_at (p := p) h
  have hc := pos_q h
  unfold lStat MovL
  constructor
  · intro z
    obtain ⟨z1, z2⟩ := Bool.and_eq_true_iff.mp z
    refine ⟨fun l e => ?_, fun h' e => ?_⟩
    · rw [e] at z1
      exact (low_lt_q hc cast_mul_r hx).mp (of_decide_eq_true z1)
    · rw [e] at z2
      exact (low_le_q hc hx cast_mul_r).mp (of_decide_eq_true z2)
  · rintro ⟨z1, z2⟩
    refine Bool.and_eq_true_iff.mpr ⟨?_, ?_⟩
    · cases e : p.lo with
      | none => rfl
      | some l => exact decide_eq_true ((low_lt_q hc cast_mul_r hx).mpr (z1 l e))
    · cases e : p.hi with
      | none => rfl
      | some l => exact decide_eq_true ((low_le_q hc hx cast_mul_r).mpr (z2 l e))
def ratioI (ps : List Pt) (room : Int) : Option (Int × Int) := match decide (sumI ps 0 1 = room), decide (sumI ps 0 1 < room) with
  | true, _ => some (0, 1)
  | false, true => leastR ps room
  | false, false => match leastR (ps.map mir) (-room) with
    | none => none
    | some r => some (-r.1, r.2)
structure Good (ps : List Pt) (room : Int) (r : Int × Int) : Prop where
  low : 0 < r.2
  gcd : Nat.gcd r.1.natAbs r.2.natAbs = 1
  sum : sumI ps r.1 r.2 = room * r.2
  most : (∀ p ∈ ps, ∃ m, mostO p = some m) → room ≤ mosts ps
  least : leasts ps ≤ room
  near : r.1 = 0 ∨ (0 < r.1 ∧ ∃ p ∈ ps, 0 < p.w ∧ lStat p r.1 r.2 = true) ∨ (r.1 < 0 ∧ ∃ p ∈ ps, 0 < p.w ∧ gStat p r.1 r.2 = true)
def RatioOk (ps : List Pt) (room : Int) : Option (Int × Int) → Prop
  | none => (sumI ps 0 1 < room ∧ leasts ps ≤ room ∧ mosts ps < room ∧ ∀ p ∈ ps, ∃ m, mostO p = some m) ∨ (¬ sumI ps 0 1 < room ∧ room < leasts ps)
  | some r => Good ps room r
theorem good_of {ps : List Pt} {room : Int} {r : Int × Int} (ok : ∀ p ∈ ps, POk p ∧ ∃ l, p.lo = some l) (h1 : 0 < r.2) (h2 : Nat.gcd r.1.natAbs r.2.natAbs = 1) (h3 : SQ ps (rat r) = (room : Rat)) (h4 : r.1 = 0 ∨ (0 < r.1 ∧ ∃ p ∈ ps, 0 < p.w ∧ lStat p r.1 r.2 = true) ∨ (r.1 < 0 ∧ ∃ p ∈ ps, 0 < p.w ∧ gStat p r.1 r.2 = true)) : Good ps room r := by
  refine ⟨h1, h2, ?_, fun hm => ?_, ?_, h4⟩
  · have a := sum_v (ps := ps) h1
    rw [h3] at a
    have : ((sumI ps r.1 r.2 : Int) : Rat) = ((room * r.2 : Int) : Rat) := by rw [a, Rat.intCast_mul]; grind
    exact Rat.intCast_inj.mp this
  · have a := S_most (rat r) fun p hp => ⟨(ok p hp).1, hm p hp⟩
    rw [h3] at a
    exact Rat.intCast_le_intCast.mp a
  · have a := S_least (rat r) ok
    rw [h3] at a
    exact Rat.intCast_le_intCast.mp a
theorem sum_zero (ps : List Pt) : ((sumI ps 0 1 : Int) : Rat) = SQ ps 0 := by
  have := sum_v (ps := ps) (k := (0, 1)) (by decide)
  rw [rat_zero] at this
  dsimp only at this
  rw [this]
  have : ((1 : Int) : Rat) = 1 := rfl
  rw [this]
  grind
theorem rat_neg (r : Int × Int) : rat (-r.1, r.2) = -rat r := by
  unfold rat
  dsimp only
  rw [Rat.intCast_neg]
  grind
theorem ratio_spec {ps : List Pt} {room : Int} (ok : ∀ p ∈ ps, POk p ∧ ∃ l, p.lo = some l) : RatioOk ps room (ratioI ps room) := by
  have z := sum_zero ps
  unfold ratioI
  cases e1 : decide (sumI ps 0 1 = room) with
  | true =>
    have e1 := of_decide_eq_true e1
    refine good_of ok (by decide) (by decide) ?_ (.inl rfl)
    rw [rat_zero, ← z, e1]
  | false =>
    have e1 := of_decide_eq_false e1
    cases e2 : decide (sumI ps 0 1 < room) with
    | true =>
      have e2 := of_decide_eq_true e2
      have lt : SQ ps 0 < (room : Rat) := by rw [← z]; exact Rat.intCast_lt_intCast.mpr e2
      have L := least_spec (fun p hp => (ok p hp).1) lt
      dsimp only
      cases e3 : leastR ps room with
      | none =>
        rw [e3] at L
        obtain ⟨t, t0, s, a⟩ := L
        obtain ⟨b1, b2⟩ := S_at_most (ps := ps) (t := t) fun p hp => ⟨(ok p hp).1, a p hp⟩
        refine .inl ⟨e2, ?_, ?_, b2⟩
        · have := S_least 0 ok
          exact Rat.intCast_le_intCast.mp (by grind)
        · rw [b1] at s
          exact Rat.intCast_lt_intCast.mp s
      | some r =>
        rw [e3] at L
        obtain ⟨r1, r2, r3, r4, p, hp, hw, m⟩ := L
        exact good_of ok r2 r3 r4 (.inr (.inl ⟨r1, p, hp, hw, (statL_mov r2).mpr m⟩))
    | false =>
      have e2 := of_decide_eq_false e2
      have lt : SQ (ps.map mir) 0 < ((-room : Int) : Rat) := by
        rw [mir_S 0 fun p hp => (ok p hp).1, Rat.intCast_neg]
        have : (-0 : Rat) = 0 := by grind
        rw [this, ← z]
        have : (room : Rat) < ((sumI ps 0 1 : Int) : Rat) := Rat.intCast_lt_intCast.mpr (by omega)
        grind
      have mok : ∀ p ∈ ps.map mir, POk p := fun p hp => by
        obtain ⟨q, hq, rfl⟩ := List.mem_map.mp hp
        exact mir_ok (ok q hq).1
      have L := least_spec mok lt
      dsimp only
      cases e3 : leastR (ps.map mir) (-room) with
      | none =>
        rw [e3] at L
        obtain ⟨t, t0, s, a⟩ := L
        rw [mir_S t fun p hp => (ok p hp).1, Rat.intCast_neg] at s
        have b := S_at_least (ps := ps) (t := -t) fun p hp => ⟨ok p hp, fun hw => by
          obtain ⟨h, x1, x2⟩ := a (mir p) (List.mem_map.mpr ⟨p, hp, rfl⟩) hw
          refine ⟨h, x1, ?_⟩
          rw [mir_at] at x2
          exact x2⟩
        refine .inr ⟨e2, ?_⟩
        rw [b] at s
        exact Rat.intCast_lt_intCast.mp (by grind)
      | some r =>
        rw [e3] at L
        obtain ⟨r1, r2, r3, r4, p, hp, hw, m⟩ := L
        obtain ⟨q, hq, rfl⟩ := List.mem_map.mp hp
        refine good_of ok r2 ?_ ?_ (.inr (.inr ⟨by dsimp only; omega, q, hq, hw, ?_⟩))
        · dsimp only
          rw [Int.natAbs_neg]
          exact r3
        · rw [rat_neg]
          rw [mir_S _ fun p hp => (ok p hp).1, Rat.intCast_neg] at r4
          grind
        · refine (stat_mov (k := (-r.1, r.2)) r2).mpr ?_
          rw [rat_neg]
          obtain ⟨m1, m2⟩ := m
          rw [mir_at] at m1 m2
          refine ⟨fun l hl => ?_, fun h hh => ?_⟩
          · have := m2 (-l) (by show negO q.lo = _; rw [hl]; rfl)
            rw [Rat.intCast_neg] at this
            grind
          · have := m1 (h * (-1)) (by show mulO q.hi (-1) = _; rw [hh]; rfl)
            rw [Rat.intCast_mul] at this
            have e : (((-1 : Int)) : Rat) = -1 := rfl
            rw [e] at this
            grind

end PL.K57

set_option Elab.async false
set_option linter.all false
set_option autoImplicit false
set_option maxRecDepth 100000
set_option maxHeartbeats 1000000
namespace PL.K57
open PySem PySem.Spec PyProof.Rows L2
local macro_rules | `(tactic| walk_at "y") => `(tactic| conv => whnf)
/-! ### how great the numbers are -/
def Bn (k : Nat) (i : Int) : Prop := i.natAbs < 2 ^ k
theorem Bn.mono {a b : Nat} {i : Int} (h : Bn a i) (l : a ≤ b) : Bn b i := Nat.lt_of_lt_of_le h (Nat.pow_le_pow_right (by decide) l)
theorem Bn.add {a : Nat} {i j : Int} (h1 : Bn a i) (h2 : Bn a j) : Bn (a + 1) (i + j) := by
  unfold Bn at *
  rw [Nat.pow_succ]
  omega
theorem Bn.neg {a : Nat} {i : Int} (h : Bn a i) : Bn a (-i) := by
  unfold Bn at *
  omega
theorem Bn.sub {a : Nat} {i j : Int} (h1 : Bn a i) (h2 : Bn a j) : Bn (a + 1) (i - j) := by
  unfold Bn at *
  rw [Nat.pow_succ]
  omega
theorem Bn.mul {a b : Nat} {i j : Int} (h1 : Bn a i) (h2 : Bn b j) : Bn (a + b) (i * j) := by
  unfold Bn at *
  rw [Int.natAbs_mul, Nat.pow_add]
  exact Nat.mul_lt_mul'' h1 h2
theorem Bn.one {a : Nat} (h : 0 < a) : Bn a 1 := by
  show 1 < 2 ^ a
  exact Nat.one_lt_two_pow (by omega)
theorem Bn.zero {a : Nat} : Bn a 0 := by
  show 0 < 2 ^ a
  exact Nat.two_pow_pos a
theorem Bn.sum1 {a : Nat} : ∀ {l : List Int}, (∀ x ∈ l, Bn a x) → l.sum.natAbs ≤ l.length * 2 ^ a
  | [], _ => by simp
  | x :: l, h => by
    have h1 := Bn.sum1 fun y hy => h y (List.mem_cons_of_mem _ hy)
    have h2 : x.natAbs < 2 ^ a := h x List.mem_cons_self
    rw [List.sum_cons, List.length_cons, Nat.add_mul]
    omega
theorem Bn.sum {a c : Nat} {l : List Int} (h : ∀ x ∈ l, Bn a x) (hl : l.length < 2 ^ c) : Bn (a + c) l.sum := by
  have h1 := Bn.sum1 h
  show l.sum.natAbs < 2 ^ (a + c)
  rw [Nat.pow_add, Nat.mul_comm]
  exact Nat.lt_of_le_of_lt h1 (Nat.mul_lt_mul_of_pos_right hl (Nat.two_pow_pos a))
theorem Bn.lt {a : Nat} {i j : Int} (h : Bn a j) (h0 : 0 ≤ i) (l : i ≤ j) : Bn a i := by
  unfold Bn at *
  omega
/-- a part of numbers of at most 100 bits -/
structure PB (p : Pt) : Prop where
  b : Bn 100 p.b
  w : Bn 100 p.w
  lo : ∀ l, p.lo = some l → Bn 100 l
  hi : ∀ l, p.hi = some l → Bn 100 l
theorem mir_b {p : Pt} (h : PB p) : PB (mir p) := ⟨h.b.neg, h.w, fun l e => by
    cases eh : p.hi with
    | none =>
      replace e : mulO p.hi (-1) = some l := e
      rw [eh] at e; cases e
    | some x =>
      replace e : mulO p.hi (-1) = some l := e
      rw [eh] at e
      cases e
      have := (h.hi x eh).neg
      have e2 : x * (-1) = -x := by omega
      rw [e2]
      exact this, fun l e => by
    cases eh : p.lo with
    | none =>
      replace e : negO p.lo = some l := e
      rw [eh] at e; cases e
    | some x =>
      replace e : negO p.lo = some l := e
      rw [eh] at e
      cases e
      exact (h.lo x eh).neg⟩
theorem cut_b {k : Nat} {x : Int} {lo hi : Option Int} (hx : Bn k x) (hl : ∀ l, lo = some l → Bn k l) (hh : ∀ l, hi = some l → Bn k l) : Bn k (cutI x lo hi) := by
  unfold cutI
  cases lo with
  | none =>
    cases hi with
    | none => exact hx
    | some h => dsimp only; split; exact hh h rfl; exact hx
  | some l =>
    cases hi with
    | none => dsimp only; split; exact hl l rfl; exact hx
    | some h =>
      dsimp only
      have : Bn k (if h < x then h else x) := by
        split
        · exact hh h rfl
        · exact hx
      generalize (if h < x then h else x) = y at this
      split
      · exact hl l rfl
      · exact this
theorem mulO_b {a b : Nat} {o : Option Int} {k : Int} (h : ∀ l, o = some l → Bn a l) (hk : Bn b k) : ∀ l, mulO o k = some l → Bn (a + b) l := fun l e => by
  cases o with
  | none => cases e
  | some x =>
    cases e
    exact (h x rfl).mul hk
theorem top_b {p : Pt} {k : Nat} {top low : Int} (h : PB p) (h1 : Bn k top) (h2 : Bn k low) : Bn (100 + k + 1) (topI p top low) := by
  have m : Bn (100 + k) (p.b * low) := h.b.mul h2
  have n : Bn (100 + k) (p.w * top) := h.w.mul h1
  exact cut_b (m.add n) (fun l e => (mulO_b h.lo h2 l e).mono (by omega)) fun l e => (mulO_b h.hi h2 l e).mono (by omega)
theorem sum_b {ps : List Pt} {k c : Nat} {top low : Int} (h : ∀ p ∈ ps, PB p) (h1 : Bn k top) (h2 : Bn k low) (hl : ps.length < 2 ^ c) : Bn (100 + k + 1 + c) (sumI ps top low) := by
  refine Bn.sum (fun x hx => ?_) (by rw [List.length_map]; exact hl)
  obtain ⟨p, hp, rfl⟩ := List.mem_map.mp hx
  exact top_b (h p hp) h1 h2
theorem gain_b {ps : List Pt} {c : Nat} {top low : Int} (h : ∀ p ∈ ps, PB p) (hl : ps.length < 2 ^ c) : Bn (100 + c) (gainI top low ps) := by
  have e : gainI top low ps = (ps.map fun p => if gStat p top low = true then p.w else 0).sum := by
    clear h hl
    induction ps with
    | nil => rfl
    | cons p ps ih =>
      show (if gStat p top low = true then p.w else 0) + gainI top low ps = _
      rw [ih, List.map_cons, List.sum_cons]
  rw [e]
  refine Bn.sum (fun x hx => ?_) (by rw [List.length_map]; exact hl)
  obtain ⟨p, hp, rfl⟩ := List.mem_map.mp hx
  split
  · exact (h p hp).w
  · exact Bn.zero
theorem knots_b {ps : List Pt} (h : ∀ p ∈ ps, PB p) : ∀ k ∈ knots ps, Bn 101 k.1 ∧ Bn 101 k.2 := fun k hk => by
  obtain ⟨p, hp, x, hx, _, _, rfl⟩ := knot_mem hk
  have hp := h p hp
  refine ⟨Bn.sub ?_ hp.b, hp.w.mono (by omega)⟩
  rcases hx with e | e
  · exact hp.lo x e
  · exact hp.hi x e
theorem lrT_in {ps : List Pt} {room : Int} : ∀ {ks : List (Int × Int)} {t : Int × Int} {P : Int × Int → Prop}, P t → (∀ k ∈ ks, P k) → P (ks.foldl (lrStep ps room) t)
  | [], t, P, h, _ => h
  | k :: ks, t, P, h, hk => by
    refine lrT_in (ks := ks) ?_ fun q hq => hk q (List.mem_cons_of_mem _ hq)
    unfold lrStep
    split
    · exact hk k List.mem_cons_self
    · exact h
theorem lrT_b {ps : List Pt} {room : Int} (h : ∀ p ∈ ps, PB p) : Bn 101 (lrT ps room).1 ∧ Bn 101 (lrT ps room).2 := lrT_in (P := fun t => Bn 101 t.1 ∧ Bn 101 t.2) ⟨Bn.zero, Bn.one (by decide)⟩ (knots_b h)
theorem lrT_pos {ps : List Pt} {room : Int} : 0 ≤ (lrT ps room).1 ∧ 0 < (lrT ps room).2 := lrT_in (P := fun t => 0 ≤ t.1 ∧ 0 < t.2) ⟨Int.le_refl _, by decide⟩ fun k hk => ⟨Int.le_of_lt (knot_pos k hk).1, (knot_pos k hk).2⟩
theorem lowI_b {n d : Int} {a b : Nat} (hd : 0 < d) (hn : Bn a n) (hb : Bn b d) : Bn a (lowI n d).1 ∧ Bn b (lowI n d).2 := by
  obtain ⟨g0, e1, e2⟩ := lowI_mul (n := n) hd
  have l := lowI_low (n := n) hd
  refine ⟨?_, hb.lt (Int.le_of_lt l.1) l.2⟩
  have a1 := congrArg Int.natAbs e1
  rw [Int.natAbs_mul] at a1
  have : (lowI n d).1.natAbs * 1 ≤ (lowI n d).1.natAbs * ((Nat.gcd n.natAbs d.natAbs : Nat) : Int).natAbs := Nat.mul_le_mul_left _ (by omega)
  unfold Bn at *
  omega
theorem least_b {ps : List Pt} {room : Int} (ok : ∀ p ∈ ps, POk p) (h : ∀ p ∈ ps, PB p) (hl : ps.length < 2 ^ 10) (hr : Bn 110 room) : ∀ r, leastR ps room = some r → Bn 250 r.1 ∧ Bn 250 r.2 := fun r e => by
  have hp := lrT_pos (ps := ps) (room := room)
  have hb := lrT_b (room := room) h
  unfold leastR at e
  generalize lrT ps room = t at e hp hb
  cases e2 : decide (gainI t.1 t.2 ps = 0) with
  | true => rw [e2] at e; cases e
  | false =>
    rw [e2] at e
    cases e
    have g := gain_b (top := t.1) (low := t.2) h hl
    have g0 : 0 < gainI t.1 t.2 ps := by
      have a := gain_nonneg ok t.1 t.2
      have b := of_decide_eq_false e2
      omega
    have hd : 0 < t.2 * gainI t.1 t.2 ps := Int.mul_pos hp.2 g0
    have s := sum_b h hb.1 hb.2 hl
    have m1 := hb.1.mul g
    have m2 := hr.mul hb.2
    have m3 := hb.2.mul g
    have x := lowI_b hd ((((m1.mono (b := 211) (by omega)).add (m2.mono (by omega))).mono (b := 212) (by omega)).sub (s.mono (by omega))) m3
    exact ⟨x.1.mono (by omega), x.2.mono (by omega)⟩
theorem ratio_b {ps : List Pt} {room : Int} (ok : ∀ p ∈ ps, POk p) (h : ∀ p ∈ ps, PB p) (hl : ps.length < 2 ^ 10) (hr : Bn 110 room) : ∀ r, ratioI ps room = some r → Bn 250 r.1 ∧ Bn 250 r.2 := fun r e => by
  unfold ratioI at e
  split at e
  · cases e
    exact ⟨Bn.zero, Bn.one (by decide)⟩
  · exact least_b ok h hl hr r e
  · cases e2 : leastR (ps.map mir) (-room) with
    | none => rw [e2] at e; cases e
    | some q =>
      rw [e2] at e
      cases e
      have := least_b (ps := ps.map mir) (fun p hp => by
        obtain ⟨q, hq, rfl⟩ := List.mem_map.mp hp
        exact mir_ok (ok q hq)) (fun p hp => by
        obtain ⟨q, hq, rfl⟩ := List.mem_map.mp hp
        exact mir_b (h q hq)) (by rw [List.length_map]; exact hl) hr.neg q e2
      exact ⟨this.1.neg, this.2⟩
/-! ### whole sizes -/
def wholesI (low : Int) : Int → List Int → List Int
  | _, [] => []
  | ahead, t :: ts => ((ahead + t) / low - ahead / low) :: wholesI low (ahead + t) ts
theorem wholes_sum {low : Int} : ∀ {ts : List Int} {ahead : Int}, (wholesI low ahead ts).sum = (ahead + ts.sum) / low - ahead / low
  | [], ahead => by
    show (0 : Int) = (ahead + 0) / low - ahead / low
    rw [Int.add_zero]
    omega
  | t :: ts, ahead => by
    show ((ahead + t) / low - ahead / low) + (wholesI low (ahead + t) ts).sum = (ahead + (t + ts.sum)) / low - ahead / low
    rw [wholes_sum, Int.add_assoc]
    omega
theorem wholes_room {low room : Int} {ts : List Int} (h : 0 < low) (e : ts.sum = room * low) : (wholesI low 0 ts).sum = room := by
  rw [wholes_sum, e, Int.zero_add, Int.mul_ediv_cancel _ (by omega), Int.zero_ediv]
  omega
theorem wholes_snoc {low : Int} {t : Int} : ∀ {ts : List Int} {ahead : Int}, wholesI low ahead (ts ++ [t]) = wholesI low ahead ts ++ [(ahead + ts.sum + t) / low - (ahead + ts.sum) / low]
  | [], ahead => by
    show [(ahead + t) / low - ahead / low] = [(ahead + 0 + t) / low - (ahead + 0) / low]
    rw [Int.add_zero]
  | s :: ts, ahead => by
    show ((ahead + s) / low - ahead / low) :: wholesI low (ahead + s) (ts ++ [t]) = ((ahead + s) / low - ahead / low) :: wholesI low (ahead + s) ts ++ [(ahead + (s + ts.sum) + t) / low - (ahead + (s + ts.sum)) / low]
    rw [wholes_snoc, List.cons_append, Int.add_assoc ahead s ts.sum]
/-! ### Euclid -/
structure Eu (i a b : Nat) : Prop where
  g : Nat.gcd a b = 1
  m : (i = 0 ∧ b < 2 ^ 250) ∨ (b < a ∧ a * b * 2 ^ i < 2 ^ 600)
theorem Eu.zero {a b : Nat} (g : Nat.gcd a b = 1) (h : b < 2 ^ 250) : Eu 0 a b := ⟨g, .inl ⟨rfl, h⟩⟩
theorem Eu.step {i a b : Nat} (h : Eu i a b) (hb : 0 < b) : Eu (i + 1) b (a % b) := by
  have lt : a % b < b := Nat.mod_lt _ hb
  refine ⟨by rw [Nat.gcd_comm, ← Nat.gcd_rec, Nat.gcd_comm]; exact h.g, .inr ⟨lt, ?_⟩⟩
  rcases h.m with ⟨rfl, h1⟩ | ⟨h1, h2⟩
  · have a1 : b * (a % b) < 2 ^ 250 * 2 ^ 250 := Nat.mul_lt_mul'' h1 (by omega)
    have a2 : b * (a % b) * 2 ^ (0 + 1) < 2 ^ 250 * 2 ^ 250 * 2 ^ (0 + 1) := Nat.mul_lt_mul_of_pos_right a1 (by decide)
    refine Nat.lt_trans a2 ?_
    rw [← Nat.pow_add, ← Nat.pow_add]
    exact Nat.pow_lt_pow_right (by decide) (by decide)
  · have a1 : a % b ≤ a - b := by
      rw [Nat.mod_eq_sub_mod (by omega)]
      exact Nat.mod_le _ _
    have a2 : (a % b) * 2 ≤ a := by omega
    have a3 : b * (a % b) * 2 ^ (i + 1) ≤ a * b * 2 ^ i := by
      rw [Nat.pow_succ]
      have : b * (a % b) * (2 ^ i * 2) = (b * ((a % b) * 2)) * 2 ^ i := by
        rw [Nat.mul_comm (2 ^ i) 2, ← Nat.mul_assoc, Nat.mul_assoc b]
      rw [this, Nat.mul_comm a b]
      exact Nat.mul_le_mul_right _ (Nat.mul_le_mul_left _ a2)
    omega
theorem Eu.end_ {a b : Nat} (h : Eu 1000 a b) : a = 1 ∧ b = 0 := by
  have hb : b = 0 := by
    rcases h.m with ⟨z, _⟩ | ⟨h1, h2⟩
    · cases z
    · refine Nat.eq_zero_of_not_pos fun z => ?_
      have : 1 * 2 ^ 1000 ≤ a * b * 2 ^ 1000 := Nat.mul_le_mul_right _ (Nat.mul_pos (by omega) z)
      have l : (2 : Nat) ^ 600 < 2 ^ 1000 := Nat.pow_lt_pow_right (by decide) (by decide)
      rw [Nat.one_mul] at this
      exact Nat.lt_irrefl _ (Nat.lt_of_le_of_lt this (Nat.lt_trans h2 l))
  refine ⟨?_, hb⟩
  have := h.g
  rw [hb, Nat.gcd_zero_right] at this
  exact this
theorem Eu.stop {i a : Nat} (h : Eu i a 0) : a = 1 := by
  have := h.g
  rw [Nat.gcd_zero_right] at this
  exact this

end PL.K57

set_option Elab.async false
set_option linter.all false
set_option autoImplicit false
set_option maxRecDepth 100000
set_option maxHeartbeats 1000000
namespace PL.K57
open PySem PySem.Spec PyProof.Rows L2
local macro_rules | `(tactic| walk_at "y") => `(tactic| conv => whnf)
/-! ### data -/
def regB : D → Bool
  | .vl _ => false
  | .pool => false
  | .err _ _ => false
  | _ => true
def isWholeB : D → Bool
  | .int _ => true
  | _ => false
def regT : D → Bool
  | .tup xs => xs.all regB
  | d => regB d
def isPartB : D → Bool
  | .tup [.int _, .int w, .int _, .non] => decide (0 ≤ w)
  | .tup [.int _, .int w, .int l, .int h] => decide (0 ≤ w) && decide (l ≤ h)
  | _ => false
def optD : Option Int → D
  | some i => .int i
  | none => .non
def ptD (p : Pt) : D := .tup [.int p.b, .int p.w, optD p.lo, optD p.hi]
def ptsD (ps : List Pt) : D := .lst (ps.map ptD)
def intsD (ns : List Int) : D := .lst (ns.map D.int)
def pairD (r : Int × Int) : D := .tup [.int r.1, .int r.2]
def ratD : Option (Int × Int) → D
  | some r => pairD r
  | none => .non
theorem gtup4 {i j k l : Nat} {d1 d2 d3 d4 : D} {ε : PEnv} {Q : PEnv → Prop} (h : Q ((((ε.set i (some (.v d1))).set j (some (.v d2))).set k (some (.v d3))).set l (some (.v d4)))) : gTupY 4 [gN i, gN j, gN k, gN l] (.tup [d1, d2, d3, d4]) ε Q := h
/-- a for over a list told of things -/
theorem for_list {α : Type} {S : List α} {m : α → D} {g : PTG} {rb : PTS} {Δ : PEnds} {ε1 : PEnv} (W : Nat → PEnv → Prop) (h0 : W 0 ε1)
    (st : ∀ i (hi : i < S.length) ε, W i ε → g (m S[i]) ε fun ε2 => rb { Δ with nx := W (i + 1), ct := W (i + 1), bk := Δ.nx } ε2) (he : ∀ ε, W S.length ε → Δ.nx ε) : ∃ Wp : Nat → PEnv → Prop, Wp 0 ε1 ∧
    (∀ i d ε, i < (S.map m).length → (S.map m)[i]? = some d → Wp i ε → g d ε fun ε2 => rb { Δ with nx := Wp (i + 1), ct := Wp (i + 1), bk := Δ.nx } ε2) ∧ ∀ ε, Wp (S.map m).length ε → Δ.nx ε := by
  refine ⟨W, h0, fun i d ε hi hd w => ?_, fun ε w => ?_⟩
  · rw [List.length_map] at hi
    obtain rfl : d = m S[i] := by
      rw [List.getElem?_map, List.getElem?_eq_getElem hi] at hd
      exact (Option.some.inj hd).symm
    exact st i hi ε w
  · rw [List.length_map] at w
    exact he ε w
/-- [f(x) for x in xs], told of things -/
theorem lc_list {α : Type} {S : List α} {m f : α → D} {g : PTG} {rt : PTT} {re : PTE} {vs : List Nat} {ε1 : PEnv} {Q : List D → PEnv → Prop}
    (st : ∀ x ∈ S, ∀ (K : D → Prop) (N : Prop), K (f x) → g (m x) (wipeE ε1 vs) fun ε2 => rt ε2 fun k ε3 => match k with
      | true => re ε3 fun t ε4 => out ε4 t fun y ε5 => wipeE ε5 vs = wipeE ε1 vs ∧ K y
      | false => wipeE ε3 vs = wipeE ε1 vs ∧ N) (fin : Q (S.map f) ε1) : ∃ Wp : Nat → List D → Prop, Wp 0 [] ∧
  (∀ i d acc, i < (S.map m).length → (S.map m)[i]? = some d → acc.length ≤ i → Wp i acc → g d (wipeE ε1 vs) fun ε2 => rt ε2 fun k ε3 => match k with
    | true => re ε3 fun t ε4 => out ε4 t fun y ε5 => wipeE ε5 vs = wipeE ε1 vs ∧ Wp (i + 1) (acc ++ [y])
    | false => wipeE ε3 vs = wipeE ε1 vs ∧ Wp (i + 1) acc) ∧ ∀ acc, acc.length ≤ (S.map m).length → Wp (S.map m).length acc → Q acc ε1 := by
  refine ⟨fun i acc => acc = (S.take i).map f, rfl, fun i d acc hi hd hl w => ?_, fun acc hl w => ?_⟩
  · rw [List.length_map] at hi
    rw [List.getElem?_map, List.getElem?_eq_getElem hi] at hd
    obtain rfl : m S[i] = d := Option.some.inj hd
    refine st S[i] (List.getElem_mem hi) (fun y => acc ++ [y] = (S.take (i + 1)).map f) (acc = (S.take (i + 1)).map f) ?_
    subst w
    rw [List.take_succ_eq_append_getElem hi, List.map_append, List.map_cons, List.map_nil]
  · subst w
    rw [List.length_map, List.take_length]
    exact fin
def φ_is_whole : Spec
  | [d], Q, _ => regB d = true ∧ Q (.bl (isWholeB d))
  | _, _, _ => False
abbrev N_is_whole : List Str := ["value"]
def r_is_whole (Ξ : Xi) : PTS :=
  (ysRet (yAndV (yIs .int (yVar 0)) (yNotB (yIs .bool (yVar 0)))))
theorem vc_is_whole (ds : List D) (Q' : D → Prop) (E' : Nat → Prop) (h : φ_is_whole ds Q' E') : r_is_whole (fun c _ => E' c) { nx := fun _ => Q' .non, rt := fun d _ => Q' d } (startE N_is_whole ds) := by
  unfold φ_is_whole at h
  split at h
  · rename_i d
    obtain ⟨h1, h2⟩ := h
    cases d <;> first | (cases h1; done) | exact h2
  · exact h.elim
def φ_is_part : Spec
  | [d], Q, _ => regT d = true ∧ Q (.bl (isPartB d))
  | _, _, _ => False
theorem part_len {xs : List D} (h : ¬ (xs.length : Int) = 4) : isPartB (.tup xs) = false := by
  unfold isPartB
  split
  · rename_i e
    cases e
    exact (h rfl).elim
  · rename_i e
    cases e
    exact (h rfl).elim
  · rfl
theorem part_yes {d : D} (h : isPartB d = true) : ∃ p : Pt, d = ptD p ∧ POk p ∧ ∃ l, p.lo = some l := by
  unfold isPartB at h
  split at h
  · rename_i b w l
    exact ⟨⟨b, w, some l, none⟩, rfl, ⟨of_decide_eq_true h, fun _ _ _ z => by cases z⟩, l, rfl⟩
  · rename_i b w l h'
    obtain ⟨h1, h2⟩ := Bool.and_eq_true_iff.mp h
    exact ⟨⟨b, w, some l, some h'⟩, rfl, ⟨of_decide_eq_true h1, fun _ _ z y => by cases z; cases y; exact of_decide_eq_true h2⟩, l, rfl⟩
  · cases h
theorem part_of {p : Pt} (h : POk p) (l : ∃ l, p.lo = some l) : isPartB (ptD p) = true := by
  obtain ⟨l, e⟩ := l
  obtain ⟨b, w, lo, hi⟩ := p
  cases e
  cases hi with
  | none => exact decide_eq_true h.w0
  | some x => exact Bool.and_eq_true_iff.mpr ⟨decide_eq_true h.w0, decide_eq_true (h.le l x rfl rfl)⟩
theorem part_w {a b c e : D} (h : isWholeB a = false ∨ isWholeB b = false ∨ isWholeB c = false) : isPartB (.tup [a, b, c, e]) = false := by
  unfold isPartB
  split
  · rename_i z
    cases z
    rcases h with h | h | h <;> cases h
  · rename_i z
    cases z
    rcases h with h | h | h <;> cases h
  · rfl
theorem part_n {w : Int} {a c e : D} (h : w < 0) : isPartB (.tup [a, .int w, c, e]) = false := by
  unfold isPartB
  split
  · rename_i z
    cases z
    exact decide_eq_false (by omega)
  · rename_i z
    cases z
    rw [decide_eq_false (by omega)]
    rfl
  · rfl
theorem part_4 {a b c : Int} {e : D} (h : isNon e = false) (h2 : isWholeB e = false) : isPartB (.tup [.int a, .int b, .int c, e]) = false := by
  unfold isPartB
  split
  · rename_i z
    cases z
    cases h
  · rename_i z
    cases z
    cases h2
  · rfl
theorem whole_of {d : D} (h : isWholeB d = true) : ∃ i, d = .int i := by
  cases d with
  | int i => exact ⟨i, rfl⟩
  | _ => cases h
abbrev N_is_part : List Str := ["value", "base", "weight", "lo", "hi"]
def r_is_part (Ξ : Xi) : PTS :=
  (ysSeq (ysIf (yOr (yNot (yTru (yIs .tuple (yVar 0)))) (yBinT (oEq true) (yCB oLen (ylCons (yVar 0) ylNil)) (yC (.int 4))))
  (ysRet (yC (.bl false)))
  ysNext)
  (ysSeq (ysAsgG (yVar 0) (gTupY 4 [(gN 1), (gN 2), (gN 3), (gN 4)]))
  (ysSeq (ysIf (yOr (yNot (yTru (yCall φ_is_whole Ξ (ylCons (yVar 1) ylNil)))) (yOr (yNot (yTru (yCall φ_is_whole Ξ (ylCons (yVar 2) ylNil)))) (yOr (yNot (yTru (yCall φ_is_whole Ξ (ylCons (yVar 3) ylNil)))) (yBinT oLt (yVar 2) (yC (.int 0))))))
  (ysRet (yC (.bl false)))
  ysNext)
  (ysRet (yOrV (yBin (oIsN false) (yVar 4) (yC .non)) (yAndV (yCall φ_is_whole Ξ (ylCons (yVar 4) ylNil)) (yBin oLeA (yVar 3) (yVar 4))))))))
theorem vc_is_part (ds : List D) (Q' : D → Prop) (E' : Nat → Prop) (h : φ_is_part ds Q' E') : r_is_part (fun c _ => E' c) { nx := fun _ => Q' .non, rt := fun d _ => Q' d } (startE N_is_part ds) := by
  unfold φ_is_part at h
  split at h
  · rename_i d
    obtain ⟨h1, h2⟩ := h
    cases d with
    | vl _ => cases h1
    | pool => cases h1
    | err _ _ => cases h1
    | tup xs =>
      walk_at "y"
      show (match !decide ((xs.length : Int) = 4) with
        | true => _
        | false => _)
      cases e : decide ((xs.length : Int) = 4) with
      | false =>
        rw [part_len (of_decide_eq_false e)] at h2
        exact h2
      | true =>
        have e := of_decide_eq_true e
        rcases xs with _ | ⟨a, _ | ⟨b, _ | ⟨c, _ | ⟨g, _ | ⟨f, xs⟩⟩⟩⟩⟩
        · cases e
        · cases e
        · cases e
        · cases e
        · obtain ⟨r1, r2⟩ := Bool.and_eq_true_iff.mp (show (regB a && [b, c, g].all regB) = true from h1)
          obtain ⟨r2, r3⟩ := Bool.and_eq_true_iff.mp (show (regB b && [c, g].all regB) = true from r2)
          obtain ⟨r3, r4⟩ := Bool.and_eq_true_iff.mp (show (regB c && [g].all regB) = true from r3)
          obtain ⟨r4, _⟩ := Bool.and_eq_true_iff.mp (show (regB g && [].all regB) = true from r4)
          refine ⟨r1, ?_⟩
          cases w1 : isWholeB a with
          | false => rw [part_w (.inl w1)] at h2; exact h2
          | true =>
          refine ⟨r2, ?_⟩
          cases w2 : isWholeB b with
          | false => rw [part_w (.inr (.inl w2))] at h2; exact h2
          | true =>
          refine ⟨r3, ?_⟩
          cases w3 : isWholeB c with
          | false => rw [part_w (.inr (.inr w3))] at h2; exact h2
          | true =>
          obtain ⟨a, rfl⟩ := whole_of w1
          obtain ⟨b, rfl⟩ := whole_of w2
          obtain ⟨c, rfl⟩ := whole_of w3
          walk_at "y"
          show (match decide (b < 0) with
            | true => _
            | false => _)
          cases e2 : decide (b < 0) with
          | true => rw [part_n (of_decide_eq_true e2)] at h2; exact h2
          | false =>
            have e2 := of_decide_eq_false e2
            have e3 : decide (0 ≤ b) = true := decide_eq_true (by omega)
            cases g with
            | non =>
              replace h2 : Q' (.bl (decide (0 ≤ b))) := h2
              rw [e3] at h2
              exact h2
            | int h =>
              replace h2 : Q' (.bl (decide (0 ≤ b) && decide (c ≤ h))) := h2
              rw [e3] at h2
              exact ⟨rfl, h2⟩
            | vl _ => cases r4
            | pool => cases r4
            | err _ _ => cases r4
            | _ => exact ⟨rfl, h2⟩
        · simp only [List.length_cons] at e
          omega
    | _ => exact h2
  · exact h.elim
def φ_cut : Spec := fun ds Q _ => ∃ x lo hi, ds = [.int x, optD lo, optD hi] ∧ Q (.int (cutI x lo hi))
def minI (x : Int) : Option Int → Int
  | some h => if h < x then h else x
  | none => x
def maxI (x : Int) : Option Int → Int
  | some l => if x < l then l else x
  | none => x
theorem cut_two (x : Int) (lo hi : Option Int) : cutI x lo hi = maxI (minI x hi) lo := by
  cases lo <;> cases hi <;> rfl
abbrev N_cut : List Str := ["number", "lo", "hi"]
def r_cut (Ξ : Xi) : PTS :=
  (ysSeq (ysIf (yAnd (yBinT (oIsN true) (yVar 2) (yC .non)) (yBinT oGt (yVar 0) (yVar 2)))
  (ysAsg (yVar 2) 0)
  ysNext)
  (ysSeq (ysIf (yAnd (yBinT (oIsN true) (yVar 1) (yC .non)) (yBinT oLt (yVar 0) (yVar 1)))
  (ysAsg (yVar 1) 0)
  ysNext)
  (ysRet (yVar 0))))
theorem vc_cut (ds : List D) (Q' : D → Prop) (E' : Nat → Prop) (h : φ_cut ds Q' E') : r_cut (fun c _ => E' c) { nx := fun _ => Q' .non, rt := fun d _ => Q' d } (startE N_cut ds) := by
  obtain ⟨x, lo, hi, rfl, h⟩ := h
  let e (y : Int) : PEnv := [some (.v (.int y)), some (.v (optD lo)), some (.v (optD hi))]
  rw [cut_two] at h
  refine seq_step (e (minI x hi)) (fun K k => ?_) ?_
  · cases hi with
    | none => exact k
    | some b =>
      replace k : K (e (if b < x then b else x)) := k
      walk_at "y"
      show (match decide (b < x) with
        | true => _
        | false => _)
      cases z : decide (b < x) with
      | true => rw [if_pos (of_decide_eq_true z)] at k; exact k
      | false => rw [if_neg (of_decide_eq_false z)] at k; exact k
  generalize minI x hi = y at h
  refine seq_step (e (maxI y lo)) (fun K k => ?_) h
  cases lo with
  | none => exact k
  | some b =>
    replace k : K (e (if y < b then b else y)) := k
    walk_at "y"
    show (match decide (y < b) with
      | true => _
      | false => _)
    cases z : decide (y < b) with
    | true => rw [if_pos (of_decide_eq_true z)] at k; exact k
    | false => rw [if_neg (of_decide_eq_false z)] at k; exact k
theorem wide_of {a b : Nat} {i j : Int} (h1 : Bn a i) (h2 : Bn b j) (ha : 0 < a := by decide) (hb : 0 < b := by decide) (h : a + b ≤ 1000000 := by decide) : CMulW i j := wide_mul h1 h2 ha hb h
def φ_times : Spec := fun ds Q _ => ∃ o k, ds = [optD o, .int k] ∧ (∀ i, o = some i → CMulW i k) ∧ Q (optD (mulO o k))
abbrev N_times : List Str := ["number", "many"]
def r_times (Ξ : Xi) : PTS :=
  (ysRet (yIf (yBinT (oIsN false) (yVar 0) (yC .non)) (yC .non) (yBin oMulW (yVar 0) (yVar 1))))
theorem vc_times (ds : List D) (Q' : D → Prop) (E' : Nat → Prop) (h : φ_times ds Q' E') : r_times (fun c _ => E' c) { nx := fun _ => Q' .non, rt := fun d _ => Q' d } (startE N_times ds) := by
  obtain ⟨o, k, rfl, hw, h⟩ := h
  cases o with
  | none => exact h
  | some i => exact ⟨hw i rfl, h⟩
/-- the law's cut -/
def lcI (x l : Int) : Option Int → Int
  | some h => if h < x then h else if l > x then l else x
  | none => if l > x then l else x
theorem lc_cut {x l : Int} {hi : Option Int} (hl : ∀ h, hi = some h → l ≤ h) : lcI x l hi = cutI x (some l) hi := by
  cases hi with
  | none => rfl
  | some b =>
    have hb := hl b rfl
    show (if b < x then b else if l > x then l else x) = (if (if b < x then b else x) < l then l else (if b < x then b else x))
    by_cases z : b < x
    · rw [if_pos z, if_pos z, if_neg (by omega)]
    · rw [if_neg z, if_neg z]
def φ_law_cut : Spec := fun ds Q _ => ∃ x l hi, ds = [.int x, .int l, optD hi] ∧ ∃ y, lcI x l hi = y ∧ Q (.int y)
abbrev N_law_cut : List Str := ["number", "lo", "hi"]
def r_law_cut (Ξ : Xi) : PTS :=
  (ysSeq (ysIf (yAnd (yBinT (oIsN true) (yVar 2) (yC .non)) (yBinT oGt (yVar 0) (yVar 2)))
  (ysRet (yVar 2))
  ysNext)
  (ysRet (yCB oMax2 (ylCons (yVar 0) (ylCons (yVar 1) ylNil)))))
theorem vc_law_cut (ds : List D) (Q' : D → Prop) (E' : Nat → Prop) (h : φ_law_cut ds Q' E') : r_law_cut (fun c _ => E' c) { nx := fun _ => Q' .non, rt := fun d _ => Q' d } (startE N_law_cut ds) := by
  obtain ⟨x, l, hi, rfl, _, rfl, h⟩ := h
  cases hi with
  | none => exact h
  | some b =>
    replace h : Q' (.int (if b < x then b else if l > x then l else x)) := h
    walk_at "y"
    show (match decide (b < x) with
      | true => _
      | false => _)
    cases z : decide (b < x) with
    | true =>
      rw [if_pos (of_decide_eq_true z)] at h
      exact h
    | false =>
      rw [if_neg (of_decide_eq_false z)] at h
      exact h

end PL.K57

set_option Elab.async false
set_option linter.all false
set_option autoImplicit false
set_option maxRecDepth 100000
set_option maxHeartbeats 1000000
namespace PL.K57
open PySem PySem.Spec PyProof.Rows L2
local macro_rules | `(tactic| walk_at "y") => `(tactic| conv => whnf)
theorem take_map {α β : Type} {f : α → β} {l : List α} {i : Nat} (h : i < l.length) : (l.take (i + 1)).map f = (l.take i).map f ++ [f l[i]] := by
  rw [List.take_succ_eq_append_getElem h, List.map_append]
  rfl
theorem take_len {α β : Type} {f : α → β} {l : List α} {i n : Nat} (h : l.length ≤ n) (hn : n < 16777216 := by decide) : ((l.take i).map f).length < 16777216 := by
  rw [List.length_map, List.length_take]
  omega
def topsD (ps : List Pt) (top low : Int) : List D := ps.map fun p => .int (topI p top low)
theorem tops_ints (ps : List Pt) (top low : Int) : topsD ps top low = (ps.map fun p => topI p top low).map D.int := by
  rw [List.map_map]
  rfl
def φ_tops_at : Spec := fun ds Q _ => ∃ ps top low, ds = [ptsD ps, .int top, .int low] ∧ (∀ p ∈ ps, PB p) ∧ Bn 250 top ∧ Bn 250 low ∧ ps.length ≤ 1000 ∧ Q (.lst (topsD ps top low))
abbrev N_tops_at : List Str := ["parts", "top", "low", "found", "base", "weight", "lo", "hi"]
def r_tops_at (Ξ : Xi) : PTS :=
  (ysSeq (ysAsgO (ynLst ylNil) 3)
  (ysSeq (ysFor (yiSeq (yVar 0)) (gTupY 4 [(gN 4), (gN 5), (gN 6), (gN 7)])
  (ysApp 3 (yCall φ_cut Ξ (ylCons (yBin oAdd (yBin oMulW (yVar 4) (yVar 2)) (yBin oMulW (yVar 5) (yVar 1))) (ylCons (yCall φ_times Ξ (ylCons (yVar 6) (ylCons (yVar 2) ylNil))) (ylCons (yCall φ_times Ξ (ylCons (yVar 7) (ylCons (yVar 2) ylNil))) ylNil))))))
  (ysRet (yVar 3))))
theorem vc_tops_at (ds : List D) (Q' : D → Prop) (E' : Nat → Prop) (h : φ_tops_at ds Q' E') : r_tops_at (fun c _ => E' c) { nx := fun _ => Q' .non, rt := fun d _ => Q' d } (startE N_tops_at ds) := by
  obtain ⟨ps, top, low, rfl, hb, ht, hl, hn, h⟩ := h
  let e (acc : List D) (a b c d : Option S) : PEnv := [some (.v (ptsD ps)), some (.v (.int top)), some (.v (.int low)), some (.o acc), a, b, c, d]
  refine seq_step (e [] none none none none) (fun K k => k) ?_
  refine seq_post (fun ε => ∃ a b c d, ε = e (topsD ps top low) a b c d) (fun K kk => for_list (S := ps) (m := ptD) (fun i ε => ∃ a b c d, ε = e (topsD (ps.take i) top low) a b c d) ⟨none, none, none, none, rfl⟩ (fun i hi ε w => ?_) fun ε w => ?_) ?_
  · obtain ⟨a, b, c, d, rfl⟩ := w
    have hp := hb ps[i] (List.getElem_mem hi)
    have h1 : topsD (ps.take (i + 1)) top low = topsD (ps.take i) top low ++ [.int (topI ps[i] top low)] := take_map hi
    have h2 : (topsD (ps.take i) top low).length < 16777216 := take_len hn
    rw [h1]
    generalize topsD (ps.take i) top low = acc at h2
    generalize ps[i] = p at hp
    refine gtup4 ?_
    refine ⟨wide_of hp.b hl, wide_of hp.w ht, p.lo, low, rfl, fun l z => wide_of (hp.lo l z) hl, p.hi, low, rfl, fun l z => wide_of (hp.hi l z) hl, _, mulO p.lo low, mulO p.hi low, rfl, ?_⟩
    refine gd_of h2 ?_
    exact ⟨_, _, _, _, rfl⟩
  · rw [List.take_length] at w
    exact kk ε w
  rintro _ ⟨a, b, c, d, rfl⟩
  exact h
def knotsD (ps : List Pt) : List D := (knots ps).map pairD
theorem knots_snoc : ∀ {ps : List Pt} {p : Pt}, knots (ps ++ [p]) = knots ps ++ (knotOf p p.lo ++ knotOf p p.hi)
  | [], p => by
    show knotOf p p.lo ++ knotOf p p.hi ++ [] = [] ++ _
    rw [List.append_nil]; rfl
  | q :: ps, p => by
    show knotOf q q.lo ++ knotOf q q.hi ++ knots (ps ++ [p]) = knotOf q q.lo ++ knotOf q q.hi ++ knots ps ++ _
    rw [knots_snoc, List.append_assoc (knotOf q q.lo ++ knotOf q q.hi)]
theorem knotOf_len (p : Pt) (o : Option Int) : (knotOf p o).length ≤ 1 := by
  cases o with
  | none => exact Nat.zero_le _
  | some x =>
    unfold knotOf
    dsimp only
    split
    · exact Nat.le_refl _
    · exact Nat.zero_le _
theorem knots_len : ∀ ps : List Pt, (knots ps).length ≤ 2 * ps.length
  | [] => Nat.le_refl _
  | p :: ps => by
    have := knots_len ps
    have a := knotOf_len p p.lo
    have b := knotOf_len p p.hi
    show (knotOf p p.lo ++ knotOf p p.hi ++ knots ps).length ≤ 2 * (ps.length + 1)
    rw [List.length_append, List.length_append]
    omega
def φ_knots_of : Spec := fun ds Q _ => ∃ ps, ds = [ptsD ps] ∧ ps.length ≤ 1000 ∧ Q (.lst (knotsD ps))
abbrev N_knots_of : List Str := ["parts", "found", "base", "weight", "lo", "hi", "bound"]
def r_knots_of (Ξ : Xi) : PTS :=
  (ysSeq (ysAsgO (ynLst ylNil) 1)
  (ysSeq (ysFor (yiSeq (yVar 0)) (gTupY 4 [(gN 2), (gN 3), (gN 4), (gN 5)])
  (ysFor (yiSeq (yTup (ylCons (yVar 4) (ylCons (yVar 5) ylNil)))) (gN 6)
  (ysIf (yAnd (yBinT oGt (yVar 3) (yC (.int 0))) (yAnd (yBinT (oIsN true) (yVar 6) (yC .non)) (yBinT oGt (yVar 6) (yVar 2))))
  (ysApp 1 (yTup (ylCons (yBin oSub (yVar 6) (yVar 2)) (ylCons (yVar 3) ylNil))))
  ysNext)))
  (ysRet (yVar 1))))
theorem vc_knots_of (ds : List D) (Q' : D → Prop) (E' : Nat → Prop) (h : φ_knots_of ds Q' E') : r_knots_of (fun c _ => E' c) { nx := fun _ => Q' .non, rt := fun d _ => Q' d } (startE N_knots_of ds) := by
  obtain ⟨ps, rfl, hn, h⟩ := h
  let e (acc : List D) (a b c d f : Option S) : PEnv := [some (.v (ptsD ps)), some (.o acc), a, b, c, d, f]
  refine seq_step (e [] none none none none none) (fun K k => k) ?_
  refine seq_post (fun ε => ∃ a b c d f, ε = e (knotsD ps) a b c d f) (fun K kk => for_list (S := ps) (m := ptD) (fun i ε => ∃ a b c d f, ε = e (knotsD (ps.take i)) a b c d f) ⟨none, none, none, none, none, rfl⟩ (fun i hi ε w => ?_) fun ε w => ?_) ?_
  · obtain ⟨a, b, c, d, f, rfl⟩ := w
    have h1 : knotsD (ps.take (i + 1)) = knotsD (ps.take i) ++ (knotOf ps[i] ps[i].lo ++ knotOf ps[i] ps[i].hi).map pairD := by
      unfold knotsD
      rw [List.take_succ_eq_append_getElem hi, knots_snoc, List.map_append]
    have h2 : (knotsD (ps.take i)).length < 16777215 := by
      have := knots_len (ps.take i)
      unfold knotsD
      rw [List.length_map]
      rw [List.length_take] at this
      omega
    rw [h1]
    generalize knotsD (ps.take i) = acc at h2
    generalize ps[i] = p
    refine gtup4 ?_
    have one : ∀ (o : Option Int) (acc : List D) (f : Option S) (K : PEnv → Prop) (K2 : PEnv → Prop), acc.length < 16777216 → (∀ f2, K (e (acc ++ (knotOf p o).map pairD) (some (.v (.int p.b))) (some (.v (.int p.w))) (some (.v (optD p.lo))) (some (.v (optD p.hi))) f2)) → gN 6 (optD o) (e acc (some (.v (.int p.b))) (some (.v (.int p.w))) (some (.v (optD p.lo))) (some (.v (optD p.hi))) f) fun ε2 => (ysIf (yAnd (yBinT oGt (yVar 3) (yC (.int 0))) (yAnd (yBinT (oIsN true) (yVar 6) (yC .non)) (yBinT oGt (yVar 6) (yVar 2))))
          (ysApp 1 (yTup (ylCons (yBin oSub (yVar 6) (yVar 2)) (ylCons (yVar 3) ylNil)))) ysNext) { nx := K, ct := K, bk := K2, rt := fun d _ => Q' d } ε2 := fun o acc f K K2 hacc k => by
      walk_at "y"
      show (match decide (0 < p.w) with
        | true => _
        | false => _)
      cases e1 : decide (0 < p.w) with
      | false =>
        have : knotOf p o = [] := by
          cases o with
          | none => rfl
          | some x => exact if_neg fun z => of_decide_eq_false e1 z.1
        rw [this, List.map_nil, List.append_nil] at k
        exact k _
      | true =>
        cases o with
        | none =>
          rw [show knotOf p none = [] from rfl, List.map_nil, List.append_nil] at k
          exact k _
        | some x =>
          walk_at "y"
          show (match decide (p.b < x) with
            | true => _
            | false => _)
          cases e2 : decide (p.b < x) with
          | false =>
            have : knotOf p (some x) = [] := if_neg fun z => of_decide_eq_false e2 z.2
            rw [this, List.map_nil, List.append_nil] at k
            exact k _
          | true =>
            have : knotOf p (some x) = [(x - p.b, p.w)] := if_pos ⟨of_decide_eq_true e1, of_decide_eq_true e2⟩
            rw [this] at k
            refine gd_of hacc ?_
            exact k _
    have l1 := knotOf_len p p.lo
    refine for_list (S := [p.lo, p.hi]) (m := optD) (fun j ε => ∃ f, ε = e (acc ++ (match j with
      | 0 => []
      | 1 => (knotOf p p.lo).map pairD
      | _ => (knotOf p p.lo ++ knotOf p p.hi).map pairD)) (some (.v (.int p.b))) (some (.v (.int p.w))) (some (.v (optD p.lo))) (some (.v (optD p.hi))) f) ⟨f, (congrArg (fun a => e a (some (.v (.int p.b))) (some (.v (.int p.w))) (some (.v (optD p.lo))) (some (.v (optD p.hi))) f) (List.append_nil acc)).symm⟩ (fun j hj ε w => ?_) fun ε w => ?_
    · obtain ⟨f, rfl⟩ := w
      rcases j with _ | _ | j
      · refine one p.lo (acc ++ []) f _ _ (by rw [List.append_nil]; omega) fun f2 => ⟨f2, ?_⟩
        rw [List.append_nil]
        rfl
      · refine one p.hi (acc ++ (knotOf p p.lo).map pairD) f _ _ (by rw [List.length_append, List.length_map]; omega) fun f2 => ⟨f2, ?_⟩
        rw [List.append_assoc, ← List.map_append]
        rfl
      · have : j + 1 + 1 < 2 := hj
        omega
    · obtain ⟨f, rfl⟩ := w
      exact ⟨_, _, _, _, _, rfl⟩
  · rw [List.take_length] at w
    exact kk ε w
  rintro _ ⟨a, b, c, d, f, rfl⟩
  exact h

/-- what a test is -/
def EvT (r : PTT) (ε : PEnv) (b : Bool) : Prop := ∀ Q : Bool → PEnv → Prop, Q b ε → r ε Q
theorem EvT.and {r1 r2 : PTT} {ε : PEnv} {a b : Bool} (h1 : EvT r1 ε a) (h2 : EvT r2 ε b) : EvT (yAnd r1 r2) ε (a && b) := fun Q q => h1 _ (by
  cases a with
  | true => exact h2 _ q
  | false => exact q)
theorem EvT.or {r1 r2 : PTT} {ε : PEnv} {a b : Bool} (h1 : EvT r1 ε a) (h2 : EvT r2 ε b) : EvT (yOr r1 r2) ε (a || b) := fun Q q => h1 _ (by
  cases a with
  | true => exact q
  | false => exact h2 _ q)
theorem if_evT {rt : PTT} {ε : PEnv} {b : Bool} {A B : PTS} {Δ : PEnds} (h : EvT rt ε b) (k : match (generalizing := false) b with
    | true => A Δ ε
    | false => B Δ ε) : ysIf rt A B Δ ε := h _ k
theorem EvT.int {r1 r2 : PTE} {ε : PEnv} {x y : Int} {f : Int → Int → Bool} (h1 : Ev r1 ε (.int x)) (h2 : Ev r2 ε (.int y)) : EvT (yBinT (oCmpI f) r1 r2) ε (f x y) := fun Q q => by
  have e : oCmpI f (.int x) (.int y) (asB fun b => Q b ε) := q
  exact h1 _ (h2 _ e)
theorem EvT.orX {ra rb : PTT} {ε : PEnv} {a b : Bool} (h : EvT ra ε a) (h0 : a = true → b = true) (h1 : a = false → EvT rb ε b) : EvT (yOr ra rb) ε b := fun Q q => h _ (by
  cases a with
  | true => rw [h0 rfl] at q; exact q
  | false => exact h1 rfl _ q)
theorem EvT.andX {ra rb : PTT} {ε : PEnv} {a b : Bool} (h : EvT ra ε a) (h0 : a = false → b = false) (h1 : a = true → EvT rb ε b) : EvT (yAnd ra rb) ε b := fun Q q => h _ (by
  cases a with
  | false => rw [h0 rfl] at q; exact q
  | true => exact h1 rfl _ q)
theorem Ev.orX {ra rb : PTE} {ε : PEnv} {a b : Bool} (h : Ev ra ε (.bl a)) (h0 : a = true → b = true) (h1 : a = false → Ev rb ε (.bl b)) : Ev (yOrV ra rb) ε (.bl b) := fun Q q => h _ (by
  cases a with
  | true => rw [h0 rfl] at q; exact q
  | false => exact h1 rfl _ q)
theorem EvT.isN {r : PTE} {ε : PEnv} {o : Option Int} {neg : Bool} (h : Ev r ε (optD o)) : EvT (yBinT (oIsN neg) r (yC .non)) ε (match neg with
    | true => o.isSome
    | false => o.isNone) := fun Q q => h _ (by
  cases o <;> cases neg <;> exact q)
theorem Ev.isN {r : PTE} {ε : PEnv} {o : Option Int} {neg : Bool} (h : Ev r ε (optD o)) : Ev (yBin (oIsN neg) r (yC .non)) ε (.bl (match neg with
    | true => o.isSome
    | false => o.isNone)) := fun Q q => h _ (by
  cases o <;> cases neg <;> exact q)
theorem EvT.orN {rt : PTT} {ε : PEnv} {i : Nat} {o : Option Int} {b : Bool} (hv : ε[i]? = some (some (.v (optD o)))) (h0 : o = none → b = true) (h1 : ∀ x, o = some x → EvT rt ε b) : EvT (yOr (yBinT (oIsN false) (yVar i) (yC .non)) rt) ε b :=
  EvT.orX (EvT.isN (Ev.var hv)) (fun z => h0 (Option.isNone_iff_eq_none.mp z)) fun z => by
    cases o with
    | none => cases z
    | some x => exact h1 x rfl
theorem EvT.andN {rt : PTT} {ε : PEnv} {i : Nat} {o : Option Int} {b : Bool} (hv : ε[i]? = some (some (.v (optD o)))) (h0 : o = none → b = false) (h1 : ∀ x, o = some x → EvT rt ε b) : EvT (yAnd (yBinT (oIsN true) (yVar i) (yC .non)) rt) ε b :=
  EvT.andX (EvT.isN (neg := true) (Ev.var hv)) (fun z => h0 (by cases o; rfl; cases z)) fun z => by
    cases o with
    | none => cases z
    | some x => exact h1 x rfl
theorem Ev.orN {r : PTE} {ε : PEnv} {i : Nat} {o : Option Int} {b : Bool} (hv : ε[i]? = some (some (.v (optD o)))) (h0 : o = none → b = true) (h1 : ∀ x, o = some x → Ev r ε (.bl b)) : Ev (yOrV (yBin (oIsN false) (yVar i) (yC .non)) r) ε (.bl b) :=
  Ev.orX (Ev.isN (Ev.var hv)) (fun z => h0 (Option.isNone_iff_eq_none.mp z)) fun z => by
    cases o with
    | none => cases z
    | some x => exact h1 x rfl
theorem Ev.andB {r1 r2 : PTE} {ε : PEnv} {a b : Bool} (h1 : Ev r1 ε (.bl a)) (h2 : Ev r2 ε (.bl b)) : Ev (yAndV r1 r2) ε (.bl (a && b)) := fun Q q => h1 _ (by
  cases a with
  | true => exact h2 _ q
  | false => exact q)
theorem Ev.cmp {r1 r2 : PTE} {ε : PEnv} {x y : Int} {f : Int → Int → Bool} (h1 : Ev r1 ε (.int x)) (h2 : Ev r2 ε (.int y)) : Ev (yBin (oCmpI f) r1 r2) ε (.bl (f x y)) := fun Q q => by
  have e : oCmpI f (.int x) (.int y) fun d => Q (.d d) ε := q
  exact h1 _ (h2 _ e)
theorem Ev.leA {r1 r2 : PTE} {ε : PEnv} {x y : Int} (h1 : Ev r1 ε (.int x)) (h2 : Ev r2 ε (.int y)) : Ev (yBin oLeA r1 r2) ε (.bl (decide (x ≤ y))) := fun Q q => by
  have e : oLeA (.int x) (.int y) fun d => Q (.d d) ε := q
  exact h1 _ (h2 _ e)
theorem var_o {ε : PEnv} {i : Nat} {o : Option Int} {x : Int} (hv : ε[i]? = some (some (.v (optD o)))) (e : o = some x) : Ev (yVar i) ε (.int x) := by
  subst e
  exact Ev.var hv
theorem gain_snoc {top low : Int} {p : Pt} : ∀ {ps : List Pt}, gainI top low (ps ++ [p]) = gainI top low ps + (if gStat p top low = true then p.w else 0)
  | [] => by
    show (if gStat p top low = true then p.w else 0) + 0 = 0 + (if gStat p top low = true then p.w else 0)
    omega
  | q :: ps => by
    show (if gStat q top low = true then q.w else 0) + gainI top low (ps ++ [p]) = (if gStat q top low = true then q.w else 0) + gainI top low ps + _
    rw [gain_snoc, Int.add_assoc]
def φ_gain_behind : Spec := fun ds Q _ => ∃ ps top low, ds = [ptsD ps, .int top, .int low] ∧ (∀ p ∈ ps, PB p) ∧ Bn 250 top ∧ Bn 250 low ∧ Q (.int (gainI top low ps))
abbrev N_gain_behind : List Str := ["parts", "top", "low", "gain", "base", "weight", "lo", "hi", "number"]
def r_gain_behind (Ξ : Xi) : PTS :=
  (ysSeq (ysAsg (yC (.int 0)) 3)
  (ysSeq (ysFor (yiSeq (yVar 0)) (gTupY 4 [(gN 4), (gN 5), (gN 6), (gN 7)])
  (ysSeq (ysAsg (yBin oAdd (yBin oMulW (yVar 4) (yVar 2)) (yBin oMulW (yVar 5) (yVar 1))) 8)
  (ysIf (yAnd (yOr (yBinT (oIsN false) (yVar 6) (yC .non)) (yBinT oGe (yVar 8) (yBin oMulW (yVar 6) (yVar 2)))) (yOr (yBinT (oIsN false) (yVar 7) (yC .non)) (yBinT oLt (yVar 8) (yBin oMulW (yVar 7) (yVar 2)))))
  (ysAsg (yBin oAdd (yVar 3) (yVar 5)) 3)
  ysNext)))
  (ysRet (yVar 3))))
theorem vc_gain_behind (ds : List D) (Q' : D → Prop) (E' : Nat → Prop) (h : φ_gain_behind ds Q' E') : r_gain_behind (fun c _ => E' c) { nx := fun _ => Q' .non, rt := fun d _ => Q' d } (startE N_gain_behind ds) := by
  obtain ⟨ps, top, low, rfl, hb, ht, hl, h⟩ := h
  let e (g : Int) (a b c d f : Option S) : PEnv := [some (.v (ptsD ps)), some (.v (.int top)), some (.v (.int low)), some (.v (.int g)), a, b, c, d, f]
  refine seq_step (e 0 none none none none none) (fun K k => k) ?_
  refine seq_post (fun ε => ∃ a b c d f, ε = e (gainI top low ps) a b c d f) (fun K kk => for_list (S := ps) (m := ptD) (fun i ε => ∃ a b c d f, ε = e (gainI top low (ps.take i)) a b c d f) ⟨none, none, none, none, none, rfl⟩ (fun i hi ε w => ?_) fun ε w => ?_) ?_
  · obtain ⟨a, b, c, d, f, rfl⟩ := w
    have hp := hb ps[i] (List.getElem_mem hi)
    have h1 : gainI top low (ps.take (i + 1)) = gainI top low (ps.take i) + (if gStat ps[i] top low = true then ps[i].w else 0) := by
      rw [List.take_succ_eq_append_getElem hi, gain_snoc]
    rw [h1]
    generalize gainI top low (ps.take i) = g
    generalize ps[i] = p at hp
    refine gtup4 ?_
    refine seq_step (e g (some (.v (.int p.b))) (some (.v (.int p.w))) (some (.v (optD p.lo))) (some (.v (optD p.hi))) (some (.v (.int (p.b * low + p.w * top))))) (fun K k => ⟨wide_of hp.b hl, wide_of hp.w ht, k⟩) ?_
    let ε1 := e g (some (.v (.int p.b))) (some (.v (.int p.w))) (some (.v (optD p.lo))) (some (.v (optD p.hi))) (some (.v (.int (p.b * low + p.w * top))))
    have t1 : EvT (yOr (yBinT (oIsN false) (yVar 6) (yC .non)) (yBinT oGe (yVar 8) (yBin oMulW (yVar 6) (yVar 2)))) ε1 (match p.lo with
        | some l => decide (l * low ≤ p.b * low + p.w * top)
        | none => true) := EvT.orN (o := p.lo) rfl (fun z => by rw [z]) fun x z => by
      rw [z]
      exact EvT.int (Ev.var rfl) (Ev.mulW (var_o (o := p.lo) rfl z) (Ev.var rfl) (wide_of (hp.lo x z) hl))
    have t2 : EvT (yOr (yBinT (oIsN false) (yVar 7) (yC .non)) (yBinT oLt (yVar 8) (yBin oMulW (yVar 7) (yVar 2)))) ε1 (match p.hi with
        | some l => decide (p.b * low + p.w * top < l * low)
        | none => true) := EvT.orN (o := p.hi) rfl (fun z => by rw [z]) fun x z => by
      rw [z]
      exact EvT.int (Ev.var rfl) (Ev.mulW (var_o (o := p.hi) rfl z) (Ev.var rfl) (wide_of (hp.hi x z) hl))
    refine if_evT (EvT.and t1 t2) ?_
    show (match gStat p top low with
      | true => _
      | false => _)
    cases gStat p top low with
    | true => exact ⟨_, _, _, _, _, rfl⟩
    | false =>
      rw [if_neg (by decide), Int.add_zero]
      exact ⟨_, _, _, _, _, rfl⟩
  · rw [List.take_length] at w
    exact kk ε w
  rintro _ ⟨a, b, c, d, f, rfl⟩
  exact h

end PL.K57

set_option Elab.async false
set_option linter.all false
set_option autoImplicit false
set_option maxRecDepth 100000
set_option maxHeartbeats 1000000
namespace PL.K57
open PySem PySem.Spec PyProof.Rows L2
local macro_rules | `(tactic| walk_at "y") => `(tactic| conv => whnf)
def φ_lowest : Spec := fun ds Q _ => ∃ n d, ds = [.int n, .int d] ∧ 0 < d ∧ Bn 8000 d ∧ Q (pairD (lowI n d))
abbrev N_lowest : List Str := ["top", "low", "both"]
def r_lowest (Ξ : Xi) : PTS :=
  (ysSeq (ysAsg (yCB oGcd (ylCons (yVar 0) (ylCons (yVar 1) ylNil))) 2)
  (ysRet (yTup (ylCons (yBin oFdivW (yVar 0) (yVar 2)) (ylCons (yBin oFdivW (yVar 1) (yVar 2)) ylNil)))))
theorem vc_lowest (ds : List D) (Q' : D → Prop) (E' : Nat → Prop) (h : φ_lowest ds Q' E') : r_lowest (fun c _ => E' c) { nx := fun _ => Q' .non, rt := fun d _ => Q' d } (startE N_lowest ds) := by
  obtain ⟨n, d, rfl, h0, hb, h⟩ := h
  have g0 := (lowI_mul (n := n) h0).1
  have g1 : ((Nat.gcd n.natAbs d.natAbs : Nat) : Int).natAbs < 2 ^ 8000 := by
    refine Nat.lt_of_le_of_lt ?_ hb
    show Nat.gcd n.natAbs d.natAbs ≤ d.natAbs
    exact Nat.gcd_le_right _ (by omega)
  have c : ∀ x, CDivW x ((Nat.gcd n.natAbs d.natAbs : Nat) : Int) := fun x => wide_div g0 g1 (by decide) (by decide)
  refine seq_step [some (.v (.int n)), some (.v (.int d)), some (.v (.int ((Nat.gcd n.natAbs d.natAbs : Nat) : Int)))] (fun K k => k) ?_
  exact ⟨c n, c d, h⟩
theorem cdiv_of {low : Int} (h0 : 0 < low) (h : Bn 250 low) (x : Int) : CDivW x low := wide_div h0 h (by decide) (by decide)
def φ_whole_sizes : Spec := fun ds Q _ => ∃ ts low, ds = [intsD ts, .int low] ∧ 0 < low ∧ Bn 250 low ∧ ts.length ≤ 1000 ∧ Q (intsD (wholesI low 0 ts))
abbrev N_whole_sizes : List Str := ["tops", "low", "found", "ahead", "top"]
def r_whole_sizes (Ξ : Xi) : PTS :=
  (ysSeq (ysAsgO (ynLst ylNil) 2)
  (ysSeq (ysAsg (yC (.int 0)) 3)
  (ysSeq (ysFor (yiSeq (yVar 0)) (gN 4)
  (ysSeq (ysApp 2 (yBin oSub (yBin oFdivW (yBin oAdd (yVar 3) (yVar 4)) (yVar 1)) (yBin oFdivW (yVar 3) (yVar 1))))
  (ysAsg (yBin oAdd (yVar 3) (yVar 4)) 3)))
  (ysRet (yVar 2)))))
theorem vc_whole_sizes (ds : List D) (Q' : D → Prop) (E' : Nat → Prop) (h : φ_whole_sizes ds Q' E') : r_whole_sizes (fun c _ => E' c) { nx := fun _ => Q' .non, rt := fun d _ => Q' d } (startE N_whole_sizes ds) := by
  obtain ⟨ts, low, rfl, h0, hb, hn, h⟩ := h
  have c := cdiv_of h0 hb
  let e (acc : List D) (a : Int) (t : Option S) : PEnv := [some (.v (intsD ts)), some (.v (.int low)), some (.o acc), some (.v (.int a)), t]
  refine seq_step [some (.v (intsD ts)), some (.v (.int low)), some (.o []), none, none] (fun K k => k) ?_
  refine seq_step (e [] 0 none) (fun K k => k) ?_
  refine seq_post (fun ε => ∃ a t, ε = e ((wholesI low 0 ts).map D.int) a t) (fun K kk => for_list (S := ts) (m := D.int) (fun i ε => ∃ t, ε = e ((wholesI low 0 (ts.take i)).map D.int) ((ts.take i).sum) t) ⟨none, rfl⟩ (fun i hi ε w => ?_) fun ε w => ?_) ?_
  · obtain ⟨t, rfl⟩ := w
    have h1 : wholesI low 0 (ts.take (i + 1)) = wholesI low 0 (ts.take i) ++ [((ts.take i).sum + ts[i]) / low - (ts.take i).sum / low] := by
      rw [List.take_succ_eq_append_getElem hi, wholes_snoc, Int.zero_add]
    have h2 : (ts.take (i + 1)).sum = (ts.take i).sum + ts[i] := by
      rw [List.take_succ_eq_append_getElem hi, List.sum_append, List.sum_cons, List.sum_nil, Int.add_zero]
    have h3 : ((wholesI low 0 (ts.take i)).map D.int).length < 16777216 := by
      have : ∀ (l : List Int) (a : Int), (wholesI low a l).length = l.length := fun l => by
        induction l with
        | nil => intro a; rfl
        | cons x l ih => intro a; show (wholesI low (a + x) l).length + 1 = l.length + 1; rw [ih]
      rw [List.length_map, this, List.length_take]
      omega
    rw [h1, h2, List.map_append]
    generalize (wholesI low 0 (ts.take i)).map D.int = acc at h3
    generalize (ts.take i).sum = a
    generalize ts[i] = x
    refine gn_of ?_
    refine ⟨c _, c _, ?_⟩
    refine gd_of h3 ?_
    exact ⟨_, rfl⟩
  · obtain ⟨t, rfl⟩ := w
    rw [List.take_length]
    exact kk _ ⟨_, _, rfl⟩
  rintro _ ⟨a, t, rfl⟩
  exact h
def φ_law_wholes : Spec := φ_whole_sizes
abbrev N_law_wholes : List Str := ["tops", "low", "found", "ahead", "top"]
def r_law_wholes (Ξ : Xi) : PTS :=
  (ysSeq (ysPar 2 3 (yxN (ynLst ylNil)) (yxE (yC (.int 0))))
  (ysSeq (ysFor (yiSeq (yVar 0)) (gN 4)
  (ysSeq (ysApp 2 (yCB oInt (ylCons (yBin oSub (yBin oFdivW (yBin oAdd (yVar 3) (yVar 4)) (yVar 1)) (yBin oFdivW (yVar 3) (yVar 1))) ylNil)))
  (ysAsg (yBin oAdd (yVar 3) (yVar 4)) 3)))
  (ysRet (yVar 2))))
theorem vc_law_wholes (ds : List D) (Q' : D → Prop) (E' : Nat → Prop) (h : φ_law_wholes ds Q' E') : r_law_wholes (fun c _ => E' c) { nx := fun _ => Q' .non, rt := fun d _ => Q' d } (startE N_law_wholes ds) := by
  obtain ⟨ts, low, rfl, h0, hb, hn, h⟩ := h
  have c := cdiv_of h0 hb
  let e (acc : List D) (a : Int) (t : Option S) : PEnv := [some (.v (intsD ts)), some (.v (.int low)), some (.o acc), some (.v (.int a)), t]
  refine seq_step (e [] 0 none) (fun K k => k) ?_
  refine seq_post (fun ε => ∃ a t, ε = e ((wholesI low 0 ts).map D.int) a t) (fun K kk => for_list (S := ts) (m := D.int) (fun i ε => ∃ t, ε = e ((wholesI low 0 (ts.take i)).map D.int) ((ts.take i).sum) t) ⟨none, rfl⟩ (fun i hi ε w => ?_) fun ε w => ?_) ?_
  · obtain ⟨t, rfl⟩ := w
    have h1 : wholesI low 0 (ts.take (i + 1)) = wholesI low 0 (ts.take i) ++ [((ts.take i).sum + ts[i]) / low - (ts.take i).sum / low] := by
      rw [List.take_succ_eq_append_getElem hi, wholes_snoc, Int.zero_add]
    have h2 : (ts.take (i + 1)).sum = (ts.take i).sum + ts[i] := by
      rw [List.take_succ_eq_append_getElem hi, List.sum_append, List.sum_cons, List.sum_nil, Int.add_zero]
    have h3 : ((wholesI low 0 (ts.take i)).map D.int).length < 16777216 := by
      have : ∀ (l : List Int) (a : Int), (wholesI low a l).length = l.length := fun l => by
        induction l with
        | nil => intro a; rfl
        | cons x l ih => intro a; show (wholesI low (a + x) l).length + 1 = l.length + 1; rw [ih]
      rw [List.length_map, this, List.length_take]
      omega
    rw [h1, h2, List.map_append]
    generalize (wholesI low 0 (ts.take i)).map D.int = acc at h3
    generalize (ts.take i).sum = a
    generalize ts[i] = x
    refine gn_of ?_
    refine ⟨c _, c _, ?_⟩
    refine gd_of h3 ?_
    exact ⟨_, rfl⟩
  · obtain ⟨t, rfl⟩ := w
    rw [List.take_length]
    exact kk _ ⟨_, _, rfl⟩
  rintro _ ⟨a, t, rfl⟩
  exact h
/-! ### Euclid, any divisor -/
structure EuG (g i a b : Nat) : Prop where
  g : Nat.gcd a b = g
  m : (i = 0 ∧ b < 2 ^ 260) ∨ (b < a ∧ a * b * 2 ^ i < 2 ^ 600)
theorem EuG.zero {a b : Nat} (h : b < 2 ^ 260) : EuG (Nat.gcd a b) 0 a b := ⟨rfl, .inl ⟨rfl, h⟩⟩
theorem EuG.step {g i a b : Nat} (h : EuG g i a b) (hb : 0 < b) : EuG g (i + 1) b (a % b) := by
  have lt : a % b < b := Nat.mod_lt _ hb
  refine ⟨by rw [Nat.gcd_comm, ← Nat.gcd_rec, Nat.gcd_comm]; exact h.g, .inr ⟨lt, ?_⟩⟩
  rcases h.m with ⟨rfl, h1⟩ | ⟨h1, h2⟩
  · have a1 : b * (a % b) < 2 ^ 260 * 2 ^ 260 := Nat.mul_lt_mul'' h1 (by omega)
    have a2 : b * (a % b) * 2 ^ (0 + 1) < 2 ^ 260 * 2 ^ 260 * 2 ^ (0 + 1) := Nat.mul_lt_mul_of_pos_right a1 (by decide)
    refine Nat.lt_trans a2 ?_
    rw [← Nat.pow_add, ← Nat.pow_add]
    exact Nat.pow_lt_pow_right (by decide) (by decide)
  · have a1 : a % b ≤ a - b := by
      rw [Nat.mod_eq_sub_mod (by omega)]
      exact Nat.mod_le _ _
    have a2 : (a % b) * 2 ≤ a := by omega
    have a3 : b * (a % b) * 2 ^ (i + 1) ≤ a * b * 2 ^ i := by
      rw [Nat.pow_succ]
      have : b * (a % b) * (2 ^ i * 2) = (b * ((a % b) * 2)) * 2 ^ i := by
        rw [Nat.mul_comm (2 ^ i) 2, ← Nat.mul_assoc, Nat.mul_assoc b]
      rw [this, Nat.mul_comm a b]
      exact Nat.mul_le_mul_right _ (Nat.mul_le_mul_left _ a2)
    omega
theorem EuG.end_ {g a b : Nat} (h : EuG g 1000 a b) : a = g ∧ b = 0 := by
  have hb : b = 0 := by
    rcases h.m with ⟨z, _⟩ | ⟨h1, h2⟩
    · cases z
    · refine Nat.eq_zero_of_not_pos fun z => ?_
      have : 1 * 2 ^ 1000 ≤ a * b * 2 ^ 1000 := Nat.mul_le_mul_right _ (Nat.mul_pos (by omega) z)
      have l : (2 : Nat) ^ 600 < 2 ^ 1000 := Nat.pow_lt_pow_right (by decide) (by decide)
      rw [Nat.one_mul] at this
      exact Nat.lt_irrefl _ (Nat.lt_of_le_of_lt this (Nat.lt_trans h2 l))
  refine ⟨?_, hb⟩
  have := h.g
  rw [hb, Nat.gcd_zero_right] at this
  exact this
theorem EuG.stop {g i a : Nat} (h : EuG g i a 0) : a = g := by
  have := h.g
  rw [Nat.gcd_zero_right] at this
  exact this
def φ_law_lowest : Spec := fun ds Q _ => ∃ top low, ds = [.int top, .int low] ∧ 0 < low ∧ Bn 260 low ∧ Q (pairD (lowI top low))
abbrev N_law_lowest : List Str := ["top", "low", "one", "other", "turn"]
def r_law_lowest (Ξ : Xi) : PTS :=
  (ysSeq (ysPar 2 3 (yxE (yCB oAbs (ylCons (yVar 0) ylNil))) (yxE (yVar 1)))
  (ysSeq (ysFor (yiRg1 (ylCons (yC (.int 1000)) ylNil)) (gN 4)
  (ysSeq (ysIf (yBinT (oEq false) (yVar 3) (yC (.int 0)))
  ysBrk
  ysNext)
  (ysPar 2 3 (yxE (yVar 3)) (yxE (yBin oMod (yCB oInt (ylCons (yVar 2) ylNil)) (yVar 3))))))
  (ysRet (yTup (ylCons (yCB oInt (ylCons (yBin oFdivW (yVar 0) (yVar 2)) ylNil)) (ylCons (yCB oInt (ylCons (yBin oFdivW (yVar 1) (yVar 2)) ylNil)) ylNil))))))
theorem vc_law_lowest (ds : List D) (Q' : D → Prop) (E' : Nat → Prop) (h : φ_law_lowest ds Q' E') : r_law_lowest (fun c _ => E' c) { nx := fun _ => Q' .non, rt := fun d _ => Q' d } (startE N_law_lowest ds) := by
  obtain ⟨top, low, rfl, h0, hb, h⟩ := h
  let e (a b : Int) (t : Option S) : PEnv := [some (.v (.int top)), some (.v (.int low)), some (.v (.int a)), some (.v (.int b)), t]
  refine seq_step (e (top.natAbs : Int) (low.natAbs : Int) none) (fun K k => ?_) ?_
  · have a1 : (if top < 0 then -top else top) = (top.natAbs : Int) := by split <;> omega
    have a2 : low = (low.natAbs : Int) := by omega
    refine (?_ : K [some (.v (.int top)), some (.v (.int low)), some (.v (.int (if top < 0 then -top else top))), some (.v (.int low)), none])
    rw [a1]
    have := k
    rw [← a2] at this
    exact this
  have hg := EuG.zero (a := top.natAbs) (b := low.natAbs) hb
  have g0 := (lowI_mul (n := top) h0).1
  have g1 : ((Nat.gcd top.natAbs low.natAbs : Nat) : Int).natAbs < 2 ^ 260 := by
    refine Nat.lt_of_le_of_lt ?_ hb
    show Nat.gcd top.natAbs low.natAbs ≤ low.natAbs
    exact Nat.gcd_le_right _ (by omega)
  have el : lowI top low = (top / ((Nat.gcd top.natAbs low.natAbs : Nat) : Int), low / ((Nat.gcd top.natAbs low.natAbs : Nat) : Int)) := rfl
  generalize Nat.gcd top.natAbs low.natAbs = g at hg g0 g1 el
  refine seq_post (fun ε => ∃ b t, ε = e g b t) (fun K kk => ⟨fun i ε => ∃ (a b : Nat) (t : Option S), ε = e a b t ∧ EuG g i a b, ⟨_, _, none, rfl, hg⟩, fun i d ε hi hd w => ?_, fun ε w => ?_⟩) ?_
  · obtain ⟨a, b, t, rfl, eu⟩ := w
    have hdd := rangeD_get hd
    rw [hdd.2]
    refine gn_of ?_
    walk_at "y"
    show (match decide ((b : Int) = 0) with
      | true => _
      | false => _)
    cases z : decide ((b : Int) = 0) with
    | true =>
      have z := of_decide_eq_true z
      obtain rfl : b = 0 := by omega
      obtain rfl : a = g := eu.stop
      exact kk _ ⟨_, _, rfl⟩
    | false =>
      have z := of_decide_eq_false z
      refine gd_of (show (0 : Int) < (b : Int) by omega) ?_
      refine ⟨b, a % b, some (.v (.int (0 + (i : Int)))), ?_, eu.step (by omega)⟩
      rw [Int.natCast_emod]
      rfl
  · obtain ⟨a, b, t, rfl, eu⟩ := w
    rw [rangeD_len] at eu
    obtain ⟨rfl, rfl⟩ := EuG.end_ eu
    exact kk _ ⟨_, _, rfl⟩
  rintro _ ⟨b, t, rfl⟩
  have c : ∀ x, CDivW x (g : Int) := fun x => wide_div g0 g1 (by decide) (by decide)
  rw [el] at h
  exact ⟨c top, c low, h⟩

end PL.K57

set_option Elab.async false
set_option linter.all false
set_option autoImplicit false
set_option maxRecDepth 100000
set_option maxHeartbeats 1000000
namespace PL.K57
open PySem PySem.Spec PyProof.Rows L2
local macro_rules | `(tactic| walk_at "y") => `(tactic| conv => whnf)
theorem nx_of {Δ : PEnds} {ε : PEnv} (h : Δ.nx ε) : ysNext Δ ε := h
theorem neg1_b : Bn 10 (-1) := by show (1 : Nat) < 2 ^ 10; decide
def Full (p : Pt) : Prop := POk p ∧ ∃ l, p.lo = some l
def φ_law_tops : Spec := fun ds Q _ => ∃ ps top low, ds = [ptsD ps, .int top, .int low] ∧ (∀ p ∈ ps, PB p ∧ Full p) ∧ Bn 250 top ∧ Bn 250 low ∧ 0 ≤ low ∧ ps.length ≤ 1000 ∧ Q (.lst (topsD ps top low))
abbrev N_law_tops : List Str := ["parts", "top", "low", "found", "base", "weight", "lo", "hi", "most"]
def r_law_tops (Ξ : Xi) : PTS :=
  (ysSeq (ysAsgO (ynLst ylNil) 3)
  (ysSeq (ysFor (yiSeq (yVar 0)) (gTupY 4 [(gN 4), (gN 5), (gN 6), (gN 7)])
  (ysSeq (ysAsg (yC .non) 8)
  (ysSeq (ysIf (yBinT (oIsN true) (yVar 7) (yC .non))
  (ysAsg (yBin oMulW (yVar 7) (yVar 2)) 8)
  ysNext)
  (ysApp 3 (yCall φ_law_cut Ξ (ylCons (yBin oAdd (yBin oMulW (yVar 4) (yVar 2)) (yBin oMulW (yVar 5) (yVar 1))) (ylCons (yBin oMulW (yVar 6) (yVar 2)) (ylCons (yVar 8) ylNil))))))))
  (ysRet (yVar 3))))
theorem vc_law_tops (ds : List D) (Q' : D → Prop) (E' : Nat → Prop) (h : φ_law_tops ds Q' E') : r_law_tops (fun c _ => E' c) { nx := fun _ => Q' .non, rt := fun d _ => Q' d } (startE N_law_tops ds) := by
  obtain ⟨ps, top, low, rfl, hb, ht, hl, h0, hn, h⟩ := h
  let e (acc : List D) (a b c d f : Option S) : PEnv := [some (.v (ptsD ps)), some (.v (.int top)), some (.v (.int low)), some (.o acc), a, b, c, d, f]
  refine seq_step (e [] none none none none none) (fun K k => k) ?_
  refine seq_post (fun ε => ∃ a b c d f, ε = e (topsD ps top low) a b c d f) (fun K kk => for_list (S := ps) (m := ptD) (fun i ε => ∃ a b c d f, ε = e (topsD (ps.take i) top low) a b c d f) ⟨none, none, none, none, none, rfl⟩ (fun i hi ε w => ?_) fun ε w => ?_) ?_
  · obtain ⟨a, b, c, d, f, rfl⟩ := w
    obtain ⟨hp, ok, l, el⟩ := hb ps[i] (List.getElem_mem hi)
    have h1 : topsD (ps.take (i + 1)) top low = topsD (ps.take i) top low ++ [.int (topI ps[i] top low)] := take_map hi
    have h2 : (topsD (ps.take i) top low).length < 16777216 := take_len hn
    rw [h1]
    generalize topsD (ps.take i) top low = acc at h2
    generalize ps[i] = p at hp ok el
    refine gtup4 ?_
    refine seq_step (e acc (some (.v (.int p.b))) (some (.v (.int p.w))) (some (.v (optD p.lo))) (some (.v (optD p.hi))) (some (.v .non))) (fun K k => k) ?_
    refine seq_step (e acc (some (.v (.int p.b))) (some (.v (.int p.w))) (some (.v (optD p.lo))) (some (.v (optD p.hi))) (some (.v (optD (mulO p.hi low))))) (fun K k => ?_) ?_
    · refine if_evT (b := p.hi.isSome) (EvT.isN (o := p.hi) (neg := true) (Ev.var rfl)) ?_
      cases eh : p.hi with
      | none => rw [eh] at k; exact k
      | some x =>
        rw [eh] at k
        exact asg_ev (Ev.mulW (Ev.var rfl) (Ev.var rfl) (wide_of (hp.hi x eh) hl)) k
    have e2 : topI p top low = cutI (p.b * low + p.w * top) (some (l * low)) (mulO p.hi low) := by
      unfold topI
      rw [el]
      rfl
    rw [el, e2]
    refine ⟨wide_of hp.b hl, wide_of hp.w ht, wide_of (hp.lo l el) hl, _, l * low, mulO p.hi low, rfl, _, lc_cut (fun x z => ?_), ?_⟩
    · cases eh : p.hi with
      | none => rw [eh] at z; cases z
      | some y =>
        rw [eh] at z
        cases z
        exact Int.mul_le_mul_of_nonneg_right (ok.le l y el eh) h0
    refine gd_of h2 ?_
    exact ⟨_, _, _, _, _, rfl⟩
  · rw [List.take_length] at w
    exact kk ε w
  rintro _ ⟨a, b, c, d, f, rfl⟩
  exact h
theorem mir_D {p : Pt} {l : Int} (el : p.lo = some l) : ptD (mir p) = .tup [.int (-p.b), .int p.w, optD (mulO p.hi (-1)), .int (-l)] := by
  unfold ptD mir
  rw [el]
  rfl
def φ_mirrored : Spec := fun ds Q _ => ∃ ps, ds = [ptsD ps] ∧ (∀ p ∈ ps, PB p ∧ Full p) ∧ ps.length ≤ 1000 ∧ Q (ptsD (ps.map mir))
abbrev N_mirrored : List Str := ["parts", "base", "weight", "lo", "hi"]
def r_mirrored (Ξ : Xi) : PTS :=
  (ysRet (yNew (ynLc (yiSeq (yVar 0)) (gTupY 4 [(gN 1), (gN 2), (gN 3), (gN 4)]) yYes (yTup (ylCons (yNeg (yVar 1)) (ylCons (yVar 2) (ylCons (yCall φ_times Ξ0 (ylCons (yVar 4) (ylCons (yNeg (yC (.int 1))) ylNil))) (ylCons (yNeg (yVar 3)) ylNil))))) [1, 2, 3, 4])))
theorem vc_mirrored (ds : List D) (Q' : D → Prop) (E' : Nat → Prop) (h : φ_mirrored ds Q' E') : r_mirrored (fun c _ => E' c) { nx := fun _ => Q' .non, rt := fun d _ => Q' d } (startE N_mirrored ds) := by
  obtain ⟨ps, rfl, hb, hn, h⟩ := h
  refine ⟨⟨trivial, trivial, trivial, trivial, trivial⟩, by rw [List.length_map]; omega, ?_⟩
  refine lc_list (S := ps) (m := ptD) (f := fun p => ptD (mir p)) (fun p hp K N k => ?_) ?_
  · obtain ⟨hp, ok, l, el⟩ := hb p hp
    rw [mir_D el] at k
    refine gtup4 ?_
    rw [el]
    exact ⟨p.hi, -1, rfl, fun x z => wide_of (hp.hi x z) neg1_b, rfl, k⟩
  · unfold ptsD at h
    rw [List.map_map] at h
    exact h

theorem toInts_map : ∀ ns : List Int, toInts (ns.map D.int) = some ns
  | [] => rfl
  | n :: ns => by
    show (match toInts (ns.map D.int) with
      | some r => some (n :: r)
      | none => none) = _
    rw [toInts_map ns]
theorem sum_ev {r : PTE} {ε : PEnv} {ns : List Int} (h : Ev r ε (.lst (ns.map D.int))) : Ev (yCB oSum (ylCons r ylNil)) ε (.int ns.sum) := fun Q q => h _ (by
  refine (?_ : opt (toInts (ns.map D.int)) fun ns => Q (.d (.int ns.sum)) ε)
  exact opt_of (toInts_map ns) q)
theorem tops_ev {r : PTE} {ε : PEnv} {ps : List Pt} {top low : Int} (h : Ev r ε (.lst (topsD ps top low))) : Ev (yCB oSum (ylCons r ylNil)) ε (.int (sumI ps top low)) := by
  rw [tops_ints] at h
  exact sum_ev h
/-- what the program's inner functions are handed -/
structure In (ps : List Pt) : Prop where
  b : ∀ p ∈ ps, PB p
  ok : ∀ p ∈ ps, POk p
  n : ps.length ≤ 1000
theorem In.lt {ps : List Pt} (h : In ps) : ps.length < 2 ^ 10 := Nat.lt_of_le_of_lt h.n (by decide)
theorem tops_call {ps : List Pt} (h : In ps) {top low : Int} (h1 : Bn 250 top) (h2 : Bn 250 low) (K : D → Prop) (E : Nat → Prop) (k : K (.lst (topsD ps top low))) : φ_tops_at [ptsD ps, .int top, .int low] K E := ⟨ps, top, low, rfl, h.b, h1, h2, h.n, k⟩
def φ_least_ratio : Spec := fun ds Q _ => ∃ ps room, ds = [ptsD ps, .int room] ∧ In ps ∧ Bn 110 room ∧ Q (ratD (leastR ps room))
abbrev N_least_ratio : List Str := ["parts", "room", "top", "low", "other", "under", "gain"]
def r_least_ratio (Ξ : Xi) : PTS :=
  (ysSeq (ysAsgG (yTup (ylCons (yC (.int 0)) (ylCons (yC (.int 1)) ylNil))) (gTupY 2 [(gN 2), (gN 3)]))
  (ysSeq (ysFor (yiSeq (yCall φ_knots_of Ξ (ylCons (yVar 0) ylNil))) (gTupY 2 [(gN 4), (gN 5)])
  (ysIf (yAnd (yBinT oGt (yBin oMulW (yVar 4) (yVar 3)) (yBin oMulW (yVar 2) (yVar 5))) (yBinT oLt (yCB oSum (ylCons (yCall φ_tops_at Ξ (ylCons (yVar 0) (ylCons (yVar 4) (ylCons (yVar 5) ylNil)))) ylNil)) (yBin oMulW (yVar 1) (yVar 5))))
  (ysPar 2 3 (yxE (yVar 4)) (yxE (yVar 5)))
  ysNext))
  (ysSeq (ysAsg (yCall φ_gain_behind Ξ (ylCons (yVar 0) (ylCons (yVar 2) (ylCons (yVar 3) ylNil)))) 6)
  (ysSeq (ysIf (yBinT (oEq false) (yVar 6) (yC (.int 0)))
  (ysRet (yC .non))
  ysNext)
  (ysRet (yCall φ_lowest Ξ (ylCons (yBin oSub (yBin oAdd (yBin oMulW (yVar 2) (yVar 6)) (yBin oMulW (yVar 1) (yVar 3))) (yCB oSum (ylCons (yCall φ_tops_at Ξ (ylCons (yVar 0) (ylCons (yVar 2) (ylCons (yVar 3) ylNil)))) ylNil))) (ylCons (yBin oMulW (yVar 3) (yVar 6)) ylNil))))))))
theorem vc_least_ratio (ds : List D) (Q' : D → Prop) (E' : Nat → Prop) (h : φ_least_ratio ds Q' E') : r_least_ratio (fun c _ => E' c) { nx := fun _ => Q' .non, rt := fun d _ => Q' d } (startE N_least_ratio ds) := by
  obtain ⟨ps, room, rfl, hi, hr, h⟩ := h
  let e (t : Int × Int) (a b c : Option S) : PEnv := [some (.v (ptsD ps)), some (.v (.int room)), some (.v (.int t.1)), some (.v (.int t.2)), a, b, c]
  have hk : (knots ps).length ≤ 2000 := by have := knots_len ps; have := hi.n; omega
  refine seq_step (e (0, 1) none none none) (fun K k => gtup2 (d1 := .int 0) (d2 := .int 1) k) ?_
  refine seq_post (fun ε => ∃ a b, ε = e (lrT ps room) a b none) (fun K kk => ⟨ps, rfl, hi.n, for_list (S := knots ps) (m := pairD) (fun i ε => ∃ a b, ε = e (((knots ps).take i).foldl (lrStep ps room) (0, 1)) a b none) ⟨none, none, rfl⟩ (fun i hj ε w => ?_) fun ε w => ?_⟩) ?_
  · obtain ⟨a, b, rfl⟩ := w
    have kb := knots_b hi.b (knots ps)[i] (List.getElem_mem hj)
    have h1 : ((knots ps).take (i + 1)).foldl (lrStep ps room) (0, 1) = lrStep ps room (((knots ps).take i).foldl (lrStep ps room) (0, 1)) (knots ps)[i] := by
      rw [List.take_succ_eq_append_getElem hj, List.foldl_append]
      rfl
    have tb : Bn 101 (((knots ps).take i).foldl (lrStep ps room) (0, 1)).1 ∧ Bn 101 (((knots ps).take i).foldl (lrStep ps room) (0, 1)).2 := lrT_in (P := fun t => Bn 101 t.1 ∧ Bn 101 t.2) ⟨Bn.zero, Bn.one (by decide)⟩ fun k hk => knots_b hi.b k (List.mem_of_mem_take hk)
    rw [h1]
    generalize ((knots ps).take i).foldl (lrStep ps room) (0, 1) = t at tb
    generalize (knots ps)[i] = k at kb
    refine gtup2 (d1 := .int k.1) (d2 := .int k.2) ?_
    let ε1 : PEnv := e t (some (.v (.int k.1))) (some (.v (.int k.2))) none
    have w1 : CMulW k.1 t.2 := wide_of kb.1 tb.2
    have w2 : CMulW t.1 k.2 := wide_of tb.1 kb.2
    have w3 : CMulW room k.2 := wide_of hr kb.2
    refine if_evT (ε := ε1) (b := decide (t.1 * k.2 < k.1 * t.2) && decide (sumI ps k.1 k.2 < room * k.2)) (EvT.and (EvT.int (Ev.mulW (Ev.var rfl) (Ev.var rfl) w1) (Ev.mulW (Ev.var rfl) (Ev.var rfl) w2)) (EvT.int (tops_ev (call_ev3 (Ev.var rfl) (Ev.var rfl) (Ev.var rfl) (tops_call hi (kb.1.mono (by decide)) (kb.2.mono (by decide))))) (Ev.mulW (Ev.var rfl) (Ev.var rfl) w3))) ?_
    unfold lrStep
    cases z : (decide (t.1 * k.2 < k.1 * t.2) && decide (sumI ps k.1 k.2 < room * k.2)) with
    | true =>
      obtain ⟨z1, z2⟩ := Bool.and_eq_true_iff.mp z
      rw [if_pos ⟨of_decide_eq_true z1, of_decide_eq_true z2⟩]
      exact ⟨_, _, rfl⟩
    | false =>
      rw [if_neg fun y => by
        rw [decide_eq_true y.1, decide_eq_true y.2] at z
        cases z]
      exact ⟨_, _, rfl⟩
  · rw [List.take_length] at w
    exact kk ε w
  rintro _ ⟨a, b, rfl⟩
  have tb := lrT_b (room := room) hi.b
  have tp := lrT_pos (ps := ps) (room := room)
  unfold leastR at h
  generalize lrT ps room = t at tb tp h
  have gb := gain_b (top := t.1) (low := t.2) hi.b hi.lt
  have g0 := gain_nonneg hi.ok t.1 t.2
  refine seq_step (e t a b (some (.v (.int (gainI t.1 t.2 ps))))) (fun K k => ⟨ps, t.1, t.2, rfl, hi.b, tb.1.mono (by decide), tb.2.mono (by decide), k⟩) ?_
  generalize gainI t.1 t.2 ps = g at gb g0 h
  walk_at "y"
  show (match decide (g = 0) with
    | true => _
    | false => _)
  cases z : decide (g = 0) with
  | true => rw [z] at h; exact h
  | false =>
    rw [z] at h
    have z := of_decide_eq_false z
    have hd : 0 < t.2 * g := Int.mul_pos tp.2 (by omega)
    have w1 : CMulW t.1 g := wide_of tb.1 gb
    have w2 : CMulW room t.2 := wide_of hr tb.2
    have w3 : CMulW t.2 g := wide_of tb.2 gb
    let ε1 : PEnv := e t a b (some (.v (.int g)))
    show ysNext _ _
    refine nx_of ?_
    dsimp only
    refine ret_ev (ε := ε1) (call_ev2 (φ := φ_lowest) (Ev.subI (Ev.addI (Ev.mulW (Ev.var rfl) (Ev.var rfl) w1) (Ev.mulW (Ev.var rfl) (Ev.var rfl) w2)) (tops_ev (call_ev3 (Ev.var rfl) (Ev.var rfl) (Ev.var rfl) (tops_call hi (tb.1.mono (by decide)) (tb.2.mono (by decide)))))) (Ev.mulW (Ev.var rfl) (Ev.var rfl) w3) fun K E k => ⟨_, _, rfl, hd, (tb.2.mul gb).mono (by decide), k⟩) ?_
    exact h

end PL.K57

set_option Elab.async false
set_option linter.all false
set_option autoImplicit false
set_option maxRecDepth 100000
set_option maxHeartbeats 1000000
namespace PL.K57
open PySem PySem.Spec PyProof.Rows L2
local macro_rules | `(tactic| walk_at "y") => `(tactic| conv => whnf)
def φ_ratio_of : Spec := fun ds Q _ => ∃ ps room, ds = [ptsD ps, .int room] ∧ In ps ∧ (∀ p ∈ ps, Full p) ∧ Bn 110 room ∧ Q (ratD (ratioI ps room))
theorem In.mir {ps : List Pt} (h : In ps) : In (ps.map K57.mir) := ⟨fun p hp => by
  obtain ⟨q, hq, rfl⟩ := List.mem_map.mp hp
  exact mir_b (h.b q hq), fun p hp => by
  obtain ⟨q, hq, rfl⟩ := List.mem_map.mp hp
  exact mir_ok (h.ok q hq), by rw [List.length_map]; exact h.n⟩
abbrev N_ratio_of : List Str := ["parts", "room", "now", "ratio"]
def r_ratio_of (Ξ : Xi) : PTS :=
  (ysSeq (ysAsg (yCB oSum (ylCons (yCall φ_tops_at Ξ (ylCons (yVar 0) (ylCons (yC (.int 0)) (ylCons (yC (.int 1)) ylNil)))) ylNil)) 2)
  (ysSeq (ysIf (yBinT (oEq false) (yVar 2) (yVar 1))
  (ysRet (yTup (ylCons (yC (.int 0)) (ylCons (yC (.int 1)) ylNil))))
  ysNext)
  (ysSeq (ysIf (yBinT oLt (yVar 2) (yVar 1))
  (ysRet (yCall φ_least_ratio Ξ (ylCons (yVar 0) (ylCons (yVar 1) ylNil))))
  ysNext)
  (ysSeq (ysAsg (yCall φ_least_ratio Ξ (ylCons (yCall φ_mirrored Ξ (ylCons (yVar 0) ylNil)) (ylCons (yNeg (yVar 1)) ylNil))) 3)
  (ysRet (yIf (yBinT (oIsN false) (yVar 3) (yC .non)) (yC .non) (yTup (ylCons (yNeg (yIx (yVar 3) (yC (.int 0)))) (ylCons (yIx (yVar 3) (yC (.int 1))) ylNil)))))))))
theorem vc_ratio_of (ds : List D) (Q' : D → Prop) (E' : Nat → Prop) (h : φ_ratio_of ds Q' E') : r_ratio_of (fun c _ => E' c) { nx := fun _ => Q' .non, rt := fun d _ => Q' d } (startE N_ratio_of ds) := by
  obtain ⟨ps, room, rfl, hi, hf, hr, h⟩ := h
  let e (t : Option S) : PEnv := [some (.v (ptsD ps)), some (.v (.int room)), some (.v (.int (sumI ps 0 1))), t]
  refine seq_step (e none) (fun K k => asg_ev (tops_ev (call_ev3 (Ev.var rfl) Ev.c Ev.c (tops_call hi Bn.zero (Bn.one (by decide))))) k) ?_
  unfold ratioI at h
  walk_at "y"
  show (match decide (sumI ps 0 1 = room) with
    | true => _
    | false => _)
  cases e1 : decide (sumI ps 0 1 = room) with
  | true => rw [e1] at h; exact h
  | false =>
    rw [e1] at h
    walk_at "y"
    show (match decide (sumI ps 0 1 < room) with
      | true => _
      | false => _)
    cases e2 : decide (sumI ps 0 1 < room) with
    | true =>
      rw [e2] at h
      exact ⟨ps, room, rfl, hi, hr, h⟩
    | false =>
      rw [e2] at h
      refine ⟨ps, rfl, fun p hp => ⟨hi.b p hp, hf p hp⟩, hi.n, ?_⟩
      refine ⟨ps.map mir, -room, rfl, hi.mir, hr.neg, ?_⟩
      replace h : Q' (ratD (match leastR (ps.map mir) (-room) with
        | none => none
        | some r => some (-r.1, r.2))) := h
      generalize leastR (ps.map mir) (-room) = r at h
      cases r with
      | none => exact h
      | some r => exact h
def endsD (ps : List Pt) (room : Int) : List D := match decide (sumI ps 0 1 < room) with
  | true => ps.map fun p => optD (mostO p)
  | false => ps.map fun p => .int (leastI p)
def φ_ends_of : Spec := fun ds Q _ => ∃ ps room, ds = [ptsD ps, .int room] ∧ In ps ∧ (∀ p ∈ ps, Full p) ∧ Q (.lst (endsD ps room))
abbrev N_ends_of : List Str := ["parts", "room", "base", "weight", "lo", "hi"]
def r_ends_of (Ξ : Xi) : PTS :=
  (ysSeq (ysIf (yBinT oLt (yCB oSum (ylCons (yCall φ_tops_at Ξ (ylCons (yVar 0) (ylCons (yC (.int 0)) (ylCons (yC (.int 1)) ylNil)))) ylNil)) (yVar 1))
  (ysRet (yNew (ynLc (yiSeq (yVar 0)) (gTupY 4 [(gN 2), (gN 3), (gN 4), (gN 5)]) yYes (yIf (yBinT oGt (yVar 3) (yC (.int 0))) (yVar 5) (yCall φ_cut Ξ0 (ylCons (yVar 2) (ylCons (yVar 4) (ylCons (yVar 5) ylNil))))) [2, 3, 4, 5])))
  ysNext)
  (ysRet (yNew (ynLc (yiSeq (yVar 0)) (gTupY 4 [(gN 2), (gN 3), (gN 4), (gN 5)]) yYes (yIf (yBinT oGt (yVar 3) (yC (.int 0))) (yVar 4) (yCall φ_cut Ξ0 (ylCons (yVar 2) (ylCons (yVar 4) (ylCons (yVar 5) ylNil))))) [2, 3, 4, 5]))))
theorem vc_ends_of (ds : List D) (Q' : D → Prop) (E' : Nat → Prop) (h : φ_ends_of ds Q' E') : r_ends_of (fun c _ => E' c) { nx := fun _ => Q' .non, rt := fun d _ => Q' d } (startE N_ends_of ds) := by
  obtain ⟨ps, room, rfl, hi, hf, h⟩ := h
  unfold endsD at h
  have hn : (ps.map ptD).length ≤ 16777216 := by rw [List.length_map]; have := hi.n; omega
  let ε0 : PEnv := [some (.v (ptsD ps)), some (.v (.int room)), none, none, none, none]
  refine if_evT (ε := ε0) (b := decide (sumI ps 0 1 < room)) (EvT.int (tops_ev (call_ev3 (Ev.var rfl) Ev.c Ev.c (tops_call hi Bn.zero (Bn.one (by decide))))) (Ev.var rfl)) ?_
  cases e1 : decide (sumI ps 0 1 < room) with
  | true =>
    rw [e1] at h
    refine ⟨⟨trivial, trivial, trivial, trivial, trivial⟩, hn, lc_list (S := ps) (m := ptD) (f := fun p => optD (mostO p)) (fun p hp K N k => ?_) h⟩
    refine gtup4 ?_
    unfold mostO at k
    walk_at "y"
    show (match decide (0 < p.w) with
      | true => _
      | false => _)
    cases z : decide (0 < p.w) with
    | true =>
      rw [if_pos (of_decide_eq_true z)] at k
      exact ⟨rfl, k⟩
    | false =>
      rw [if_neg (of_decide_eq_false z)] at k
      exact ⟨p.b, p.lo, p.hi, rfl, rfl, k⟩
  | false =>
    rw [e1] at h
    refine ⟨⟨trivial, trivial, trivial, trivial, trivial⟩, hn, lc_list (S := ps) (m := ptD) (f := fun p => .int (leastI p)) (fun p hp K N k => ?_) h⟩
    obtain ⟨ok, l, el⟩ := hf p hp
    refine gtup4 ?_
    unfold leastI at k
    walk_at "y"
    show (match decide (0 < p.w) with
      | true => _
      | false => _)
    cases z : decide (0 < p.w) with
    | true =>
      rw [if_pos (of_decide_eq_true z), el] at k
      rw [el]
      exact ⟨rfl, k⟩
    | false =>
      rw [if_neg (of_decide_eq_false z)] at k
      exact ⟨p.b, p.lo, p.hi, rfl, rfl, k⟩
def topsI (ps : List Pt) (r : Int × Int) : List Int := ps.map fun p => topI p r.1 r.2
def sizesD (ps : List Pt) (room : Int) : Option (Int × Int) → List D
  | none => endsD ps room
  | some r => (wholesI r.2 0 (topsI ps r)).map D.int
def φ_sizes_at : Spec := fun ds Q _ => ∃ ps room r, ds = [ptsD ps, .int room, ratD r] ∧ In ps ∧ (∀ p ∈ ps, Full p) ∧ (∀ k, r = some k → 0 < k.2 ∧ Bn 250 k.1 ∧ Bn 250 k.2) ∧ Q (.lst (sizesD ps room r))
abbrev N_sizes_at : List Str := ["parts", "room", "ratio"]
def r_sizes_at (Ξ : Xi) : PTS :=
  (ysSeq (ysIf (yBinT (oIsN false) (yVar 2) (yC .non))
  (ysRet (yCall φ_ends_of Ξ (ylCons (yVar 0) (ylCons (yVar 1) ylNil))))
  ysNext)
  (ysRet (yCall φ_whole_sizes Ξ (ylCons (yCall φ_tops_at Ξ (ylCons (yVar 0) (ylCons (yIx (yVar 2) (yC (.int 0))) (ylCons (yIx (yVar 2) (yC (.int 1))) ylNil)))) (ylCons (yIx (yVar 2) (yC (.int 1))) ylNil)))))
theorem vc_sizes_at (ds : List D) (Q' : D → Prop) (E' : Nat → Prop) (h : φ_sizes_at ds Q' E') : r_sizes_at (fun c _ => E' c) { nx := fun _ => Q' .non, rt := fun d _ => Q' d } (startE N_sizes_at ds) := by
  obtain ⟨ps, room, r, rfl, hi, hf, hr, h⟩ := h
  cases r with
  | none => exact ⟨ps, room, rfl, hi, hf, h⟩
  | some k =>
    obtain ⟨k0, k1, k2⟩ := hr k rfl
    refine ⟨ps, k.1, k.2, rfl, hi.b, k1, k2, hi.n, ?_⟩
    refine ⟨topsI ps k, k.2, ?_, k0, k2, ?_, h⟩
    · rw [tops_ints]; rfl
    · unfold topsI
      rw [List.length_map]; exact hi.n
/-! ### what is refused -/
def partsB : D → Bool
  | .lst xs => decide (xs.length ≤ 200) && xs.all isPartB
  | _ => false
def okB (d r : D) : Bool := partsB d && isWholeB r
def regP : D → Bool
  | .lst xs => xs.all regT
  | .frl _ => false
  | d => regB d
def boolD (f : D → Bool) (d : D) : D := .bl (f d)
theorem map_bool {ds : List D} {f : D → Bool} : ds.map (boolD f) = (ds.map f).map D.bl := by rw [List.map_map]; rfl
def φ_check_parts : Spec
  | [d, r], Q, E => regP d = true ∧ regB r = true ∧ (okB d r = false → E 12) ∧ (okB d r = true → Q .non)
  | _, _, _ => False
abbrev N_check_parts : List Str := ["parts", "room", "part"]
def r_check_parts (Ξ : Xi) : PTS :=
  (ysSeq (ysIf (yOr (yNot (yTru (yIs .list (yVar 0)))) (yOr (yBinT oGt (yCB oLen (ylCons (yVar 0) ylNil)) (yC (.int 200))) (yNot (yTru (yCall φ_is_whole Ξ (ylCons (yVar 1) ylNil))))))
  (ysRaise 12 Ξ)
  ysNext)
  (ysIf (yNot (yTru (yCB oAll (ylCons (yNew (ynLc (yiSeq (yVar 0)) (gN 2) yYes (yCall φ_is_part Ξ0 (ylCons (yVar 2) ylNil)) [2])) ylNil))))
  (ysRaise 12 Ξ)
  ysNext))
theorem vc_check_parts (ds : List D) (Q' : D → Prop) (E' : Nat → Prop) (h : φ_check_parts ds Q' E') : r_check_parts (fun c _ => E' c) { nx := fun _ => Q' .non, rt := fun d _ => Q' d } (startE N_check_parts ds) := by
  unfold φ_check_parts at h
  split at h
  · rename_i d r
    obtain ⟨h1, h2, hb, hg⟩ := h
    cases d with
    | lst xs =>
      walk_at "y"
      show (match decide ((200 : Int) < (xs.length : Int)) with
        | true => _
        | false => _)
      cases e1 : decide ((200 : Int) < (xs.length : Int)) with
      | true =>
        have e1 := of_decide_eq_true e1
        refine hb ?_
        show ((decide (xs.length ≤ 200) && xs.all isPartB) && isWholeB r) = false
        rw [decide_eq_false (by omega)]
        rfl
      | false =>
        have e1 := of_decide_eq_false e1
        have hl : xs.length ≤ 200 := by omega
        refine ⟨h2, ?_⟩
        have eo : okB (.lst xs) r = (xs.all isPartB && isWholeB r) := by
          show ((decide (xs.length ≤ 200) && xs.all isPartB) && isWholeB r) = _
          rw [decide_eq_true hl]
          rfl
        rw [eo] at hb hg
        cases e2 : isWholeB r with
        | false =>
          refine hb ?_
          rw [e2, Bool.and_false]
        | true =>
          rw [e2, Bool.and_true] at hb hg
          refine ⟨⟨trivial, trivial⟩, by omega, lc_map (boolD isPartB) (fun i d hd K N hk => ?_) ?_⟩
          · exact ⟨List.all_eq_true.mp h1 _ (List.mem_of_getElem? hd), rfl, hk⟩
          · rw [map_bool]
            refine opt_of (toBls_map _) ?_
            rw [List.all_map]
            walk_at "y"
            replace hb : xs.all (id ∘ isPartB) = false → E' 12 := hb
            replace hg : xs.all (id ∘ isPartB) = true → Q' .non := hg
            revert hb hg
            generalize xs.all (id ∘ isPartB) = b
            intro hb hg
            cases b
            · exact hb rfl
            · exact hg rfl
    | vl _ => cases h1
    | pool => cases h1
    | err _ _ => cases h1
    | frl _ => cases h1
    | _ => exact hb rfl
  · exact h.elim
theorem parts_yes : ∀ {xs : List D}, xs.all isPartB = true → ∃ ps : List Pt, xs = ps.map ptD ∧ ∀ p ∈ ps, Full p
  | [], _ => ⟨[], rfl, fun p hp => by cases hp⟩
  | d :: xs, h => by
    obtain ⟨h1, h2⟩ := Bool.and_eq_true_iff.mp h
    obtain ⟨p, rfl, hp⟩ := part_yes h1
    obtain ⟨ps, rfl, hps⟩ := parts_yes h2
    refine ⟨p :: ps, rfl, fun q hq => ?_⟩
    rcases List.mem_cons.mp hq with rfl | hq
    · exact hp
    · exact hps q hq
def sharesD (ps : List Pt) (room : Int) : D := .tup [.lst (sizesD ps room (ratioI ps room)), ratD (ratioI ps room)]
def φ_shares : Spec
  | [d, r], Q, E => regP d = true ∧ regB r = true ∧ (okB d r = false → E 12) ∧ (okB d r = true → ∃ ps room, d = ptsD ps ∧ r = .int room ∧ In ps ∧ (∀ p ∈ ps, Full p) ∧ Bn 110 room ∧ Q (sharesD ps room))
  | _, _, _ => False
abbrev N_shares : List Str := ["parts", "room", "ratio"]
def r_shares (Ξ : Xi) : PTS :=
  (ysSeq (ysDrop (yCall φ_check_parts Ξ (ylCons (yVar 0) (ylCons (yVar 1) ylNil))))
  (ysSeq (ysAsg (yCall φ_ratio_of Ξ (ylCons (yVar 0) (ylCons (yVar 1) ylNil))) 2)
  (ysRet (yTup (ylCons (yCall φ_sizes_at Ξ (ylCons (yVar 0) (ylCons (yVar 1) (ylCons (yVar 2) ylNil)))) (ylCons (yVar 2) ylNil))))))
theorem vc_shares (ds : List D) (Q' : D → Prop) (E' : Nat → Prop) (h : φ_shares ds Q' E') : r_shares (fun c _ => E' c) { nx := fun _ => Q' .non, rt := fun d _ => Q' d } (startE N_shares ds) := by
  unfold φ_shares at h
  split at h
  · rename_i d r
    obtain ⟨h1, h2, hb, hg⟩ := h
    refine ⟨h1, h2, hb, fun hv => ?_⟩
    obtain ⟨ps, room, rfl, rfl, hi, hf, hr, h⟩ := hg hv
    refine ⟨ps, room, rfl, hi, hf, hr, ?_⟩
    refine ⟨ps, room, ratioI ps room, rfl, hi, hf, fun k e => ?_, h⟩
    have a := ratio_spec (room := room) hf
    rw [e] at a
    exact ⟨a.low, ratio_b hi.ok hi.b hi.lt hr k e⟩
  · exact h.elim

end PL.K57

set_option Elab.async false
set_option linter.all false
set_option autoImplicit false
set_option maxRecDepth 100000
set_option maxHeartbeats 1000000
namespace PL.K57
open PySem PySem.Spec PyProof.Rows L2
local macro_rules | `(tactic| walk_at "y") => `(tactic| conv => whnf)
/-! ### the sizes hang on the room alone -/
theorem v_mono {p : Pt} (ok : POk p) {t s : Rat} (h : t ≤ s) : vQ p t ≤ vQ p s := by
  have m := at_mono ok.w0 h
  unfold vQ cutQ
  cases el : p.lo with
  | none =>
    cases eh : p.hi with
    | none => exact m
    | some b => dsimp only; grind
  | some l =>
    cases eh : p.hi with
    | none => dsimp only; grind
    | some b =>
      have lh : (l : Rat) ≤ (b : Rat) := Rat.intCast_le_intCast.mpr (ok.le l b el eh)
      dsimp only
      grind
theorem S_mono : ∀ {ps : List Pt} {t s : Rat}, (∀ p ∈ ps, POk p) → t ≤ s → SQ ps t ≤ SQ ps s
  | [], t, s, _, _ => Rat.le_refl
  | p :: ps, t, s, ok, h => by
    have a := v_mono (ok p List.mem_cons_self) h
    have b := S_mono (fun q hq => ok q (List.mem_cons_of_mem _ hq)) h
    unfold SQ
    grind
theorem S_eq : ∀ {ps : List Pt} {t s : Rat}, (∀ p ∈ ps, POk p) → t ≤ s → SQ ps t = SQ ps s → ∀ p ∈ ps, vQ p t = vQ p s
  | [], t, s, _, _, _, p, hp => by cases hp
  | q :: ps, t, s, ok, h, e, p, hp => by
    have a := v_mono (ok q List.mem_cons_self) h
    have b := S_mono (fun q hq => ok q (List.mem_cons_of_mem _ hq)) h
    have e : vQ q t + SQ ps t = vQ q s + SQ ps s := e
    rcases List.mem_cons.mp hp with rfl | hp
    · grind
    · exact S_eq (fun q hq => ok q (List.mem_cons_of_mem _ hq)) h (by grind) p hp
theorem ediv_same {a b m n : Int} (hm : 0 < m) (hn : 0 < n) (h : a * n = b * m) : a / m = b / n := by
  rw [← Int.mul_ediv_mul_of_pos_left a m hn, h, Int.mul_comm m n, Int.mul_ediv_mul_of_pos_left b n hm]
theorem wholes_same {m n : Int} (hm : 0 < m) (hn : 0 < n) : ∀ {ts us : List Int} {a b : Int}, a * n = b * m → ts.map (· * n) = us.map (· * m) → wholesI m a ts = wholesI n b us
  | [], [], _, _, _, _ => rfl
  | [], _ :: _, _, _, _, h => by cases h
  | _ :: _, [], _, _, _, h => by cases h
  | t :: ts, u :: us, a, b, e, h => by
    rw [List.map_cons, List.map_cons] at h
    injection h with h1 h2
    have e2 : (a + t) * n = (b + u) * m := by rw [Int.add_mul, Int.add_mul, e, h1]
    show ((a + t) / m - a / m) :: wholesI m (a + t) ts = ((b + u) / n - b / n) :: wholesI n (b + u) us
    rw [ediv_same hm hn e2, ediv_same hm hn e, wholes_same hm hn e2 h2]
theorem tops_same {ps : List Pt} {r q : Int × Int} (h1 : 0 < r.2) (h2 : 0 < q.2) (h : ∀ p ∈ ps, vQ p (rat r) = vQ p (rat q)) : (topsI ps r).map (· * q.2) = (topsI ps q).map (· * r.2) := by
  unfold topsI
  rw [List.map_map, List.map_map]
  refine List.map_congr_left fun p hp => ?_
  show topI p r.1 r.2 * q.2 = topI p q.1 q.2 * r.2
  have a := top_v (p := p) h1
  have b := top_v (p := p) h2
  refine Rat.intCast_inj.mp ?_
  rw [Rat.intCast_mul, Rat.intCast_mul, a, b, h p hp]
  grind
theorem sizes_uniq {ps : List Pt} {r q : Int × Int} (ok : ∀ p ∈ ps, POk p) (h1 : 0 < r.2) (h2 : 0 < q.2) (e : SQ ps (rat r) = SQ ps (rat q)) : wholesI r.2 0 (topsI ps r) = wholesI q.2 0 (topsI ps q) := by
  refine wholes_same h1 h2 (by omega) (tops_same h1 h2 fun p hp => ?_)
  by_cases z : rat r ≤ rat q
  · exact S_eq ok z e p hp
  · exact (S_eq ok (by grind) e.symm p hp).symm
theorem wholes_mul {low : Int} (h : 0 < low) : ∀ {ms : List Int} {a : Int}, wholesI low (a * low) (ms.map (· * low)) = ms
  | [], _ => rfl
  | m :: ms, a => by
    show ((a * low + m * low) / low - (a * low) / low) :: wholesI low (a * low + m * low) (ms.map (· * low)) = m :: ms
    rw [← Int.add_mul, Int.mul_ediv_cancel _ (by omega), Int.mul_ediv_cancel _ (by omega), wholes_mul h]
    congr 1
    omega
/-! ### the law's own sharing -/
def kOf (p : Pt) : Option Int → List (Int × Int)
  | some x => if 0 < p.w then [(x - p.b, p.w)] else []
  | none => []
def kAll : List Pt → List (Int × Int)
  | [] => []
  | p :: ps => kOf p p.lo ++ kOf p p.hi ++ kAll ps
theorem kOf_mem {p : Pt} {o : Option Int} {k : Int × Int} (h : k ∈ kOf p o) : ∃ x, o = some x ∧ 0 < p.w ∧ k = (x - p.b, p.w) := by
  cases o with
  | none => cases h
  | some x =>
    unfold kOf at h
    dsimp only at h
    split at h
    · rename_i e
      exact ⟨x, rfl, e, List.mem_singleton.mp h⟩
    · cases h
theorem kAll_mem {k : Int × Int} : ∀ {ps : List Pt}, k ∈ kAll ps → ∃ p ∈ ps, ∃ x, Bd p x ∧ 0 < p.w ∧ k = (x - p.b, p.w)
  | [], h => by cases h
  | p :: ps, h => by
    rcases List.mem_append.mp h with h | h
    · rcases List.mem_append.mp h with h | h
      · obtain ⟨x, e, r⟩ := kOf_mem h
        exact ⟨p, List.mem_cons_self, x, .inl e, r⟩
      · obtain ⟨x, e, r⟩ := kOf_mem h
        exact ⟨p, List.mem_cons_self, x, .inr e, r⟩
    · obtain ⟨q, hq, r⟩ := kAll_mem h
      exact ⟨q, List.mem_cons_of_mem _ hq, r⟩
theorem mem_kAll {p : Pt} {x : Int} (hb : Bd p x) (hw : 0 < p.w) : ∀ {ps : List Pt}, p ∈ ps → (x - p.b, p.w) ∈ kAll ps
  | [], h => by cases h
  | q :: ps, h => by
    rcases List.mem_cons.mp h with rfl | h
    · refine List.mem_append_left _ ?_
      rcases hb with e | e
      · refine List.mem_append_left _ ?_
        rw [e]
        show _ ∈ (if 0 < p.w then [(x - p.b, p.w)] else [])
        rw [if_pos hw]
        exact List.mem_cons_self
      · refine List.mem_append_right _ ?_
        rw [e]
        show _ ∈ (if 0 < p.w then [(x - p.b, p.w)] else [])
        rw [if_pos hw]
        exact List.mem_cons_self
    · exact List.mem_append_right _ (mem_kAll hb hw h)
/-- the first of the list behind t -/
theorem next_of {ks : List (Int × Int)} {t : Rat} {k : Int × Int} (hk : k ∈ ks) (h : t < rat k) : ∃ m ∈ ks, t < rat m ∧ rat m ≤ rat k ∧ ∀ q ∈ ks, rat q ≤ t ∨ rat m ≤ rat q := by
  let l := (ks.map rat).filter fun x => decide (t < x)
  have hm : rat k ∈ l := List.mem_filter.mpr ⟨List.mem_map.mpr ⟨k, hk, rfl⟩, decide_eq_true h⟩
  obtain ⟨m, m1, m2⟩ := min_of (l := l) (List.ne_nil_of_mem hm)
  obtain ⟨m3, m4⟩ := List.mem_filter.mp m1
  obtain ⟨q, q1, rfl⟩ := List.mem_map.mp m3
  refine ⟨q, q1, of_decide_eq_true m4, m2 _ hm, fun x hx => ?_⟩
  by_cases z : t < rat x
  · exact .inr (m2 _ (List.mem_filter.mpr ⟨List.mem_map.mpr ⟨x, hx, rfl⟩, decide_eq_true z⟩))
  · exact .inl (Rat.not_lt.mp z)
/-- no bound at all between -/
def NoB (p : Pt) (t s : Rat) : Prop := 0 < p.w → ∀ x, Bd p x → (x : Rat) ≤ at_ p t ∨ at_ p s ≤ x
theorem flat_one' {p : Pt} (ok : POk p) {t s : Rat} (hs : t ≤ s) (nk : NoB p t s) : (Mov p t → vQ p s = vQ p t + (p.w : Rat) * (s - t)) ∧ (¬ Mov p t → vQ p s = vQ p t) := by
  have hm := at_mono ok.w0 hs
  have hd : at_ p s = at_ p t + (p.w : Rat) * (s - t) := by unfold at_; grind
  have hw0 : p.w = 0 ∨ 0 < p.w := by have := ok.w0; omega
  have hle : ∀ l h, p.lo = some l → p.hi = some h → (l : Rat) ≤ (h : Rat) := fun l h a b => by exact_mod_cast ok.le l h a b
  rcases hw0 with hw | hw
  · have hz : at_ p s = at_ p t := by rw [hd, hw]; grind
    have hv : vQ p s = vQ p t := by unfold vQ; rw [hz]
    refine ⟨fun _ => ?_, fun _ => hv⟩
    rw [hv, hw]
    grind
  · have kn := nk hw
    constructor
    · rintro ⟨m1, m2⟩
      unfold vQ cutQ
      cases el : p.lo with
      | none =>
        cases eh : p.hi with
        | none => exact hd
        | some h =>
          have a := m2 h eh
          have b := kn h (.inr eh)
          dsimp only
          grind
      | some l =>
        have c := m1 l el
        cases eh : p.hi with
        | none =>
          dsimp only
          grind
        | some h =>
          have a := m2 h eh
          have b := kn h (.inr eh)
          dsimp only
          grind
    · intro nm
      unfold vQ cutQ
      cases el : p.lo with
      | none =>
        cases eh : p.hi with
        | none => exact (nm ⟨fun l z => (by rw [el] at z; cases z), fun l z => (by rw [eh] at z; cases z)⟩).elim
        | some h =>
          have a : (h : Rat) ≤ at_ p t := by
            refine Rat.not_lt.mp fun z => nm ⟨fun l y => (by rw [el] at y; cases y), fun h' y => ?_⟩
            rw [eh] at y; cases y; exact z
          dsimp only
          grind
      | some l =>
        have b := kn l (.inl el)
        cases eh : p.hi with
        | none =>
          have a : at_ p t < l := by
            refine Rat.not_le.mp fun z => nm ⟨fun l' y => ?_, fun h' y => (by rw [eh] at y; cases y)⟩
            rw [el] at y; cases y; exact z
          dsimp only
          grind
        | some h =>
          have lh := hle l h el eh
          have a : at_ p t < l ∨ (h : Rat) ≤ at_ p t := by
            by_cases z : at_ p t < l
            · exact .inl z
            · right
              refine Rat.not_lt.mp fun y => nm ⟨fun l' y' => ?_, fun h' y' => ?_⟩
              · rw [el] at y'; cases y'; exact Rat.not_lt.mp z
              · rw [eh] at y'; cases y'; exact y
          dsimp only
          grind
theorem flat_sum' : ∀ {ps : List Pt} {t s : Rat}, (∀ p ∈ ps, POk p) → t ≤ s → (∀ p ∈ ps, NoB p t s) → SQ ps s = SQ ps t + gQ ps t * (s - t)
  | [], t, s, _, _, _ => by unfold SQ gQ; grind
  | p :: ps, t, s, ok, hs, nk => by
    have h1 := flat_one' (ok p List.mem_cons_self) hs (nk p List.mem_cons_self)
    have h2 := flat_sum' (fun q hq => ok q (List.mem_cons_of_mem _ hq)) hs (fun q hq => nk q (List.mem_cons_of_mem _ hq))
    unfold SQ gQ
    by_cases m : Mov p t
    · rw [if_pos m, h1.1 m, h2]
      grind
    · rw [if_neg m, h1.2 m, h2]
      grind
theorem noB_of {ps : List Pt} {t s : Rat} (h : ∀ k ∈ kAll ps, rat k ≤ t ∨ s ≤ rat k) : ∀ p ∈ ps, NoB p t s := fun p hp hw x hb => by
  rcases h _ (mem_kAll hb hw hp) with z | z
  · exact .inl ((knot_le hw).mp z)
  · exact .inr ((le_knot hw).mp z)

end PL.K57

set_option Elab.async false
set_option linter.all false
set_option autoImplicit false
set_option maxRecDepth 100000
set_option maxHeartbeats 1000000
namespace PL.K57
open PySem PySem.Spec PyProof.Rows L2
local macro_rules | `(tactic| walk_at "y") => `(tactic| conv => whnf)
/-! ### the best knot -/
def lsNew (k : Int × Int) : Option (Int × Int) → Prop
  | none => True
  | some t => t.1 * k.2 < k.1 * t.2
instance (k : Int × Int) (b : Option (Int × Int)) : Decidable (lsNew k b) := match b with
  | none => .isTrue trivial
  | some t => inferInstanceAs (Decidable (t.1 * k.2 < k.1 * t.2))
def lsStep (ps : List Pt) (room : Int) (b : Option (Int × Int)) (k : Int × Int) : Option (Int × Int) := if lsNew k b ∧ sumI ps k.1 k.2 ≤ room * k.2 then some k else b
def lsBest (ps : List Pt) (room : Int) : Option (Int × Int) := (kAll ps).foldl (lsStep ps room) none
def lsEnd (ps : List Pt) (room : Int) (t : Int × Int) : Int × Int := match decide (0 < gainI t.1 t.2 ps) with
  | true => (t.1 * gainI t.1 t.2 ps + (room * t.2 - sumI ps t.1 t.2), t.2 * gainI t.1 t.2 ps)
  | false => t
def lawShare (ps : List Pt) (room : Int) : List Int := match lsBest ps room with
  | none => ps.map leastI
  | some t => wholesI (lsEnd ps room t).2 0 (topsI ps (lsEnd ps room t))
theorem ls_test {ps : List Pt} {room : Int} {k : Int × Int} (h : 0 < k.2) : sumI ps k.1 k.2 ≤ room * k.2 ↔ SQ ps (rat k) ≤ (room : Rat) := low_le_q (pos_q h) (sum_v h) cast_mul_r
def BestOk (ps : List Pt) (room : Int) (seen : List (Int × Int)) : Option (Int × Int) → Prop
  | none => ∀ k ∈ seen, (room : Rat) < SQ ps (rat k)
  | some t => 0 < t.2 ∧ SQ ps (rat t) ≤ (room : Rat) ∧ t ∈ seen ∧ ∀ k ∈ seen, rat k ≤ rat t ∨ (room : Rat) < SQ ps (rat k)
theorem ls_fold {ps : List Pt} {room : Int} : ∀ {ks seen : List (Int × Int)} {b : Option (Int × Int)}, (∀ k ∈ ks, 0 < k.2) → BestOk ps room seen b → BestOk ps room (seen ++ ks) (ks.foldl (lsStep ps room) b)
  | [], seen, b, _, h => by rw [List.append_nil]; exact h
  | k :: ks, seen, b, hk, h => by
    have k0 := hk k List.mem_cons_self
    have e : seen ++ k :: ks = (seen ++ [k]) ++ ks := by simp
    rw [e]
    refine ls_fold (fun q hq => hk q (List.mem_cons_of_mem _ hq)) ?_
    have t0 := ls_test (ps := ps) (room := room) k0
    unfold lsStep
    cases b with
    | none =>
      by_cases z : sumI ps k.1 k.2 ≤ room * k.2
      · rw [if_pos ⟨trivial, z⟩]
        refine ⟨k0, t0.mp z, by simp, fun q hq => ?_⟩
        rcases List.mem_append.mp hq with hq | hq
        · exact .inr (h q hq)
        · rw [List.mem_singleton.mp hq]
          exact .inl Rat.le_refl
      · rw [if_neg fun y => z y.2]
        intro q hq
        rcases List.mem_append.mp hq with hq | hq
        · exact h q hq
        · rw [List.mem_singleton.mp hq]
          exact Rat.not_le.mp fun y => z (t0.mpr y)
    | some t =>
      obtain ⟨h1, h2, h3, h4⟩ := h
      show BestOk ps room (seen ++ [k]) (if t.1 * k.2 < k.1 * t.2 ∧ sumI ps k.1 k.2 ≤ room * k.2 then some k else some t)
      by_cases z : t.1 * k.2 < k.1 * t.2 ∧ sumI ps k.1 k.2 ≤ room * k.2
      · rw [if_pos z]
        have lt := (rat_lt h1 k0).mpr z.1
        refine ⟨k0, t0.mp z.2, by simp, fun q hq => ?_⟩
        rcases List.mem_append.mp hq with hq | hq
        · rcases h4 q hq with y | y
          · left; grind
          · exact .inr y
        · rw [List.mem_singleton.mp hq]
          exact .inl Rat.le_refl
      · rw [if_neg z]
        refine ⟨h1, h2, List.mem_append_left _ h3, fun q hq => ?_⟩
        rcases List.mem_append.mp hq with hq | hq
        · exact h4 q hq
        · rw [List.mem_singleton.mp hq]
          by_cases y : t.1 * k.2 < k.1 * t.2
          · right
            exact Rat.not_le.mp fun w => z ⟨y, t0.mpr w⟩
          · left
            exact Rat.not_lt.mp fun w => y ((rat_lt h1 k0).mp w)
theorem kAll_pos {ps : List Pt} : ∀ k ∈ kAll ps, 0 < k.2 := fun k hk => by
  obtain ⟨p, _, x, _, hw, rfl⟩ := kAll_mem hk
  exact hw
theorem ls_ok (ps : List Pt) (room : Int) : BestOk ps room (kAll ps) (lsBest ps room) := by
  have := ls_fold (ps := ps) (room := room) (ks := kAll ps) (seen := []) (b := none) kAll_pos (fun k hk => by cases hk)
  rw [List.nil_append] at this
  exact this
/-- what the law's sharing is -/
def ShareOk (ps : List Pt) (room : Int) (L : List Int) : Prop :=
  (L = ps.map leastI ∧ room < leasts ps) ∨ (room ≥ mosts ps ∧ (∀ p ∈ ps, ∃ m, mostO p = some m) ∧ L = ps.map fun p => (mostO p).getD 0) ∨ ∃ r : Int × Int, 0 < r.2 ∧ SQ ps (rat r) = (room : Rat) ∧ L = wholesI r.2 0 (topsI ps r)
theorem all_least {ps : List Pt} {t : Rat} (ok : ∀ p ∈ ps, POk p ∧ ∃ l, p.lo = some l) (h : ∀ p ∈ ps, 0 < p.w → ∀ l, p.lo = some l → at_ p t ≤ (l : Rat)) : SQ ps t = (leasts ps : Rat) := S_at_least fun p hp => ⟨ok p hp, fun hw => by
  obtain ⟨_, l, el⟩ := ok p hp
  refine ⟨-l, by rw [el]; rfl, ?_⟩
  have := h p hp hw l el
  rw [Rat.intCast_neg]
  grind⟩
theorem tops_most {p : Pt} {r : Int × Int} (ok : POk p) (h1 : 0 < r.2) (h : 0 < p.w → ∃ x, p.hi = some x ∧ (x : Rat) ≤ at_ p (rat r)) : topI p r.1 r.2 = (mostO p).getD 0 * r.2 := by
  have a := top_v (p := p) h1
  refine Rat.intCast_inj.mp ?_
  rw [a, Rat.intCast_mul]
  unfold mostO
  by_cases z : 0 < p.w
  · obtain ⟨x, e, y⟩ := h z
    rw [if_pos z, e]
    have : vQ p (rat r) = (x : Rat) := by
      unfold vQ cutQ
      rw [e]
      cases el : p.lo with
      | none => dsimp only; grind
      | some l =>
        have lh : (l : Rat) ≤ (x : Rat) := Rat.intCast_le_intCast.mpr (ok.le l x el e)
        dsimp only; grind
    rw [this]
    dsimp only [Option.getD]
    grind
  · rw [if_neg z, v_flat z ok]
    dsimp only [Option.getD]
    grind
theorem share_spec {ps : List Pt} {room : Int} (ok : ∀ p ∈ ps, POk p ∧ ∃ l, p.lo = some l) : ShareOk ps room (lawShare ps room) := by
  have B := ls_ok ps room
  have pok : ∀ p ∈ ps, POk p := fun p hp => (ok p hp).1
  unfold lawShare
  cases e : lsBest ps room with
  | none =>
    rw [e] at B
    dsimp only
    by_cases hk : kAll ps = []
    · -- no weight at all
      have hw : ∀ p ∈ ps, ¬ 0 < p.w := fun p hp z => by
        obtain ⟨_, l, el⟩ := ok p hp
        have := mem_kAll (.inl el) z hp
        rw [hk] at this
        cases this
      have el : SQ ps (rat (0, 1)) = (leasts ps : Rat) := all_least ok fun p hp z => (hw p hp z).elim
      have em := S_at_most (ps := ps) (t := rat (0, 1)) fun p hp => ⟨pok p hp, fun z => (hw p hp z).elim⟩
      have lm : leasts ps = mosts ps := Rat.intCast_inj.mp (by rw [← el, em.1])
      have lmap : ps.map leastI = ps.map fun p => (mostO p).getD 0 := List.map_congr_left fun p hp => by
        unfold leastI mostO
        rw [if_neg (hw p hp), if_neg (hw p hp)]
        rfl
      by_cases h1 : room < leasts ps
      · exact .inl ⟨rfl, h1⟩
      · exact .inr (.inl ⟨by omega, em.2, lmap⟩)
    · obtain ⟨m, m1, m2⟩ := min_of (l := (kAll ps).map rat) (by simpa using hk)
      obtain ⟨k, hk, rfl⟩ := List.mem_map.mp m1
      have el : SQ ps (rat k) = (leasts ps : Rat) := all_least ok fun p hp hw l el => by
        have := m2 _ (List.mem_map.mpr ⟨_, mem_kAll (.inl el) hw hp, rfl⟩)
        exact (le_knot hw).mp this
      have := B k hk
      rw [el] at this
      exact .inl ⟨rfl, Rat.intCast_lt_intCast.mp this⟩
  | some t =>
    rw [e] at B
    obtain ⟨t1, t2, t3, t4⟩ := B
    dsimp only
    have gn := gain_nonneg pok t.1 t.2
    have gq := gain_q (ps := ps) t1
    unfold lsEnd
    cases g : decide (0 < gainI t.1 t.2 ps) with
    | true =>
      have g0 := of_decide_eq_true g
      dsimp only
      refine .inr (.inr ⟨(t.1 * gainI t.1 t.2 ps + (room * t.2 - sumI ps t.1 t.2), t.2 * gainI t.1 t.2 ps), Int.mul_pos t1 g0, ?_, rfl⟩)
      have hd : 0 < t.2 * gainI t.1 t.2 ps := Int.mul_pos t1 g0
      have rm := rat_mul t1
      have sq := sum_v (ps := ps) t1
      have lr := rat_mul (k := (t.1 * gainI t.1 t.2 ps + (room * t.2 - sumI ps t.1 t.2), t.2 * gainI t.1 t.2 ps)) hd
      dsimp only at lr
      generalize rat (t.1 * gainI t.1 t.2 ps + (room * t.2 - sumI ps t.1 t.2), t.2 * gainI t.1 t.2 ps) = r at lr
      have tp := pos_q t1
      have gp := pos_q g0
      rw [Rat.intCast_mul, Rat.intCast_add, Rat.intCast_mul, Rat.intCast_sub, Rat.intCast_mul, gq, sq, ← rm] at lr
      rw [gq] at gp
      have eq1 : gQ ps (rat t) * (r - rat t) = (room : Rat) - SQ ps (rat t) := by
        have tp' : (t.2 : Rat) ≠ 0 := by grind
        have : (t.2 : Rat) * (gQ ps (rat t) * (r - rat t) - ((room : Rat) - SQ ps (rat t))) = 0 := by grind
        rcases Rat.mul_eq_zero.mp this with z | z
        · exact (tp' z).elim
        · grind
      have le : rat t ≤ r := by
        refine Rat.not_lt.mp fun z => ?_
        have := Rat.mul_lt_mul_of_pos_left z gp
        grind
      have nb : ∀ k ∈ kAll ps, rat k ≤ rat t ∨ r ≤ rat k := fun k hk => by
        by_cases z : rat t < rat k
        · right
          refine Rat.not_lt.mp fun y => ?_
          obtain ⟨m, m1, m2, m3, m4⟩ := next_of hk z
          have f := flat_sum' pok (Rat.le_of_lt m2) (noB_of m4)
          have := Rat.mul_lt_mul_of_pos_left (show rat m < r by grind) gp
          rcases t4 m m1 with w | w
          · grind
          · grind
        · exact .inl (Rat.not_lt.mp z)
      have f := flat_sum' pok le (noB_of nb)
      grind
    | false =>
      have g0 : gainI t.1 t.2 ps = 0 := by have := of_decide_eq_false g; omega
      have gz : gQ ps (rat t) = 0 := by rw [← gq, g0]; rfl
      dsimp only
      have nk : ∀ k ∈ kAll ps, rat k ≤ rat t := fun k hk => by
        refine Rat.not_lt.mp fun z => ?_
        obtain ⟨m, m1, m2, m3, m4⟩ := next_of hk z
        have f := flat_sum' pok (Rat.le_of_lt m2) (noB_of m4)
        rcases t4 m m1 with w | w
        · grind
        · rw [gz] at f
          grind
      have at_hi : ∀ p ∈ ps, 0 < p.w → ∃ h, p.hi = some h ∧ (h : Rat) ≤ at_ p (rat t) := fun p hp hw => by
        have st := gain_zero pok g0 p hp hw
        have nm : ¬ Mov p (rat t) := fun z => by rw [(stat_mov t1).mpr z] at st; cases st
        have lb : ∀ l, p.lo = some l → (l : Rat) ≤ at_ p (rat t) := fun l hl => (knot_le hw).mp (nk _ (mem_kAll (.inl hl) hw hp))
        cases eh : p.hi with
        | none => exact (nm ⟨lb, fun h z => by rw [eh] at z; cases z⟩).elim
        | some h => exact ⟨h, rfl, (knot_le hw).mp (nk _ (mem_kAll (.inr eh) hw hp))⟩
      have em := S_at_most (ps := ps) (t := rat t) fun p hp => ⟨pok p hp, at_hi p hp⟩
      refine .inr (.inl ⟨?_, em.2, ?_⟩)
      · rw [em.1] at t2
        exact Rat.intCast_le_intCast.mp t2
      · have et : topsI ps t = (ps.map fun p => (mostO p).getD 0).map (· * t.2) := by
          unfold topsI
          rw [List.map_map]
          exact List.map_congr_left fun p hp => tops_most (pok p hp) t1 (at_hi p hp)
        have := wholes_mul t1 (ms := ps.map fun p => (mostO p).getD 0) (a := 0)
        rw [Int.zero_mul] at this
        rw [et, this]

end PL.K57

set_option Elab.async false
set_option linter.all false
set_option autoImplicit false
set_option maxRecDepth 100000
set_option maxHeartbeats 1000000
namespace PL.K57
open PySem PySem.Spec PyProof.Rows L2
local macro_rules | `(tactic| walk_at "y") => `(tactic| conv => whnf)
/-! ### the two sharings give the same sizes -/
theorem least_ints' (ps : List Pt) : (ps.map fun p => D.int (leastI p)) = (ps.map leastI).map D.int := by rw [List.map_map]; rfl
theorem most_ints' : ∀ {ps : List Pt}, (∀ p ∈ ps, ∃ m, mostO p = some m) → (ps.map fun p => optD (mostO p)) = (ps.map fun p => (mostO p).getD 0).map D.int
  | [], _ => rfl
  | p :: ps, h => by
    obtain ⟨m, e⟩ := h p List.mem_cons_self
    have := most_ints' fun q hq => h q (List.mem_cons_of_mem _ hq)
    rw [List.map_cons, this, e, List.map_cons, List.map_cons, e]
    rfl
theorem v_all_most : ∀ {ps : List Pt} {t : Rat}, (∀ p ∈ ps, POk p ∧ ∃ m, mostO p = some m) → (mosts ps : Rat) ≤ SQ ps t → ∀ p ∈ ps, ∃ m, mostO p = some m ∧ vQ p t = (m : Rat)
  | [], t, _, _, p, hp => by cases hp
  | q :: ps, t, ok, h, p, hp => by
    obtain ⟨k, m, em⟩ := ok q List.mem_cons_self
    have h1 := v_most k t em
    have h2 := S_most t fun p hp => ok p (List.mem_cons_of_mem _ hp)
    have e : (mosts (q :: ps) : Rat) = (m : Rat) + (mosts ps : Rat) := by
      show (((mostO q).getD 0 + mosts ps : Int) : Rat) = _
      rw [Rat.intCast_add, em]
      rfl
    have e2 : SQ (q :: ps) t = vQ q t + SQ ps t := rfl
    rw [e, e2] at h
    rcases List.mem_cons.mp hp with rfl | hp
    · exact ⟨m, em, by grind⟩
    · exact v_all_most (fun p hp => ok p (List.mem_cons_of_mem _ hp)) (by grind) p hp
theorem share_same {ps : List Pt} {room : Int} (ok : ∀ p ∈ ps, POk p ∧ ∃ l, p.lo = some l) : sizesD ps room (ratioI ps room) = (lawShare ps room).map D.int := by
  have R := ratio_spec (room := room) ok
  have L := share_spec (room := room) ok
  have pok : ∀ p ∈ ps, POk p := fun p hp => (ok p hp).1
  have z := sum_zero ps
  have l0 := S_least 0 ok
  generalize ratioI ps room = r at R
  generalize lawShare ps room = S at L
  have c3 : ∀ (q : Int × Int), SQ ps (rat q) = (room : Rat) → leasts ps ≤ room ∧ ((∀ p ∈ ps, ∃ m, mostO p = some m) → room ≤ mosts ps) := fun q e => by
    refine ⟨?_, fun hm => ?_⟩
    · have := S_least (rat q) ok
      rw [e] at this
      exact Rat.intCast_le_intCast.mp this
    · have := S_most (rat q) fun p hp => ⟨pok p hp, hm p hp⟩
      rw [e] at this
      exact Rat.intCast_le_intCast.mp this
  have lm : (∀ p ∈ ps, ∃ m, mostO p = some m) → leasts ps ≤ mosts ps := fun hm => by
    have a := S_most 0 fun p hp => ⟨pok p hp, hm p hp⟩
    exact Rat.intCast_le_intCast.mp (by grind)
  cases r with
  | none =>
    show endsD ps room = _
    unfold endsD
    rcases R with ⟨r1, r2, r3, r4⟩ | ⟨r1, r2⟩
    · rw [decide_eq_true r1]
      dsimp only
      rw [most_ints' r4]
      rcases L with ⟨_, h⟩ | ⟨_, _, rfl⟩ | ⟨q, _, e, _⟩
      · omega
      · rfl
      · have := (c3 q e).2 r4
        omega
    · rw [decide_eq_false r1]
      dsimp only
      rw [least_ints']
      rcases L with ⟨rfl, _⟩ | ⟨h, hm, _⟩ | ⟨q, _, e, _⟩
      · rfl
      · have := lm hm
        omega
      · have := (c3 q e).1
        omega
  | some q =>
    have g : Good ps room q := R
    show (wholesI q.2 0 (topsI ps q)).map D.int = _
    have sq : SQ ps (rat q) = (room : Rat) := by
      have a := sum_v (ps := ps) g.low
      rw [g.sum, Rat.intCast_mul] at a
      have tp := pos_q g.low
      have : (q.2 : Rat) * (SQ ps (rat q) - (room : Rat)) = 0 := by grind
      rcases Rat.mul_eq_zero.mp this with y | y
      · grind
      · grind
    rcases L with ⟨_, h⟩ | ⟨h, hm, rfl⟩ | ⟨q', h1, e, rfl⟩
    · have := g.least
      omega
    · have er : room = mosts ps := by have := g.most hm; omega
      have va := v_all_most (ps := ps) (t := rat q) (fun p hp => ⟨pok p hp, hm p hp⟩) (by rw [sq, er]; exact Rat.le_refl)
      have et : topsI ps q = (ps.map fun p => (mostO p).getD 0).map (· * q.2) := by
        unfold topsI
        rw [List.map_map]
        refine List.map_congr_left fun p hp => ?_
        obtain ⟨m, em, ev⟩ := va p hp
        show topI p q.1 q.2 = (mostO p).getD 0 * q.2
        refine Rat.intCast_inj.mp ?_
        rw [top_v g.low, ev, Rat.intCast_mul, em]
        dsimp only [Option.getD]
        grind
      have := wholes_mul g.low (ms := ps.map fun p => (mostO p).getD 0) (a := 0)
      rw [Int.zero_mul] at this
      rw [et, this]
    · rw [sizes_uniq pok g.low h1 (by rw [sq, e])]
structure InF (ps : List Pt) (room : Int) : Prop where
  i : In ps
  f : ∀ p ∈ ps, Full p
  r : Bn 110 room
def shareD (ps : List Pt) (room : Int) : D := .lst ((lawShare ps room).map D.int)

end PL.K57

set_option Elab.async false
set_option linter.all false
set_option autoImplicit false
set_option maxRecDepth 100000
set_option maxHeartbeats 1000000
namespace PL.K57
open PySem PySem.Spec PyProof.Rows L2
local macro_rules | `(tactic| walk_at "y") => `(tactic| conv => whnf)
/-! ### _law_share -/
theorem EvT.leA {r1 r2 : PTE} {ε : PEnv} {x y : Int} (h1 : Ev r1 ε (.int x)) (h2 : Ev r2 ε (.int y)) : EvT (yBinT oLeA r1 r2) ε (decide (x ≤ y)) := fun Q q => by
  have e : oLeA (.int x) (.int y) (asB fun b => Q b ε) := q
  exact h1 _ (h2 _ e)
theorem kAll_snoc : ∀ {ps : List Pt} {p : Pt}, kAll (ps ++ [p]) = kAll ps ++ (kOf p p.lo ++ kOf p p.hi)
  | [], p => by
    show kOf p p.lo ++ kOf p p.hi ++ [] = [] ++ _
    rw [List.append_nil]; rfl
  | q :: ps, p => by
    show kOf q q.lo ++ kOf q q.hi ++ kAll (ps ++ [p]) = kOf q q.lo ++ kOf q q.hi ++ kAll ps ++ _
    rw [kAll_snoc, List.append_assoc (kOf q q.lo ++ kOf q q.hi)]
theorem kAll_b {ps : List Pt} (h : ∀ p ∈ ps, PB p) : ∀ k ∈ kAll ps, Bn 101 k.1 ∧ Bn 101 k.2 := fun k hk => by
  obtain ⟨p, hp, x, hx, _, rfl⟩ := kAll_mem hk
  have hp := h p hp
  refine ⟨Bn.sub ?_ hp.b, hp.w.mono (by omega)⟩
  rcases hx with e | e
  · exact hp.lo x e
  · exact hp.hi x e
def bIn (P : Int × Int → Prop) : Option (Int × Int) → Prop
  | none => True
  | some t => P t
theorem ls_in {ps : List Pt} {room : Int} {P : Int × Int → Prop} : ∀ {ks : List (Int × Int)} {b : Option (Int × Int)}, bIn P b → (∀ k ∈ ks, P k) → bIn P (ks.foldl (lsStep ps room) b)
  | [], b, h, _ => h
  | k :: ks, b, h, hk => by
    refine ls_in (ks := ks) ?_ fun q hq => hk q (List.mem_cons_of_mem _ hq)
    unfold lsStep
    split
    · exact hk k List.mem_cons_self
    · exact h
theorem gain_sum (top low : Int) : ∀ ps : List Pt, ((ps.filter fun p => gStat p top low).map (·.w)).sum = gainI top low ps
  | [] => rfl
  | p :: ps => by
    show _ = (if gStat p top low = true then p.w else 0) + gainI top low ps
    rw [List.filter_cons, ← gain_sum top low ps]
    cases gStat p top low
    · rw [if_neg (by decide), if_neg (by decide)]
      omega
    · rw [if_pos rfl, if_pos rfl, List.map_cons, List.sum_cons]
/-- [f(x) for x in xs if p(x)], told of things -/
theorem lc_listF {α : Type} {S : List α} {m f : α → D} {p : α → Bool} {g : PTG} {rt : PTT} {re : PTE} {vs : List Nat} {ε1 : PEnv} {Q : List D → PEnv → Prop}
    (st : ∀ x ∈ S, ∀ (K : D → Prop) (N : Prop), (p x = true → K (f x)) → (p x = false → N) → g (m x) (wipeE ε1 vs) fun ε2 => rt ε2 fun k ε3 => match k with
      | true => re ε3 fun t ε4 => out ε4 t fun y ε5 => wipeE ε5 vs = wipeE ε1 vs ∧ K y
      | false => wipeE ε3 vs = wipeE ε1 vs ∧ N) (fin : Q ((S.filter p).map f) ε1) : ∃ Wp : Nat → List D → Prop, Wp 0 [] ∧
  (∀ i d acc, i < (S.map m).length → (S.map m)[i]? = some d → acc.length ≤ i → Wp i acc → g d (wipeE ε1 vs) fun ε2 => rt ε2 fun k ε3 => match k with
    | true => re ε3 fun t ε4 => out ε4 t fun y ε5 => wipeE ε5 vs = wipeE ε1 vs ∧ Wp (i + 1) (acc ++ [y])
    | false => wipeE ε3 vs = wipeE ε1 vs ∧ Wp (i + 1) acc) ∧ ∀ acc, acc.length ≤ (S.map m).length → Wp (S.map m).length acc → Q acc ε1 := by
  refine ⟨fun i acc => acc = ((S.take i).filter p).map f, rfl, fun i d acc hi hd hl w => ?_, fun acc hl w => ?_⟩
  · rw [List.length_map] at hi
    rw [List.getElem?_map, List.getElem?_eq_getElem hi] at hd
    obtain rfl : m S[i] = d := Option.some.inj hd
    have ht : S.take (i + 1) = S.take i ++ [S[i]] := by rw [List.take_succ_eq_append_getElem hi]
    refine st S[i] (List.getElem_mem hi) (fun y => acc ++ [y] = ((S.take (i + 1)).filter p).map f) (acc = ((S.take (i + 1)).filter p).map f) (fun h => ?_) fun h => ?_
    · subst w
      rw [ht, List.filter_append, List.map_append]
      simp [h]
    · subst w
      rw [ht, List.filter_append, List.map_append]
      simp [h]
  · subst w
    rw [List.length_map, List.take_length]
    exact fin
theorem EvT.isP {r : PTE} {ε : PEnv} {o : Option (Int × Int)} {neg : Bool} (h : Ev r ε (ratD o)) : EvT (yBinT (oIsN neg) r (yC .non)) ε (match neg with
    | true => o.isSome
    | false => o.isNone) := fun Q q => h _ (by
  cases o <;> cases neg <;> exact q)
/-- [x, y][int(b)] -/
theorem ix2 {x y : D} {b : Bool} : atI [x, y] (if b = true then 1 else 0) = some (match b with
    | true => y
    | false => x) := by cases b <;> rfl
theorem least_d {p : Pt} {l : Int} (el : p.lo = some l) : D.int (leastI p) = (match decide (0 < p.w) with
    | true => .int l
    | false => .int (cutI p.b p.lo p.hi)) := by
  unfold leastI
  by_cases z : 0 < p.w
  · rw [if_pos z, decide_eq_true z, el]
    rfl
  · rw [if_neg z, decide_eq_false z]
theorem seq_in {r u : PTS} {Δ : PEnds} {ε : PEnv} (h : r { Δ with nx := fun ε' => u Δ ε' } ε) : ysSeq r u Δ ε := h
theorem kOf_b {p : Pt} {o : Option Int} (hp : PB p) (ho : ∀ x, o = some x → Bn 100 x) : ∀ k ∈ kOf p o, Bn 101 k.1 ∧ Bn 101 k.2 := fun k hk => by
  obtain ⟨x, e, _, rfl⟩ := kOf_mem hk
  exact ⟨(ho x e).sub hp.b, hp.w.mono (by omega)⟩
theorem lsEnd_b {ps : List Pt} {room : Int} {t : Int × Int} (hi : In ps) (hr : Bn 110 room) (h1 : Bn 101 t.1) (h2 : Bn 101 t.2) (h0 : 0 < t.2) : 0 < (lsEnd ps room t).2 ∧ Bn 250 (lsEnd ps room t).1 ∧ Bn 250 (lsEnd ps room t).2 := by
  have gb := gain_b (top := t.1) (low := t.2) hi.b hi.lt
  have sb := sum_b hi.b h1 h2 hi.lt
  have m := (hr.mul h2).mono (by decide : _ ≤ 212)
  unfold lsEnd
  cases z : decide (0 < gainI t.1 t.2 ps) with
  | true => exact ⟨Int.mul_pos h0 (of_decide_eq_true z), (((h1.mul gb).mono (by decide : _ ≤ 213)).add (m.sub sb)).mono (by decide), (h2.mul gb).mono (by decide)⟩
  | false => exact ⟨h0, h1.mono (by decide), h2.mono (by decide)⟩
def φ_law_share : Spec := fun ds Q _ => ∃ ps room, ds = [ptsD ps, .int room] ∧ InF ps room ∧ Q (shareD ps room)
abbrev N_law_share : List Str := ["parts", "room", "best", "base", "weight", "lo", "hi", "bound", "top", "low", "gain", "left"]
def r_law_share (Ξ : Xi) : PTS :=
  (ysSeq (ysAsg (yC .non) 2)
  (ysSeq (ysFor (yiSeq (yVar 0)) (gTupY 4 [(gN 3), (gN 4), (gN 5), (gN 6)])
  (ysFor (yiSeq (yNew (ynLst (ylCons (yVar 5) (ylCons (yVar 6) ylNil))))) (gN 7)
  (ysIf (yAnd (yBinT oGt (yVar 4) (yC (.int 0))) (yAnd (yBinT (oIsN true) (yVar 7) (yC .non)) (yOr (yBinT (oIsN false) (yVar 2) (yC .non)) (yBinT oGt (yBin oMulW (yBin oSub (yVar 7) (yVar 3)) (yIx (yVar 2) (yC (.int 1)))) (yBin oMulW (yIx (yVar 2) (yC (.int 0))) (yVar 4))))))
  (ysIf (yBinT oLeA (yCB oSum (ylCons (yCall φ_law_tops Ξ (ylCons (yVar 0) (ylCons (yBin oSub (yVar 7) (yVar 3)) (ylCons (yVar 4) ylNil)))) ylNil)) (yBin oMulW (yVar 1) (yVar 4)))
  (ysAsg (yTup (ylCons (yBin oSub (yVar 7) (yVar 3)) (ylCons (yVar 4) ylNil))) 2)
  ysNext)
  ysNext)))
  (ysSeq (ysIf (yBinT (oIsN false) (yVar 2) (yC .non))
  (ysRet (yNew (ynLc (yiSeq (yVar 0)) (gTupY 4 [(gN 3), (gN 4), (gN 5), (gN 6)]) yYes (yIx (yNew (ynLst (ylCons (yCall φ_law_cut Ξ0 (ylCons (yVar 3) (ylCons (yVar 5) (ylCons (yVar 6) ylNil)))) (ylCons (yVar 5) ylNil)))) (yCB oInt (ylCons (yBin oGt (yVar 4) (yC (.int 0))) ylNil))) [3, 4, 5, 6])))
  ysNext)
  (ysSeq (ysAsgG (yVar 2) (gTupY 2 [(gN 8), (gN 9)]))
  (ysSeq (ysAsg (yCB oSum (ylCons (yNew (ynLc (yiSeq (yVar 0)) (gTupY 4 [(gN 3), (gN 4), (gN 5), (gN 6)]) (yAnd (yBinT oGe (yBin oAdd (yBin oMulW (yVar 3) (yVar 9)) (yBin oMulW (yVar 4) (yVar 8))) (yBin oMulW (yVar 5) (yVar 9))) (yOr (yBinT (oIsN false) (yVar 6) (yC .non)) (yBinT oLt (yBin oAdd (yBin oMulW (yVar 3) (yVar 9)) (yBin oMulW (yVar 4) (yVar 8))) (yBin oMulW (yVar 6) (yVar 9))))) (yVar 4) [3, 4, 5, 6])) ylNil)) 10)
  (ysSeq (ysAsg (yBin oSub (yBin oMulW (yVar 1) (yVar 9)) (yCB oSum (ylCons (yCall φ_law_tops Ξ (ylCons (yVar 0) (ylCons (yVar 8) (ylCons (yVar 9) ylNil)))) ylNil))) 11)
  (ysSeq (ysIf (yBinT oGt (yVar 10) (yC (.int 0)))
  (ysAsgG (yTup (ylCons (yBin oAdd (yBin oMulW (yVar 8) (yVar 10)) (yVar 11)) (ylCons (yBin oMulW (yVar 9) (yVar 10)) ylNil))) (gTupY 2 [(gN 8), (gN 9)]))
  ysNext)
  (ysRet (yCall φ_law_wholes Ξ (ylCons (yCall φ_law_tops Ξ (ylCons (yVar 0) (ylCons (yVar 8) (ylCons (yVar 9) ylNil)))) (ylCons (yVar 9) ylNil)))))))))))
theorem vc_law_share (ds : List D) (Q' : D → Prop) (E' : Nat → Prop) (h : φ_law_share ds Q' E') : r_law_share (fun c _ => E' c) { nx := fun _ => Q' .non, rt := fun d _ => Q' d } (startE N_law_share ds) := by
  obtain ⟨ps, room, rfl, hi, h⟩ := h
  have hb : ∀ p ∈ ps, PB p ∧ Full p := fun p hp => ⟨hi.i.b p hp, hi.f p hp⟩
  have hl : (ps.map ptD).length ≤ 16777216 := by rw [List.length_map]; have := hi.i.n; omega
  let e (t : Option (Int × Int)) (a b c d f g k m n : Option S) : PEnv := [some (.v (ptsD ps)), some (.v (.int room)), some (.v (ratD t)), a, b, c, d, f, g, k, m, n]
  refine seq_step (e none none none none none none none none none none) (fun K k => k) ?_
  refine seq_post (fun ε => ∃ (a b c d : Option D) (f : Option S), ε = e (lsBest ps room) (a.map S.v) (b.map S.v) (c.map S.v) (d.map S.v) f none none none none) (fun K kk => for_list (S := ps) (m := ptD) (fun i ε => ∃ (a b c d : Option D) (f : Option S), ε = e ((kAll (ps.take i)).foldl (lsStep ps room) none) (a.map S.v) (b.map S.v) (c.map S.v) (d.map S.v) f none none none none) ⟨none, none, none, none, none, rfl⟩ (fun i hj ε w => ?_) fun ε w => ?_) ?_
  · obtain ⟨a, b, c, d, f, rfl⟩ := w
    have hp := hi.i.b ps[i] (List.getElem_mem hj)
    have h1 : (kAll (ps.take (i + 1))).foldl (lsStep ps room) none = (kOf ps[i] ps[i].lo ++ kOf ps[i] ps[i].hi).foldl (lsStep ps room) ((kAll (ps.take i)).foldl (lsStep ps room) none) := by
      rw [List.take_succ_eq_append_getElem hj, kAll_snoc, List.foldl_append]
    have tb : bIn (fun t => Bn 101 t.1 ∧ Bn 101 t.2) ((kAll (ps.take i)).foldl (lsStep ps room) none) := ls_in trivial (kAll_b fun p hp => hi.i.b p (List.mem_of_mem_take hp))
    rw [h1]
    generalize (kAll (ps.take i)).foldl (lsStep ps room) none = t at tb
    generalize ps[i] = p at hp
    refine gtup4 ?_
    let V (x : D) : Option S := some (.v x)
    have one : ∀ (o : Option Int) (t : Option (Int × Int)) (f : Option S) (K K2 : PEnv → Prop), (∀ x, o = some x → Bn 100 x) → bIn (fun t => Bn 101 t.1 ∧ Bn 101 t.2) t → (∀ f2, K (e ((kOf p o).foldl (lsStep ps room) t) (V (.int p.b)) (V (.int p.w)) (V (optD p.lo)) (V (optD p.hi)) f2 none none none none)) →
        gN 7 (optD o) (e t (V (.int p.b)) (V (.int p.w)) (V (optD p.lo)) (V (optD p.hi)) f none none none none) fun ε2 => (ysIf (yAnd (yBinT oGt (yVar 4) (yC (.int 0))) (yAnd (yBinT (oIsN true) (yVar 7) (yC .non)) (yOr (yBinT (oIsN false) (yVar 2) (yC .non)) (yBinT oGt (yBin oMulW (yBin oSub (yVar 7) (yVar 3)) (yIx (yVar 2) (yC (.int 1)))) (yBin oMulW (yIx (yVar 2) (yC (.int 0))) (yVar 4))))))
          (ysIf (yBinT oLeA (yCB oSum (ylCons (yCall φ_law_tops (fun c _ => E' c) (ylCons (yVar 0) (ylCons (yBin oSub (yVar 7) (yVar 3)) (ylCons (yVar 4) ylNil)))) ylNil)) (yBin oMulW (yVar 1) (yVar 4)))
          (ysAsg (yTup (ylCons (yBin oSub (yVar 7) (yVar 3)) (ylCons (yVar 4) ylNil))) 2)
          ysNext)
          ysNext) { nx := K, ct := K, bk := K2, rt := fun d _ => Q' d } ε2 := fun o t f K K2 ho ht k => by
      let ε1 : PEnv := e t (V (.int p.b)) (V (.int p.w)) (V (optD p.lo)) (V (optD p.hi)) (V (optD o)) none none none none
      show ysIf _ _ _ _ ε1
      cases z0 : decide (0 < p.w) with
      | false =>
        refine if_evT (b := false) (EvT.andX (a := decide (0 < p.w)) (EvT.int (Ev.var rfl) Ev.c) (fun _ => rfl) fun y => by rw [z0] at y; cases y) ?_
        have : kOf p o = [] := by
          cases o with
          | none => rfl
          | some x => exact if_neg (of_decide_eq_false z0)
        rw [this] at k
        exact k _
      | true =>
        have w0 := of_decide_eq_true z0
        cases o with
        | none =>
          refine if_evT (b := false) (EvT.andX (a := decide (0 < p.w)) (EvT.int (Ev.var rfl) Ev.c) (fun _ => rfl) fun _ => EvT.andN (o := none) rfl (fun _ => rfl) fun x z => by cases z) ?_
          exact k _
        | some x =>
          have xb := ho x rfl
          have kb : Bn 101 (x - p.b) := xb.sub hp.b
          have ek : kOf p (some x) = [(x - p.b, p.w)] := if_pos w0
          rw [ek] at k
          have k : ∀ f2, K (e (lsStep ps room t (x - p.b, p.w)) (V (.int p.b)) (V (.int p.w)) (V (optD p.lo)) (V (optD p.hi)) f2 none none none none) := k
          have tst : EvT (yOr (yBinT (oIsN false) (yVar 2) (yC .non)) (yBinT oGt (yBin oMulW (yBin oSub (yVar 7) (yVar 3)) (yIx (yVar 2) (yC (.int 1)))) (yBin oMulW (yIx (yVar 2) (yC (.int 0))) (yVar 4)))) ε1 (decide (lsNew (x - p.b, p.w) t)) := by
            cases t with
            | none =>
              refine EvT.orX (EvT.isP (o := none) (neg := false) (Ev.var rfl)) (fun _ => rfl) fun z => by cases z
            | some t =>
              obtain ⟨b1, b2⟩ := ht
              refine EvT.orX (EvT.isP (o := some t) (neg := false) (Ev.var rfl)) (fun z => by cases z) fun _ => ?_
              have i1 : Ev (yIx (yVar 2) (yC (.int 1))) ε1 (.int t.2) := fun Q q => q
              have i0 : Ev (yIx (yVar 2) (yC (.int 0))) ε1 (.int t.1) := fun Q q => q
              exact EvT.int (f := fun i j => decide (j < i)) (Ev.mulW (Ev.subI (Ev.var rfl) (Ev.var rfl)) i1 (wide_of kb b2)) (Ev.mulW i0 (Ev.var rfl) (wide_of b1 hp.w))
          refine if_evT (b := decide (lsNew (x - p.b, p.w) t)) (EvT.andX (a := decide (0 < p.w)) (EvT.int (Ev.var rfl) Ev.c) (fun y => by rw [z0] at y; cases y) fun _ => EvT.andN (o := some x) rfl (fun z => by cases z) fun _ _ => tst) ?_
          unfold lsStep at k
          cases z1 : decide (lsNew (x - p.b, p.w) t) with
          | false =>
            rw [if_neg fun y => of_decide_eq_false z1 y.1] at k
            exact k _
          | true =>
            have n1 := of_decide_eq_true z1
            have tev : Ev (yCB oSum (ylCons (yCall φ_law_tops (fun c _ => E' c) (ylCons (yVar 0) (ylCons (yBin oSub (yVar 7) (yVar 3)) (ylCons (yVar 4) ylNil)))) ylNil)) ε1 (.int (sumI ps (x - p.b) p.w)) := tops_ev (call_ev3 (Ev.var rfl) (Ev.subI (Ev.var rfl) (Ev.var rfl)) (Ev.var rfl) fun K E k => ⟨ps, x - p.b, p.w, rfl, hb, kb.mono (by decide), hp.w.mono (by decide), Int.le_of_lt w0, hi.i.n, k⟩)
            refine if_evT (ε := ε1) (b := decide (sumI ps (x - p.b) p.w ≤ room * p.w)) (EvT.leA tev (Ev.mulW (Ev.var rfl) (Ev.var rfl) (wide_of hi.r hp.w))) ?_
            cases z2 : decide (sumI ps (x - p.b) p.w ≤ room * p.w) with
            | true =>
              rw [if_pos ⟨n1, of_decide_eq_true z2⟩] at k
              exact k _
            | false =>
              rw [if_neg fun y => of_decide_eq_false z2 y.2] at k
              exact k _
    refine for_list (S := [p.lo, p.hi]) (m := optD) (fun j ε => ∃ f, ε = e ((match j with
      | 0 => []
      | 1 => kOf p p.lo
      | _ => kOf p p.lo ++ kOf p p.hi).foldl (lsStep ps room) t) (V (.int p.b)) (V (.int p.w)) (V (optD p.lo)) (V (optD p.hi)) f none none none none) ⟨f, rfl⟩ (fun j hj ε w => ?_) fun ε w => ?_
    · obtain ⟨f, rfl⟩ := w
      rcases j with _ | _ | j
      · exact one p.lo t f _ _ hp.lo tb fun f2 => ⟨f2, rfl⟩
      · refine one p.hi ((kOf p p.lo).foldl (lsStep ps room) t) f _ _ hp.hi (ls_in tb (kOf_b hp hp.lo)) fun f2 => ⟨f2, ?_⟩
        rw [← List.foldl_append]
        rfl
      · have : j + 1 + 1 < 2 := hj
        omega
    · obtain ⟨f, rfl⟩ := w
      exact ⟨some _, some _, some _, some _, _, rfl⟩
  · rw [List.take_length] at w
    exact kk ε w
  rintro _ ⟨a, b, c, d, f, rfl⟩
  have tb : bIn (fun t => 0 < t.2 ∧ Bn 101 t.1 ∧ Bn 101 t.2) (lsBest ps room) := ls_in trivial fun k hk => ⟨kAll_pos k hk, kAll_b hi.i.b k hk⟩
  unfold shareD lawShare at h
  generalize lsBest ps room = t at tb h
  cases t with
  | none =>
    refine seq_in (if_evT (b := true) (EvT.isP (o := none) (neg := false) (Ev.var rfl)) ?_)
    have h : Q' (.lst ((ps.map leastI).map D.int)) := h
    rw [← least_ints'] at h
    refine ⟨?_, hl, lc_list (S := ps) (m := ptD) (f := fun p => .int (leastI p)) (fun p hp K N k => ?_) h⟩
    · cases a <;> cases b <;> cases c <;> cases d <;> exact ⟨trivial, trivial, trivial, trivial, trivial⟩
    · obtain ⟨ok, l, el⟩ := hi.f p hp
      refine gtup4 ?_
      rw [least_d el] at k
      rw [el] at k
      rw [el]
      refine ⟨p.b, l, p.hi, rfl, _, lc_cut fun h e => ok.le l h el e, ?_⟩
      exact opt_of (ix2 (b := decide (0 < p.w))) ⟨rfl, k⟩
  | some t =>
    obtain ⟨t0, t1, t2⟩ := tb
    have gb := gain_b (top := t.1) (low := t.2) hi.i.b hi.i.lt
    have eb := lsEnd_b hi.i hi.r t1 t2 t0
    have h : Q' (.lst ((wholesI (lsEnd ps room t).2 0 (topsI ps (lsEnd ps room t))).map D.int)) := h
    let A := a.map S.v
    let B := b.map S.v
    let C := c.map S.v
    let G := d.map S.v
    refine seq_step (e (some t) A B C G f none none none none) (fun K k => if_evT (b := false) (EvT.isP (o := some t) (neg := false) (Ev.var rfl)) k) ?_
    refine seq_step (e (some t) A B C G f (some (.v (.int t.1))) (some (.v (.int t.2))) none none) (fun K k => gtup2 (d1 := .int t.1) (d2 := .int t.2) k) ?_
    let ε2 := e (some t) A B C G f (some (.v (.int t.1))) (some (.v (.int t.2))) none none
    have gev : Ev (yCB oSum (ylCons (yNew (ynLc (yiSeq (yVar 0)) (gTupY 4 [(gN 3), (gN 4), (gN 5), (gN 6)]) (yAnd (yBinT oGe (yBin oAdd (yBin oMulW (yVar 3) (yVar 9)) (yBin oMulW (yVar 4) (yVar 8))) (yBin oMulW (yVar 5) (yVar 9))) (yOr (yBinT (oIsN false) (yVar 6) (yC .non)) (yBinT oLt (yBin oAdd (yBin oMulW (yVar 3) (yVar 9)) (yBin oMulW (yVar 4) (yVar 8))) (yBin oMulW (yVar 6) (yVar 9))))) (yVar 4) [3, 4, 5, 6])) ylNil)) ε2 (.int (gainI t.1 t.2 ps)) := fun Q q => by
      refine ⟨?_, hl, lc_listF (S := ps) (m := ptD) (f := fun p => .int p.w) (p := fun p => gStat p t.1 t.2) (fun p hp K N k1 k2 => ?_) ?_⟩
      · cases a <;> cases b <;> cases c <;> cases d <;> exact ⟨trivial, trivial, trivial, trivial, trivial⟩
      · obtain ⟨hpb, ok, l, el⟩ := hb p hp
        refine gtup4 ?_
        have ev3 : ∀ {ε : PEnv}, ε[3]? = some (some (.v (.int p.b))) → ε[4]? = some (some (.v (.int p.w))) → ε[8]? = some (some (.v (.int t.1))) → ε[9]? = some (some (.v (.int t.2))) → Ev (yBin oAdd (yBin oMulW (yVar 3) (yVar 9)) (yBin oMulW (yVar 4) (yVar 8))) ε (.int (p.b * t.2 + p.w * t.1)) := fun h3 h4 h8 h9 => Ev.addI (Ev.mulW (Ev.var h3) (Ev.var h9) (wide_of hpb.b t2)) (Ev.mulW (Ev.var h4) (Ev.var h8) (wide_of hpb.w t1))
        refine (EvT.and (a := decide (l * t.2 ≤ p.b * t.2 + p.w * t.1)) (b := match p.hi with
          | some h => decide (p.b * t.2 + p.w * t.1 < h * t.2)
          | none => true) (EvT.int (ev3 rfl rfl rfl rfl) (Ev.mulW (var_o (o := p.lo) rfl el) (Ev.var rfl) (wide_of (hpb.lo l el) t2))) (EvT.orN (o := p.hi) rfl (fun z => by rw [z]) fun x z => ?_)) _ ?_
        · rw [z]
          exact EvT.int (ev3 rfl rfl rfl rfl) (Ev.mulW (var_o (o := some x) rfl rfl) (Ev.var rfl) (wide_of (hpb.hi x z) t2))
        · have eg : gStat p t.1 t.2 = (decide (l * t.2 ≤ p.b * t.2 + p.w * t.1) && (match p.hi with
            | some h => decide (p.b * t.2 + p.w * t.1 < h * t.2)
            | none => true)) := by
            unfold gStat
            first | (rw [el]; done) | (rw [el]; rfl)
          rw [← eg]
          cases z : gStat p t.1 t.2 with
          | true => exact ⟨rfl, k1 z⟩
          | false => exact ⟨rfl, k2 z⟩
      · have em : ((ps.filter fun p => gStat p t.1 t.2).map fun p => D.int p.w) = ((ps.filter fun p => gStat p t.1 t.2).map (·.w)).map D.int := by rw [List.map_map]; rfl
        rw [em]
        refine opt_of (toInts_map _) ?_
        rw [gain_sum]
        exact q
    refine seq_step (e (some t) A B C G f (some (.v (.int t.1))) (some (.v (.int t.2))) (some (.v (.int (gainI t.1 t.2 ps)))) none) (fun K k => asg_ev gev k) ?_
    refine seq_step (e (some t) A B C G f (some (.v (.int t.1))) (some (.v (.int t.2))) (some (.v (.int (gainI t.1 t.2 ps)))) (some (.v (.int (room * t.2 - sumI ps t.1 t.2))))) (fun K k => asg_ev (Ev.subI (Ev.mulW (Ev.var rfl) (Ev.var rfl) (wide_of hi.r t2)) (tops_ev (call_ev3 (Ev.var rfl) (Ev.var rfl) (Ev.var rfl) fun K E k => ⟨ps, t.1, t.2, rfl, hb, t1.mono (by decide), t2.mono (by decide), Int.le_of_lt t0, hi.i.n, k⟩))) k) ?_
    refine seq_step (e (some t) A B C G f (some (.v (.int (lsEnd ps room t).1))) (some (.v (.int (lsEnd ps room t).2))) (some (.v (.int (gainI t.1 t.2 ps)))) (some (.v (.int (room * t.2 - sumI ps t.1 t.2))))) (fun K k => ?_) ?_
    · refine if_int (Ev.var rfl) Ev.c ?_
      unfold lsEnd at k
      show (match decide (0 < gainI t.1 t.2 ps) with
        | true => _
        | false => _)
      cases z : decide (0 < gainI t.1 t.2 ps) with
      | true =>
        rw [z] at k
        exact ⟨wide_of t1 gb, wide_of t2 gb, k⟩
      | false =>
        rw [z] at k
        exact k
    obtain ⟨e0, e1, e2⟩ := eb
    exact ⟨ps, _, _, rfl, hb, e1, e2, Int.le_of_lt e0, hi.i.n, topsI ps (lsEnd ps room t), _, by rw [tops_ints]; rfl, e0, e2, by unfold topsI; rw [List.length_map]; exact hi.i.n, h⟩

end PL.K57

set_option Elab.async false
set_option linter.all false
set_option autoImplicit false
set_option maxRecDepth 100000
set_option maxHeartbeats 1000000
namespace PL.K57
open PySem PySem.Spec PyProof.Rows L2
local macro_rules | `(tactic| walk_at "y") => `(tactic| conv => whnf)
/-- the stream, made -/
def φ_law_pick : Spec := φPick
def φ_law_pool : Spec := fun ds Q _ => ∃ xs : List Int, ds = [.frl (xs.map D.int)] ∧ xs.length ≤ 63 ∧ ∀ ns : List Int, 300 ≤ ns.length → ns.length ≤ 5000 → Q (.lst (ns.map D.int))
theorem int_of {xs : List Int} {i : Nat} {d : D} (h : (xs.map D.int)[i]? = some d) : ∃ x, d = .int x := by
  rw [List.getElem?_map] at h
  cases e : xs[i]? with
  | none => rw [e] at h; cases h
  | some x => rw [e] at h; exact ⟨x, (Option.some.inj h).symm⟩
theorem map_snoc {ns : List Int} {x : Int} : ns.map D.int ++ [D.int x] = (ns ++ [x]).map D.int := by simp
theorem map_snoc2 {ns : List Int} {x y : Int} : ns.map D.int ++ [D.int x, D.int y] = (ns ++ [x, y]).map D.int := by simp
abbrev N_law_pool : List Str := ["script", "pool", "cell", "rest", "k", "state"]
def r_law_pool (Ξ : Xi) : PTS :=
  (ysSeq (ysAsgO (ynLst ylNil) 1)
  (ysSeq (ysFor (yiFrl (yVar 0)) (gN 2)
  (ysSeq (ysAsg (yBin oMod (yCB oInt (ylCons (yVar 2) ylNil)) (yBin oPow (yC (.int 60)) (yC (.int 60)))) 3)
  (ysIf (yBinT oGe (yVar 3) (yBin oPow (yC (.int 10)) (yC (.int 18))))
  (ysFor (yiRg1 (ylCons (yC (.int 60)) ylNil)) (gN 4)
  (ysSeq (ysApp 1 (yBin oMod (yCB oInt (ylCons (yVar 3) ylNil)) (yC (.int 60))))
  (ysSeq (ysAsg (yCB oInt (ylCons (yBin oFdiv (yVar 3) (yC (.int 60))) ylNil)) 3)
  (ysIf (yBinT (oEq false) (yVar 3) (yC (.int 0)))
  ysBrk
  ysNext))))
  (ysAsgO (ynAdd (yVar 1) (yNew (ynLst (ylCons (yBin oMod (yCB oInt (ylCons (yVar 3) ylNil)) (yC (.int 60))) (ylCons (yBin oMod (yCB oInt (ylCons (yBin oFdiv (yVar 3) (yC (.int 60))) ylNil)) (yC (.int 60))) ylNil))))) 1))))
  (ysSeq (ysAsg (yC (.int 17)) 5)
  (ysSeq (ysFor (yiFrl (yVar 0)) (gN 2)
  (ysAsg (yBin oMod (yBin oAdd (yBin oMulA (yVar 5) (yC (.int 31))) (yCB oInt (ylCons (yVar 2) ylNil))) (yC (.int 2147483647))) 5))
  (ysSeq (ysFor (yiRg1 (ylCons (yC (.int 300)) ylNil)) (gN 4)
  (ysSeq (ysAsg (yBin oMod (yBin oAdd (yBin oMulA (yVar 5) (yC (.int 48271))) (yC (.int 11))) (yC (.int 2147483647))) 5)
  (ysApp 1 (yBin oMod (yCB oInt (ylCons (yBin oFdiv (yVar 5) (yC (.int 97))) ylNil)) (yC (.int 60))))))
  (ysRet (yVar 1)))))))
theorem vc_law_pool (ds : List D) (Q' : D → Prop) (E' : Nat → Prop) (h : φ_law_pool ds Q' E') : r_law_pool (fun c _ => E' c) { nx := fun _ => Q' .non, rt := fun d _ => Q' d } (startE N_law_pool ds) := by
  obtain ⟨xs, rfl, hx, h⟩ := h
  let e (ns : List Int) (c r k s : Option S) : PEnv := [some (.v (.frl (xs.map D.int))), some (.o (ns.map D.int)), c, r, k, s]
  refine seq_step (e [] none none none none) (fun K k => k) ?_
  refine seq_post (fun ε => ∃ ns c r k, ns.length ≤ 60 * 63 ∧ ε = e ns c r k none) (fun K kk => ⟨fun i ε => ∃ ns c r k, ns.length ≤ 60 * i ∧ ε = e ns c r k none, ⟨[], none, none, none, Nat.zero_le _, rfl⟩, fun i d ε hi hd w => ?_, fun ε ⟨ns, c, r, k, hl, q⟩ => kk ε ⟨ns, c, r, k, by rw [List.length_map] at hl; omega, q⟩⟩) fun ε w => ?_
  · obtain ⟨x, rfl⟩ := int_of hd
    obtain ⟨ns, c, r, k, hl, rfl⟩ := w
    rw [List.length_map] at hi
    refine seq_step (e ns (some (.v (.int x))) (some (.v (.int (x % 60 ^ 60)))) k none) (fun K k => k) ?_
    walk_at "y"
    split
    · refine ⟨fun j ε => ∃ ns r k, ns.length ≤ 60 * i + j ∧ ε = e ns (some (.v (.int x))) (some (.v (.int r))) k none, ⟨ns, _, k, hl, rfl⟩, fun j d ε hj hd w => ?_, fun ε w => ?_⟩
      · have hdd := rangeD_get hd
        rw [hdd.2]
        obtain ⟨ns, r, k, hl, rfl⟩ := w
        have hj : j < 60 := hdd.1
        refine gd_of (show (ns.map D.int).length < 16777216 by rw [List.length_map]; omega) ?_
        rw [map_snoc]
        walk_at "y"
        split
        · exact ⟨_, _, _, _, by rw [List.length_append]; show ns.length + 1 ≤ 60 * (i + 1); omega, rfl⟩
        · exact ⟨_, _, _, by rw [List.length_append]; show ns.length + 1 ≤ 60 * i + (j + 1); omega, rfl⟩
      · obtain ⟨ns, r, k, hl, rfl⟩ := w
        rw [rangeD_len] at hl
        exact ⟨ns, _, _, _, by show ns.length ≤ 60 * (i + 1); exact Nat.le_trans hl (by show 60 * i + 60 ≤ _; omega), rfl⟩
    · refine gd_of (show (ns.map D.int).length + 2 ≤ 16777216 by rw [List.length_map]; omega) ?_
      rename_i hq
      rw [map_snoc2]
      exact ⟨_, _, _, _, by rw [List.length_append]; show ns.length + 2 ≤ 60 * (i + 1); omega, rfl⟩
  · obtain ⟨ns, c, r, k, hl, rfl⟩ := w
    refine seq_step (e ns c r k (some (.v (.int 17)))) (fun K k => k) ?_
    refine seq_post (fun ε => ∃ c s, ε = e ns c r k (some (.v (.int s)))) (fun K kk => ⟨fun i ε => ∃ c s, ε = e ns c r k (some (.v (.int s))), ⟨c, 17, rfl⟩, fun i d ε hi hd w => ?_, fun ε w => kk ε w⟩) fun ε w => ?_
    · obtain ⟨x, rfl⟩ := int_of hd
      obtain ⟨c, s, rfl⟩ := w
      exact gd_of (.inr ⟨by decide, by decide⟩) ⟨_, _, rfl⟩
    · obtain ⟨c, s, rfl⟩ := w
      refine ⟨fun j ε => ∃ ns' k s, ns'.length = ns.length + j ∧ ε = e ns' c r k (some (.v (.int s))), ⟨ns, k, s, rfl, rfl⟩, fun j d ε hj hd w => ?_, fun ε w => ?_⟩
      · have hdd := rangeD_get hd
        rw [hdd.2]
        obtain ⟨ns', k, s, hl', rfl⟩ := w
        have hj : j < 300 := hdd.1
        refine gd_of (.inr ⟨by decide, by decide⟩) ?_
        refine gd_of (show (ns'.map D.int).length < 16777216 by rw [List.length_map]; omega) ?_
        rw [map_snoc]
        exact ⟨_, _, _, by rw [List.length_append, hl']; rfl, rfl⟩
      · obtain ⟨ns', k, s, hl', rfl⟩ := w
        rw [rangeD_len] at hl'
        replace hl' : ns'.length = ns.length + 300 := hl'
        exact h ns' (by omega) (by omega)
def φ_law_stream : Spec := φStream
abbrev N_law_stream : List Str := ["script"]
def r_law_stream (Ξ : Xi) : PTS :=
  (ysRet (yBin oAdd (yNew (ynLst (ylCons (yC (.int 1)) ylNil))) (yCall φ_law_pool Ξ (ylCons (yVar 0) ylNil))))
theorem vc_law_stream (ds : List D) (Q' : D → Prop) (E' : Nat → Prop) (h : φList ds Q' E') : r_law_stream (fun c _ => E' c) { nx := fun _ => Q' .non, rt := fun d _ => Q' d } (startE N_law_stream ds) := by
  unfold φList at h
  split at h
  · obtain ⟨xs, rfl, hx, h⟩ := h
    refine ⟨xs, rfl, hx, fun ns h1 h2 => ?_⟩
    refine gd_of (show 1 + (ns.map D.int).length ≤ 16777216 by rw [List.length_map]; omega) ?_
    refine h (1 :: ns) ⟨?_, ?_, 1, rfl, by decide, ?_⟩
    · show 2 ≤ ns.length + 1; omega
    · show ns.length + 1 ≤ _; omega
    · show (1 : Int) < ((ns.length + 1 : Nat) : Int); omega
  · exact h.elim
theorem Bn.nn {a : Nat} {i n : Int} (h0 : 0 ≤ i) (h1 : i < n) (h : n.toNat ≤ 2 ^ a := by decide) : Bn a i := by
  unfold Bn
  omega
/-- a number out of a list, at a place that is drawn -/
theorem pickI {ns : List Int} {P : Int → Prop} {i : Int} {Q : D → Prop} (hp : ∀ n ∈ ns, P n) (h0 : 0 ≤ i) (h1 : i < (ns.length : Int)) (k : ∀ n, P n → Q (.int n)) : opt (atI (ns.map D.int) i) Q := pick_of h0 (by rw [List.length_map]; exact h1) fun d hd => by
  obtain ⟨n, hn, rfl⟩ := List.mem_map.mp hd
  exact k n (hp n hn)
theorem all_of {ns : List Int} {P : Int → Prop} {p : Int → Bool} (h : ns.all p = true) (k : ∀ n, p n = true → P n) : ∀ n ∈ ns, P n := fun n hn => k n (List.all_eq_true.mp h n hn)
def bB (a : Nat) (n : Int) : Bool := Nat.blt n.natAbs (2 ^ a)
theorem bB_ok {a : Nat} {n : Int} (h : bB a n = true) : Bn a n := Nat.le_of_ble_eq_true h
structure P86 (p : Pt) : Prop where
  b : Bn 86 p.b
  w : Bn 86 p.w
  lo : ∀ l, p.lo = some l → Bn 86 l
  hi : ∀ l, p.hi = some l → Bn 86 l
def φ_law_part : Spec
  | [.pool, .int u], Q, _ => (0 ≤ u ∧ u ≤ 1000000000000000000) ∧ ∀ p, P86 p → Full p → Q (ptD p)
  | _, _, _ => False
abbrev N_law_part : List Str := ["pool", "unit", "base", "weight", "lo", "most"]
def r_law_part (Ξ : Xi) : PTS :=
  (ysSeq (ysAsg (yBin oAdd (yBin oMulA (yVar 1) (yBin oSub (yCall φ_law_pick Ξ (ylCons (yVar 0) (ylCons (yC (.int 21)) ylNil))) (yIx (yNew (ynLst (ylCons (yC (.int 0)) (ylCons (yC (.int 0)) (ylCons (yC (.int 0)) (ylCons (yC (.int 15)) ylNil)))))) (yCall φ_law_pick Ξ (ylCons (yVar 0) (ylCons (yC (.int 4)) ylNil)))))) (yCall φ_law_pick Ξ (ylCons (yVar 0) (ylCons (yC (.int 3)) ylNil)))) 2)
  (ysSeq (ysAsg (yIx (yNew (ynLst (ylCons (yC (.int 0)) (ylCons (yC (.int 1)) (ylCons (yC (.int 1)) (ylCons (yC (.int 1)) (ylCons (yC (.int 2)) (ylCons (yC (.int 3)) (ylCons (yC (.int 7)) (ylCons (yC (.int 99)) (ylCons (yBin oPow (yC (.int 10)) (yC (.int 9))) (ylCons (yC (.int 0)) ylNil)))))))))))) (yCall φ_law_pick Ξ (ylCons (yVar 0) (ylCons (yC (.int 10)) ylNil)))) 3)
  (ysSeq (ysAsg (yBin oAdd (yBin oAdd (yVar 2) (yBin oMulA (yVar 1) (yIx (yNew (ynLst (ylCons (yC (.int 0)) (ylCons (yNeg (yC (.int 1))) (ylCons (yNeg (yC (.int 3))) (ylCons (yNeg (yC (.int 9))) (ylCons (yNeg (yC (.int 25))) (ylCons (yC (.int 2)) (ylCons (yC (.int 5)) (ylCons (yNeg (yC (.int 60))) ylNil)))))))))) (yCall φ_law_pick Ξ (ylCons (yVar 0) (ylCons (yC (.int 8)) ylNil)))))) (yIx (yNew (ynLst (ylCons (yC (.int 0)) (ylCons (yC (.int 0)) (ylCons (yC (.int 1)) ylNil))))) (yCall φ_law_pick Ξ (ylCons (yVar 0) (ylCons (yC (.int 3)) ylNil))))) 4)
  (ysSeq (ysAsg (yCall φ_law_pick Ξ (ylCons (yVar 0) (ylCons (yC (.int 8)) ylNil))) 5)
  (ysSeq (ysIf (yBinT oGt (yVar 5) (yC (.int 4)))
  (ysRet (yTup (ylCons (yVar 2) (ylCons (yVar 3) (ylCons (yVar 4) (ylCons (yC .non) ylNil))))))
  ysNext)
  (ysRet (yTup (ylCons (yVar 2) (ylCons (yVar 3) (ylCons (yVar 4) (ylCons (yBin oAdd (yBin oAdd (yVar 4) (yBin oMulA (yVar 1) (yIx (yNew (ynLst (ylCons (yC (.int 0)) (ylCons (yC (.int 1)) (ylCons (yC (.int 4)) (ylCons (yC (.int 12)) (ylCons (yC (.int 40)) ylNil))))))) (yVar 5)))) (yCall φ_law_pick Ξ (ylCons (yVar 0) (ylCons (yC (.int 2)) ylNil)))) ylNil)))))))))))
theorem vc_law_part (ds : List D) (Q' : D → Prop) (E' : Nat → Prop) (h : φ_law_part ds Q' E') : r_law_part (fun c _ => E' c) { nx := fun _ => Q' .non, rt := fun d _ => Q' d } (startE N_law_part ds) := by
  unfold φ_law_part at h
  split at h
  · rename_i u
    obtain ⟨⟨u0, u1⟩, h⟩ := h
    have ub : Bn 60 u := Bn.nn u0 (show u < 1000000000000000001 by omega)
    have ug : ((-18446744073709551616 : Int) < u ∧ u < 18446744073709551616) := ⟨by omega, by omega⟩
    let I (i : Int) : Option S := some (.v (.int i))
    let e (b w l m : Option S) : PEnv := [some (.v .pool), some (.v (.int u)), b, w, l, m]
    refine seq_post (fun ε => ∃ b, Bn 70 b ∧ ε = e (I b) none none none) (fun K kk => ?_) ?_
    · intro a a0 a1 i i0 i1
      refine pickI (ns := [0, 0, 0, 15]) (P := Bn 5) (all_of (p := bB 5) (by decide) fun n z => bB_ok z) i0 i1 fun n hn => ?_
      refine gd_of (.inl ug) ?_
      intro c c0 c1
      exact kk _ ⟨_, (((ub.mul ((Bn.nn (a := 5) a0 a1).sub hn)).mono (by decide : _ ≤ 69)).add (Bn.nn c0 c1)).mono (by decide), rfl⟩
    rintro _ ⟨b, hb, rfl⟩
    refine seq_post (fun ε => ∃ w, (0 ≤ w ∧ Bn 86 w) ∧ ε = e (I b) (I w) none none) (fun K kk => ?_) ?_
    · intro i i0 i1
      refine pickI (ns := [0, 1, 1, 1, 2, 3, 7, 99, 10 ^ Int.toNat 9, 0]) (P := fun n => 0 ≤ n ∧ Bn 86 n) (all_of (p := fun n => decide (0 ≤ n) && bB 86 n) (by decide) fun n z => ⟨of_decide_eq_true (Bool.and_eq_true_iff.mp z).1, bB_ok (Bool.and_eq_true_iff.mp z).2⟩) i0 i1 fun n hn => ?_
      exact kk _ ⟨_, hn, rfl⟩
    rintro _ ⟨w, ⟨w0, hw⟩, rfl⟩
    refine seq_post (fun ε => ∃ l, Bn 80 l ∧ ε = e (I b) (I w) (I l) none) (fun K kk => ?_) ?_
    · intro i i0 i1
      refine pickI (ns := [0, -1, -3, -9, -25, 2, 5, -60]) (P := Bn 7) (all_of (p := bB 7) (by decide) fun n z => bB_ok z) i0 i1 fun n hn => ?_
      refine gd_of (.inl ug) ?_
      intro j j0 j1
      refine pickI (ns := [0, 0, 1]) (P := Bn 7) (all_of (p := bB 7) (by decide) fun n z => bB_ok z) j0 j1 fun m hm => ?_
      exact kk _ ⟨_, (((hb.add ((ub.mul hn).mono (by decide))).add (hm.mono (by decide))).mono (by decide)), rfl⟩
    rintro _ ⟨l, hl, rfl⟩
    refine seq_post (fun ε => ∃ m, (0 ≤ m ∧ m < 8) ∧ ε = e (I b) (I w) (I l) (I m)) (fun K kk => ?_) ?_
    · intro m m0 m1
      exact kk _ ⟨m, ⟨m0, m1⟩, rfl⟩
    rintro _ ⟨m, ⟨m0, m1⟩, rfl⟩
    walk_at "y"
    show (match decide (4 < m) with
      | true => _
      | false => _)
    cases z : decide (4 < m) with
    | true => exact h ⟨b, w, some l, none⟩ ⟨hb.mono (by decide), hw, fun _ z => by cases z; exact hl.mono (by decide), fun _ z => by cases z⟩ ⟨⟨w0, fun _ _ _ z => by cases z⟩, l, rfl⟩
    | false =>
      have z := of_decide_eq_false z
      refine pickI (ns := [0, 1, 4, 12, 40]) (P := fun n => 0 ≤ n ∧ Bn 7 n) (all_of (p := fun n => decide (0 ≤ n) && bB 7 n) (by decide) fun n z => ⟨of_decide_eq_true (Bool.and_eq_true_iff.mp z).1, bB_ok (Bool.and_eq_true_iff.mp z).2⟩) m0 (by show m < 5; omega) fun n hn => ?_
      refine gd_of (.inl ug) ?_
      intro c c0 c1
      have hc : Bn 7 c := Bn.nn c0 c1
      have pos := Int.mul_nonneg u0 hn.1
      have hh : Bn 86 (l + u * n + c) := (((hl.add ((ub.mul hn.2).mono (by decide))).add (hc.mono (by decide))).mono (by decide))
      exact h ⟨b, w, some l, some (l + u * n + c)⟩ ⟨hb.mono (by decide), hw, fun _ z => by cases z; exact hl.mono (by decide), fun _ z => by cases z; exact hh⟩ ⟨⟨w0, fun _ _ z y => by cases z; cases y; omega⟩, l, rfl⟩
  · exact h.elim

end PL.K57

set_option Elab.async false
set_option linter.all false
set_option autoImplicit false
set_option maxRecDepth 100000
set_option maxHeartbeats 1000000
namespace PL.K57
open PySem PySem.Spec PyProof.Rows L2
local macro_rules | `(tactic| walk_at "y") => `(tactic| conv => whnf)
/-! ### what is right -/
abbrev Fl (ps : List Pt) : Prop := ∀ p ∈ ps, Full p
theorem S_of {ps : List Pt} {room : Int} {r : Int × Int} (h : 0 < r.2) (e : sumI ps r.1 r.2 = room * r.2) : SQ ps (rat r) = (room : Rat) := by
  have a := sum_v (ps := ps) h
  rw [e, Rat.intCast_mul] at a
  have tp := pos_q h
  have : (r.2 : Rat) * (SQ ps (rat r) - (room : Rat)) = 0 := by grind
  rcases Rat.mul_eq_zero.mp this with y | y
  · grind
  · grind
theorem of_S {ps : List Pt} {room : Int} {r : Int × Int} (h : 0 < r.2) (e : SQ ps (rat r) = (room : Rat)) : sumI ps r.1 r.2 = room * r.2 := by
  have a := sum_v (ps := ps) h
  rw [e] at a
  have : ((sumI ps r.1 r.2 : Int) : Rat) = ((room * r.2 : Int) : Rat) := by rw [a, Rat.intCast_mul]; grind
  exact Rat.intCast_inj.mp this
theorem S_ends {ps : List Pt} {room : Int} (ok : Fl ps) {t : Rat} (e : SQ ps t = (room : Rat)) : leasts ps ≤ room ∧ ((∀ p ∈ ps, ∃ m, mostO p = some m) → room ≤ mosts ps) := by
  refine ⟨?_, fun hm => ?_⟩
  · have := S_least t ok
    rw [e] at this
    exact Rat.intCast_le_intCast.mp this
  · have := S_most t fun p hp => ⟨(ok p hp).1, hm p hp⟩
    rw [e] at this
    exact Rat.intCast_le_intCast.mp this
theorem share_at {ps : List Pt} {room : Int} {r : Int × Int} (ok : Fl ps) (h : 0 < r.2) (e : sumI ps r.1 r.2 = room * r.2) : wholesI r.2 0 (topsI ps r) = lawShare ps room := by
  have L := share_spec (room := room) ok
  have pok : ∀ p ∈ ps, POk p := fun p hp => (ok p hp).1
  have sq := S_of h e
  obtain ⟨c1, c2⟩ := S_ends ok sq
  generalize lawShare ps room = S at L
  rcases L with ⟨_, h'⟩ | ⟨h', hm, rfl⟩ | ⟨q', h1, e', rfl⟩
  · omega
  · have er : room = mosts ps := by have := c2 hm; omega
    have va := v_all_most (ps := ps) (t := rat r) (fun p hp => ⟨pok p hp, hm p hp⟩) (by rw [sq, er]; exact Rat.le_refl)
    have et : topsI ps r = (ps.map fun p => (mostO p).getD 0).map (· * r.2) := by
      unfold topsI
      rw [List.map_map]
      refine List.map_congr_left fun p hp => ?_
      obtain ⟨m, em, ev⟩ := va p hp
      show topI p r.1 r.2 = (mostO p).getD 0 * r.2
      refine Rat.intCast_inj.mp ?_
      rw [top_v h, ev, Rat.intCast_mul, em]
      dsimp only [Option.getD]
      grind
    have := wholes_mul h (ms := ps.map fun p => (mostO p).getD 0) (a := 0)
    rw [Int.zero_mul] at this
    rw [et, this]
  · rw [sizes_uniq pok h h1 (by rw [sq, e'])]
/-- no ratio: too little, or too much -/
theorem none_iff {ps : List Pt} {room : Int} (ok : Fl ps) : ratioI ps room = none ↔ (room < leasts ps ∨ ((∀ p ∈ ps, ∃ m, mostO p = some m) ∧ mosts ps < room)) := by
  have R := ratio_spec (room := room) ok
  cases e : ratioI ps room with
  | none =>
    rw [e] at R
    rcases R with ⟨_, _, r3, r4⟩ | ⟨_, r2⟩
    · exact ⟨fun _ => .inr ⟨r4, r3⟩, fun _ => rfl⟩
    · exact ⟨fun _ => .inl r2, fun _ => rfl⟩
  | some q =>
    rw [e] at R
    have g : Good ps room q := R
    refine ⟨fun z => (by cases z), fun z => ?_⟩
    rcases z with z | ⟨hm, z⟩
    · have := g.least
      omega
    · have := g.most hm
      omega
/-- is it a right ratio? -/
def rightB (ps : List Pt) (room : Int) : D → Bool
  | .non => (ratioI ps room).isNone
  | .tup [.int a, .int b] => decide (1 ≤ b) && (decide (Nat.gcd a.natAbs b.natAbs = 1) && decide (sumI ps a b = room * b))
  | _ => false
def rOf : D → Option (Int × Int)
  | .tup [.int a, .int b] => some (a, b)
  | _ => none
theorem rOf_rat (r : Option (Int × Int)) : rOf (ratD r) = r := by cases r <;> rfl
theorem right_some {ps : List Pt} {room : Int} {k : Int × Int} (h : rightB ps room (ratD (some k)) = true) : 0 < k.2 ∧ Nat.gcd k.1.natAbs k.2.natAbs = 1 ∧ sumI ps k.1 k.2 = room * k.2 := by
  obtain ⟨h1, h2⟩ := Bool.and_eq_true_iff.mp h
  obtain ⟨h2, h3⟩ := Bool.and_eq_true_iff.mp h2
  have := of_decide_eq_true h1
  exact ⟨by omega, of_decide_eq_true h2, of_decide_eq_true h3⟩
theorem right_of {ps : List Pt} {room : Int} {k : Int × Int} (h1 : 0 < k.2) (h2 : Nat.gcd k.1.natAbs k.2.natAbs = 1) (h3 : sumI ps k.1 k.2 = room * k.2) : rightB ps room (ratD (some k)) = true := by
  refine Bool.and_eq_true_iff.mpr ⟨decide_eq_true (by omega), Bool.and_eq_true_iff.mpr ⟨decide_eq_true h2, decide_eq_true h3⟩⟩
theorem right_ratio {ps : List Pt} {room : Int} (ok : Fl ps) : rightB ps room (ratD (ratioI ps room)) = true := by
  have R := ratio_spec (room := room) ok
  cases e : ratioI ps room with
  | none =>
    show (ratioI ps room).isNone = true
    rw [e]
    rfl
  | some q =>
    rw [e] at R
    exact right_of R.low R.gcd R.sum
/-- what a right ratio gives is the sharing -/
theorem sizes_right {ps : List Pt} {room : Int} {r : Option (Int × Int)} (ok : Fl ps) (h : rightB ps room (ratD r) = true) : sizesD ps room r = (lawShare ps room).map D.int := by
  cases r with
  | none =>
    have e : ratioI ps room = none := Option.isNone_iff_eq_none.mp h
    have := share_same (room := room) ok
    rw [e] at this
    exact this
  | some k =>
    obtain ⟨h1, _, h3⟩ := right_some h
    show (wholesI k.2 0 (topsI ps k)).map D.int = _
    rw [share_at ok h1 h3]
/-! ### one part moves -/
def shO (o : Option Int) (n : Int) : Option Int := o.map (· + n)
def shP (p : Pt) (n : Int) : Pt := ⟨p.b + n, p.w, shO p.lo n, shO p.hi n⟩
theorem cut_sh (x n : Int) (lo hi : Option Int) : cutI (x + n) (shO lo n) (shO hi n) = cutI x lo hi + n := by
  unfold cutI shO
  cases hi <;> cases lo <;> simp only [Option.map_none, Option.map_some] <;> (repeat' split) <;> omega
theorem mulO_sh (o : Option Int) (n k : Int) : mulO (shO o n) k = shO (mulO o k) (n * k) := by
  cases o with
  | none => rfl
  | some i => show some ((i + n) * k) = some (i * k + n * k); rw [Int.add_mul]
theorem top_sh (p : Pt) (n top low : Int) : topI (shP p n) top low = topI p top low + n * low := by
  unfold topI
  show cutI ((p.b + n) * low + p.w * top) (mulO (shO p.lo n) low) (mulO (shO p.hi n) low) = _
  rw [mulO_sh, mulO_sh, ← cut_sh]
  congr 1
  rw [Int.add_mul]
  omega
theorem least_sh {p : Pt} {n l : Int} (h : p.lo = some l) : leastI (shP p n) = leastI p + n := by
  unfold leastI
  show (if 0 < p.w then (shO p.lo n).getD 0 else cutI (p.b + n) (shO p.lo n) (shO p.hi n)) = _
  split
  · rw [h]; rfl
  · exact cut_sh _ _ _ _
theorem most_sh (p : Pt) (n : Int) : mostO (shP p n) = shO (mostO p) n := by
  unfold mostO
  show (if 0 < p.w then shO p.hi n else some (cutI (p.b + n) (shO p.lo n) (shO p.hi n))) = _
  split
  · rfl
  · rw [cut_sh]; rfl
theorem full_sh {p : Pt} (h : Full p) (n : Int) : Full (shP p n) := by
  obtain ⟨⟨w0, le⟩, l, e⟩ := h
  refine ⟨⟨w0, fun l' h' e1 e2 => ?_⟩, l + n, by show shO p.lo n = _; rw [e]; rfl⟩
  have e1 : shO p.lo n = some l' := e1
  have e2 : shO p.hi n = some h' := e2
  rw [e] at e1
  cases e3 : p.hi with
  | none => rw [e3] at e2; cases e2
  | some y =>
    rw [e3] at e2
    have := le l y e e3
    have e1 : l + n = l' := Option.some.inj e1
    have e2 : y + n = h' := Option.some.inj e2
    omega
/-- the sizes but for one -/
theorem wholes_sh {low n : Int} (h : 0 < low) : ∀ {ts : List Int} {a : Int}, wholesI low (a + n * low) ts = wholesI low a ts
  | [], _ => rfl
  | t :: ts, a => by
    unfold wholesI
    have e1 : a + n * low + t = (a + t) + n * low := by omega
    rw [e1, wholes_sh h (ts := ts) (a := a + t), Int.add_mul_ediv_right _ _ (by omega), Int.add_mul_ediv_right _ _ (by omega)]
    congr 1
    omega
theorem wholes_one {low n : Int} (h : 0 < low) : ∀ {as : List Int} {t a : Int} {bs : List Int}, wholesI low a (as ++ (t + n * low) :: bs) = (wholesI low a (as ++ t :: bs)).set as.length ((wholesI low a (as ++ t :: bs)).getD as.length 0 + n)
  | [], t, a, bs => by
    show ((a + (t + n * low)) / low - a / low) :: wholesI low (a + (t + n * low)) bs = ((a + t) / low - a / low + n) :: wholesI low (a + t) bs
    have e1 : a + (t + n * low) = (a + t) + n * low := by omega
    rw [e1, wholes_sh h, Int.add_mul_ediv_right _ _ (by omega)]
    congr 1
    omega
  | x :: as, t, a, bs => by
    show ((a + x) / low - a / low) :: wholesI low (a + x) (as ++ (t + n * low) :: bs) = ((a + x) / low - a / low) :: (wholesI low (a + x) (as ++ t :: bs)).set as.length ((wholesI low (a + x) (as ++ t :: bs)).getD as.length 0 + n)
    rw [wholes_one h]
theorem split_at {α : Type} {ps : List α} {i : Nat} (h : i < ps.length) : ps = ps.take i ++ ps[i] :: ps.drop (i + 1) := by
  rw [List.getElem_cons_drop, List.take_append_drop]
def movP (ps : List Pt) (i : Nat) (n : Int) : List Pt := ps.take i ++ shP (ps[i]?.getD ⟨0, 0, none, none⟩) n :: ps.drop (i + 1)
theorem mov_all {ps : List Pt} {i : Nat} (h : i < ps.length) {n : Int} {P : Pt → Prop} (hp : ∀ p ∈ ps, P p) (hs : ∀ p ∈ ps, P (shP p n)) : ∀ p ∈ movP ps i n, P p := by
  intro p hm
  unfold movP at hm
  rw [List.getElem?_eq_getElem h] at hm
  rcases List.mem_append.mp hm with hm | hm
  · exact hp p (List.mem_of_mem_take hm)
  · rcases List.mem_cons.mp hm with rfl | hm
    · exact hs _ (List.getElem_mem h)
    · exact hp p (List.mem_of_mem_drop hm)
theorem mov_map {α : Type} {ps : List Pt} {i : Nat} (h : i < ps.length) {n : Int} (f : Pt → α) : (movP ps i n).map f = (ps.map f).take i ++ f (shP ps[i] n) :: (ps.map f).drop (i + 1) := by
  unfold movP
  rw [List.getElem?_eq_getElem h, List.map_append, List.map_cons, List.map_take, List.map_drop]
  rfl
theorem sum_mov {ps : List Pt} {i : Nat} (h : i < ps.length) {n m : Int} (f : Pt → Int) (hf : f (shP ps[i] n) = f ps[i] + m) : ((movP ps i n).map f).sum = (ps.map f).sum + m := by
  rw [mov_map h, hf]
  have e : ps.map f = (ps.map f).take i ++ f ps[i] :: (ps.map f).drop (i + 1) := by
    have := split_at (ps := ps.map f) (i := i) (by rw [List.length_map]; exact h)
    rw [List.getElem_map] at this
    exact this
  have e2 : (ps.map f).sum = ((ps.map f).take i).sum + (f ps[i] + ((ps.map f).drop (i + 1)).sum) := by
    have := congrArg List.sum e
    rw [List.sum_append, List.sum_cons] at this
    exact this
  rw [e2, List.sum_append, List.sum_cons]
  omega
def movL (L : List Int) (i : Nat) (n : Int) : List Int := L.set i (L.getD i 0 + n)
theorem mov_set {α : Type} {L : List α} {i : Nat} {x : α} (h : i < L.length) : L.take i ++ x :: L.drop (i + 1) = L.set i x := by
  rw [List.set_eq_take_append_cons_drop, if_pos h]
theorem right_mov {ps : List Pt} {room n : Int} {i : Nat} {r : Option (Int × Int)} (ok : Fl ps) (h : i < ps.length) (hr : rightB ps room (ratD r) = true) : rightB (movP ps i n) (room + n) (ratD r) = true := by
  cases r with
  | some k =>
    obtain ⟨h1, h2, h3⟩ := right_some hr
    refine right_of h1 h2 ?_
    have e : sumI (movP ps i n) k.1 k.2 = sumI ps k.1 k.2 + n * k.2 := sum_mov h (fun p => topI p k.1 k.2) (top_sh _ _ _ _)
    rw [e, h3, Int.add_mul]
  | none =>
    have e : ratioI ps room = none := Option.isNone_iff_eq_none.mp hr
    have ok2 : Fl (movP ps i n) := mov_all h ok fun p hp => full_sh (ok p hp) n
    show (ratioI (movP ps i n) (room + n)).isNone = true
    rw [Option.isNone_iff_eq_none, none_iff ok2]
    have l : leasts (movP ps i n) = leasts ps + n := by
      obtain ⟨_, l, el⟩ := ok ps[i] (List.getElem_mem h)
      exact sum_mov h leastI (least_sh el)
    rcases (none_iff ok).mp e with z | ⟨hm, z⟩
    · exact .inl (by rw [l]; omega)
    · refine .inr ⟨mov_all h hm fun p hp => ?_, ?_⟩
      · obtain ⟨m, em⟩ := hm p hp
        exact ⟨m + n, by rw [most_sh, em]; rfl⟩
      · obtain ⟨m, em⟩ := hm ps[i] (List.getElem_mem h)
        have : mosts (movP ps i n) = mosts ps + n := sum_mov h (fun p => (mostO p).getD 0) (by show (mostO (shP ps[i] n)).getD 0 = _; rw [most_sh, em]; rfl)
        rw [this]
        omega
theorem ends_none {ps : List Pt} {room : Int} (ok : Fl ps) (e : ratioI ps room = none) : (room < leasts ps ∧ lawShare ps room = ps.map leastI) ∨ ((∀ p ∈ ps, ∃ m, mostO p = some m) ∧ mosts ps < room ∧ lawShare ps room = ps.map fun p => (mostO p).getD 0) := by
  have L := share_spec (room := room) ok
  have lm : (∀ p ∈ ps, ∃ m, mostO p = some m) → leasts ps ≤ mosts ps := fun hm => by
    have a := S_most 0 fun p hp => ⟨(ok p hp).1, hm p hp⟩
    have l0 := S_least 0 ok
    exact Rat.intCast_le_intCast.mp (by grind)
  rcases (none_iff ok).mp e with z | ⟨hm, z⟩
  · refine .inl ⟨z, ?_⟩
    rcases L with ⟨h, _⟩ | ⟨h, hm, _⟩ | ⟨q, _, e, _⟩
    · exact h
    · have := lm hm
      omega
    · have := (S_ends ok e).1
      omega
  · refine .inr ⟨hm, z, ?_⟩
    rcases L with ⟨_, h⟩ | ⟨_, _, h⟩ | ⟨q, _, e, _⟩
    · have := lm hm
      omega
    · exact h
    · have := (S_ends ok e).2 hm
      omega
theorem share_mov {ps : List Pt} {room n : Int} {i : Nat} {r : Option (Int × Int)} (ok : Fl ps) (h : i < ps.length) (hr : rightB ps room (ratD r) = true) : lawShare (movP ps i n) (room + n) = movL (lawShare ps room) i n := by
  have ok2 : Fl (movP ps i n) := mov_all h ok fun p hp => full_sh (ok p hp) n
  have hr2 := right_mov (n := n) ok h hr
  cases r with
  | some k =>
    obtain ⟨h1, h2, h3⟩ := right_some hr
    obtain ⟨_, _, h4⟩ := right_some hr2
    rw [← share_at ok2 h1 h4, ← share_at ok h1 h3]
    unfold topsI
    rw [mov_map h, top_sh]
    have e : ps.map (fun p => topI p k.1 k.2) = (ps.map fun p => topI p k.1 k.2).take i ++ topI ps[i] k.1 k.2 :: (ps.map fun p => topI p k.1 k.2).drop (i + 1) := by
      have := split_at (ps := ps.map fun p => topI p k.1 k.2) (i := i) (by rw [List.length_map]; exact h)
      rw [List.getElem_map] at this
      exact this
    have w := wholes_one (n := n) h1 (as := (ps.map fun p => topI p k.1 k.2).take i) (t := topI ps[i] k.1 k.2) (a := 0) (bs := (ps.map fun p => topI p k.1 k.2).drop (i + 1))
    rw [← e] at w
    rw [w]
    have el : ((ps.map fun p => topI p k.1 k.2).take i).length = i := by rw [List.length_take, List.length_map]; omega
    rw [el]
    rfl
  | none =>
    have e : ratioI ps room = none := Option.isNone_iff_eq_none.mp hr
    have e2 : ratioI (movP ps i n) (room + n) = none := Option.isNone_iff_eq_none.mp hr2
    have lm : ∀ {qs : List Pt}, Fl qs → (∀ p ∈ qs, ∃ m, mostO p = some m) → leasts qs ≤ mosts qs := fun ok hm => by
      have a := S_most 0 fun p hp => ⟨(ok p hp).1, hm p hp⟩
      have l0 := S_least 0 ok
      exact Rat.intCast_le_intCast.mp (by grind)
    have l : leasts (movP ps i n) = leasts ps + n := by
      obtain ⟨_, l, el⟩ := ok ps[i] (List.getElem_mem h)
      exact sum_mov h leastI (least_sh el)
    have fin : ∀ (f : Pt → Int), f (shP ps[i] n) = f ps[i] + n → (movP ps i n).map f = movL (ps.map f) i n := fun f hf => by
      rw [mov_map h, hf, mov_set (by rw [List.length_map]; exact h)]
      unfold movL
      rw [List.getD_eq_getElem?_getD, List.getElem?_map, List.getElem?_eq_getElem h]
      rfl
    rcases ends_none ok e with ⟨z, q⟩ | ⟨hm, z, q⟩
    · rcases ends_none ok2 e2 with ⟨z2, q2⟩ | ⟨hm2, z2, q2⟩
      · obtain ⟨_, l, el⟩ := ok ps[i] (List.getElem_mem h)
        rw [q, q2]
        exact fin leastI (least_sh el)
      · have := lm ok2 hm2
        omega
    · obtain ⟨m, em⟩ := hm ps[i] (List.getElem_mem h)
      have em2 : (mostO (shP ps[i] n)).getD 0 = (mostO ps[i]).getD 0 + n := by rw [most_sh, em]; rfl
      rcases ends_none ok2 e2 with ⟨z2, q2⟩ | ⟨hm2, z2, q2⟩
      · have := lm ok hm
        omega
      · rw [q, q2]
        exact fin (fun p => (mostO p).getD 0) em2
/-! ### the ratio slides, the weights are greater -/
def slP (n : Int) (p : Pt) : Pt := ⟨p.b + n * p.w, p.w, p.lo, p.hi⟩
def hvP (v : Int) (p : Pt) : Pt := ⟨p.b, p.w * v, p.lo, p.hi⟩
theorem top_sl (p : Pt) (n top low : Int) : topI (slP n p) (top - n * low) low = topI p top low := by
  unfold topI
  show cutI ((p.b + n * p.w) * low + p.w * (top - n * low)) (mulO p.lo low) (mulO p.hi low) = _
  have e : (p.b + n * p.w) * low + p.w * (top - n * low) = p.b * low + p.w * top := by
    rw [Int.add_mul, Int.mul_sub, Int.mul_comm n p.w, Int.mul_assoc p.w n low]
    omega
  rw [e]
theorem full_sl {p : Pt} (h : Full p) (n : Int) : Full (slP n p) := ⟨⟨h.1.w0, h.1.le⟩, h.2⟩
theorem full_hv {p : Pt} (h : Full p) {v : Int} (hv : 0 < v) : Full (hvP v p) := ⟨⟨Int.mul_nonneg h.1.w0 (by omega), h.1.le⟩, h.2⟩
theorem ends_sl {p : Pt} (h : POk p) (n : Int) : leastI (slP n p) = leastI p ∧ mostO (slP n p) = mostO p := by
  unfold leastI mostO slP
  dsimp only
  by_cases z : 0 < p.w
  · rw [if_pos z, if_pos z, if_pos z, if_pos z]
    exact ⟨rfl, rfl⟩
  · have e : p.w = 0 := by have := h.w0; omega
    rw [if_neg z, if_neg z, if_neg z, if_neg z, e, Int.mul_zero, Int.add_zero]
    exact ⟨rfl, rfl⟩
theorem ends_hv {p : Pt} {v : Int} (hv : 0 < v) (h : POk p) : leastI (hvP v p) = leastI p ∧ mostO (hvP v p) = mostO p := by
  unfold leastI mostO hvP
  dsimp only
  have e : 0 < p.w * v ↔ 0 < p.w := by
    constructor
    · intro z
      by_cases w : 0 < p.w
      · exact w
      · have : p.w = 0 := by have := h.w0; omega
        rw [this, Int.zero_mul] at z
        omega
    · intro z
      exact Int.mul_pos z hv
  by_cases z : 0 < p.w
  · rw [if_pos z, if_pos z, if_pos (e.mpr z), if_pos (e.mpr z)]
    exact ⟨rfl, rfl⟩
  · rw [if_neg z, if_neg z, if_neg (fun w => z (e.mp w)), if_neg (fun w => z (e.mp w))]
    exact ⟨rfl, rfl⟩
/-- parts with the same ends -/
theorem none_same {ps qs : List Pt} {room : Int} (ok : Fl ps) (ok2 : Fl qs) (h1 : qs.map leastI = ps.map leastI) (h2 : qs.map mostO = ps.map mostO) (e : ratioI ps room = none) : ratioI qs room = none ∧ lawShare qs room = lawShare ps room := by
  have l : leasts qs = leasts ps := congrArg List.sum h1
  have m : (qs.map fun p => (mostO p).getD 0) = ps.map fun p => (mostO p).getD 0 := by
    have := congrArg (List.map fun o : Option Int => o.getD 0) h2
    rw [List.map_map, List.map_map] at this
    exact this
  have m2 : mosts qs = mosts ps := congrArg List.sum m
  have am : (∀ p ∈ ps, ∃ m, mostO p = some m) → ∀ p ∈ qs, ∃ m, mostO p = some m := fun hm p hp => by
    have : mostO p ∈ qs.map mostO := List.mem_map.mpr ⟨p, hp, rfl⟩
    rw [h2] at this
    obtain ⟨q, hq, eq⟩ := List.mem_map.mp this
    rw [← eq]
    exact hm q hq
  have lm : ∀ {qs : List Pt}, Fl qs → (∀ p ∈ qs, ∃ m, mostO p = some m) → leasts qs ≤ mosts qs := fun ok hm => by
    have a := S_most 0 fun p hp => ⟨(ok p hp).1, hm p hp⟩
    have l0 := S_least 0 ok
    exact Rat.intCast_le_intCast.mp (by grind)
  have n2 : ratioI qs room = none := by
    rw [none_iff ok2]
    rcases (none_iff ok).mp e with z | ⟨hm, z⟩
    · exact .inl (by omega)
    · exact .inr ⟨am hm, by omega⟩
  refine ⟨n2, ?_⟩
  rcases ends_none ok e with ⟨z, q⟩ | ⟨hm, z, q⟩
  · rcases ends_none ok2 n2 with ⟨z2, q2⟩ | ⟨hm2, z2, q2⟩
    · rw [q, q2, h1]
    · have := lm ok2 hm2
      omega
  · rcases ends_none ok2 n2 with ⟨z2, q2⟩ | ⟨hm2, z2, q2⟩
    · have := lm ok hm
      omega
    · rw [q, q2, m]
def slR (n : Int) (k : Int × Int) : Int × Int := (k.1 - n * k.2, k.2)
theorem gcd_sl {a b n : Int} (h : Nat.gcd a.natAbs b.natAbs = 1) : Nat.gcd (a - n * b).natAbs b.natAbs = 1 := by
  have e : Int.gcd (a - n * b) b = Int.gcd a b := by
    rw [Int.gcd_sub_mul_right_left]
  exact e.trans h
theorem right_sl {ps : List Pt} {room n : Int} {k : Int × Int} (ok : Fl ps) (h : rightB ps room (ratD (some k)) = true) : rightB (ps.map (slP n)) room (ratD (some (slR n k))) = true ∧ lawShare (ps.map (slP n)) room = lawShare ps room := by
  obtain ⟨h1, h2, h3⟩ := right_some h
  have et : topsI (ps.map (slP n)) (slR n k) = topsI ps k := by
    unfold topsI
    rw [List.map_map]
    exact List.map_congr_left fun p _ => top_sl p n k.1 k.2
  have es : sumI (ps.map (slP n)) (slR n k).1 (slR n k).2 = room * (slR n k).2 := by
    show (topsI (ps.map (slP n)) (slR n k)).sum = room * k.2
    rw [et]
    exact h3
  have ok2 : Fl (ps.map (slP n)) := fun p hp => by
    obtain ⟨q, hq, rfl⟩ := List.mem_map.mp hp
    exact full_sl (ok q hq) n
  refine ⟨right_of h1 (gcd_sl h2) es, ?_⟩
  rw [← share_at ok2 (show 0 < (slR n k).2 from h1) es, ← share_at ok h1 h3, et]
  rfl
theorem v_hv {p : Pt} {v : Int} (hv : 0 < v) (t : Rat) : vQ (hvP v p) (t / (v : Rat)) = vQ p t := by
  unfold vQ at_ hvP
  dsimp only
  have hv' := pos_q hv
  have e : ((p.w * v : Int) : Rat) * (t / (v : Rat)) = (p.w : Rat) * t := by
    rw [Rat.intCast_mul]
    have : (v : Rat) ≠ 0 := by grind
    grind
  rw [e]
theorem S_hv {v : Int} (hv : 0 < v) (t : Rat) : ∀ {ps : List Pt}, SQ (ps.map (hvP v)) (t / (v : Rat)) = SQ ps t
  | [] => rfl
  | p :: ps => by
    show vQ (hvP v p) (t / (v : Rat)) + SQ (ps.map (hvP v)) (t / (v : Rat)) = vQ p t + SQ ps t
    rw [v_hv hv, S_hv hv t]
theorem low_rat {n d : Int} (hd : 0 < d) : 0 < (lowI n d).2 ∧ Nat.gcd (lowI n d).1.natAbs (lowI n d).2.natAbs = 1 ∧ rat (lowI n d) = (n : Rat) / (d : Rat) := by
  obtain ⟨g, e1, e2⟩ := lowI_mul (n := n) hd
  have p2 : 0 < (lowI n d).2 := pos_of_mul hd g e2
  refine ⟨p2, lowI_gcd hd, ?_⟩
  have a := rat_mul (k := lowI n d) p2
  have b := pos_q p2
  have c := pos_q g
  have f2 : (d : Rat) = ((lowI n d).2 : Rat) * (((Nat.gcd n.natAbs d.natAbs : Nat) : Int) : Rat) := by rw [← Rat.intCast_mul, ← e2]
  have f1 : (n : Rat) = ((lowI n d).1 : Rat) * (((Nat.gcd n.natAbs d.natAbs : Nat) : Int) : Rat) := by rw [← Rat.intCast_mul, ← e1]
  unfold rat
  rw [f1, f2]
  have b' : ((lowI n d).2 : Rat) ≠ 0 := by grind
  have c' : (((Nat.gcd n.natAbs d.natAbs : Nat) : Int) : Rat) ≠ 0 := by grind
  grind
theorem right_hv {ps : List Pt} {room v : Int} {k : Int × Int} (hv : 0 < v) (ok : Fl ps) (h : rightB ps room (ratD (some k)) = true) : rightB (ps.map (hvP v)) room (ratD (some (lowI k.1 (k.2 * v)))) = true ∧ lawShare (ps.map (hvP v)) room = lawShare ps room := by
  obtain ⟨h1, h2, h3⟩ := right_some h
  have hd : 0 < k.2 * v := Int.mul_pos h1 hv
  obtain ⟨p2, g2, er⟩ := low_rat (n := k.1) hd
  have ok2 : Fl (ps.map (hvP v)) := fun p hp => by
    obtain ⟨q, hq, rfl⟩ := List.mem_map.mp hp
    exact full_hv (ok q hq) hv
  have er2 : rat (lowI k.1 (k.2 * v)) = rat k / (v : Rat) := by
    rw [er, Rat.intCast_mul]
    unfold rat
    have a := pos_q h1
    have b := pos_q hv
    have a' : (k.2 : Rat) ≠ 0 := by grind
    have b' : (v : Rat) ≠ 0 := by grind
    grind
  have es := of_S (ps := ps.map (hvP v)) (room := room) p2 (by rw [er2, S_hv hv]; exact S_of h1 h3)
  refine ⟨right_of p2 g2 es, ?_⟩
  rw [← share_at ok2 p2 es, ← share_at ok h1 h3]
  refine wholes_same p2 h1 (a := 0) (b := 0) (by rw [Int.zero_mul, Int.zero_mul]) ?_
  unfold topsI
  rw [List.map_map, List.map_map, List.map_map]
  refine List.map_congr_left fun p hp => ?_
  show topI (hvP v p) _ _ * k.2 = topI p k.1 k.2 * _
  refine Rat.intCast_inj.mp ?_
  rw [Rat.intCast_mul, Rat.intCast_mul, top_v p2, top_v h1, er2, v_hv hv]
  grind

end PL.K57

set_option Elab.async false
set_option linter.all false
set_option autoImplicit false
set_option maxRecDepth 100000
set_option maxHeartbeats 1000000
namespace PL.K57
open PySem PySem.Spec PyProof.Rows L2
local macro_rules | `(tactic| walk_at "y") => `(tactic| conv => whnf)
/-! ### what an expression is (as in k58) -/
theorem atI_k {xs : List D} {k : Nat} {d : D} (h : xs[k]? = some d) : atI xs (0 + (k : Int)) = some d := by
  rw [Int.zero_add]
  exact atI_nat h
theorem EvT.truB {r : PTE} {ε : PEnv} {b : Bool} (h : Ev r ε (.bl b)) : EvT (yTru r) ε b := fun Q q => h _ q
theorem EvT.truL {r : PTE} {ε : PEnv} {xs : List D} (h : Ev r ε (.lst xs)) : EvT (yTru r) ε (!xs.isEmpty) := fun Q q => h _ q
theorem EvT.eqI {r1 r2 : PTE} {ε : PEnv} {x y : Int} (h1 : Ev r1 ε (.int x)) (h2 : Ev r2 ε (.int y)) : EvT (yBinT (oEq false) r1 r2) ε (decide (x = y)) := fun Q q => by
  have e : oEq false (.int x) (.int y) (asB fun k => Q k ε) := q
  exact h1 _ (h2 _ e)
theorem app_ev {r : PTE} {ε : PEnv} {Δ : PEnds} {i : Nat} {ds : List D} {d : D} (h : ε[i]? = some (some (.o ds))) (hr : Ev r ε d) (hl : ds.length < 16777216) (k : Δ.nx (ε.set i (some (.o (ds ++ [d]))))) : ysApp i r Δ ε := by
  unfold ysApp
  rw [h]
  refine hr _ ?_
  refine (?_ : match ε[i]? with
    | some (some (.o ds)) => gd (ds.length < 16777216) (Δ.nx (ε.set i (some (.o (ds ++ [d])))))
    | _ => False)
  rw [h]
  exact gd_of hl k
theorem tup2_ev {r1 r2 : PTE} {ε : PEnv} {a b : D} (h1 : Ev r1 ε a) (h2 : Ev r2 ε b) : Ev (yTup (ylCons r1 (ylCons r2 ylNil))) ε (.tup [a, b]) := fun Q q => h1 _ (h2 _ q)
theorem if_ev {rt : PTT} {r1 r2 : PTE} {ε : PEnv} {b : Bool} {d : D} (h : EvT rt ε b) (k1 : b = true → Ev r1 ε d) (k2 : b = false → Ev r2 ε d) : Ev (yIf rt r1 r2) ε d := fun Q q => h _ (by
  cases b with
  | true => exact k1 rfl _ q
  | false => exact k2 rfl _ q)
theorem len_ev {r : PTE} {ε : PEnv} {xs : List D} (h : Ev r ε (.lst xs)) : Ev (yCB oLen (ylCons r ylNil)) ε (.int (xs.length : Nat)) := fun Q q => h _ q
def isLstB : D → Bool
  | .lst _ => true
  | _ => false
def isTupB : D → Bool
  | .tup _ => true
  | _ => false
def isBlB : D → Bool
  | .bl _ => true
  | _ => false
def notFrl : D → Bool
  | .frl _ => false
  | _ => true
theorem EvT.not {r : PTT} {ε : PEnv} {a : Bool} (h : EvT r ε a) : EvT (yNot r) ε (!a) := fun Q q => h _ q
theorem isL_ev {r : PTE} {ε : PEnv} {d : D} (h : Ev r ε d) (hr : regB d = true) (hf : notFrl d = true) : EvT (yTru (yIs .list r)) ε (isLstB d) := fun Q q => h _ (by
  cases d <;> first | (cases hr; done) | (cases hf; done) | exact q)
theorem isT_ev {r : PTE} {ε : PEnv} {d : D} (h : Ev r ε d) (hr : regB d = true) : EvT (yTru (yIs .tuple r)) ε (isTupB d) := fun Q q => h _ (by
  cases d <;> first | (cases hr; done) | exact q)
theorem isB_ev {r : PTE} {ε : PEnv} {d : D} (h : Ev r ε d) (hr : regB d = true) : EvT (yTru (yIs .bool r)) ε (isBlB d) := fun Q q => h _ (by
  cases d <;> first | (cases hr; done) | exact q)
theorem whole_ev {r : PTE} {ε : PEnv} {d : D} {Ξ : Xi} (h : Ev r ε d) (hr : regB d = true) : Ev (yCall φ_is_whole Ξ (ylCons r ylNil)) ε (.bl (isWholeB d)) := call_ev1 h fun _ _ k => ⟨hr, k⟩
theorem ixv_ev {a b : Nat} {ε : PEnv} {xs : List D} {k : Nat} {d : D} (h0 : ε[a]? = some (some (.v (.lst xs)))) (h1 : ε[b]? = some (some (.v (.int (0 + (k : Int)))))) (h : xs[k]? = some d) : Ev (yIx (yVar a) (yVar b)) ε d := fun Q q => by
  unfold yIx yBin yVar
  simp only [h0, h1]
  exact opt_of (atI_k h) q
theorem ixo_ev {a b : Nat} {ε : PEnv} {xs : List D} {k : Nat} {d : D} (h0 : ε[a]? = some (some (.o xs))) (h1 : ε[b]? = some (some (.v (.int (0 + (k : Int)))))) (h : xs[k]? = some d) : Ev (yIx (yVar a) (yVar b)) ε d := fun Q q => by
  unfold yIx yBin yVar
  simp only [h0, h1]
  unfold res
  simp only [h0]
  exact opt_of (atI_k h) q
theorem Ev.mulA {r1 r2 : PTE} {ε : PEnv} {i j : Int} (h1 : Ev r1 ε (.int i)) (h2 : Ev r2 ε (.int j)) (g : (-18446744073709551616 < i ∧ i < 18446744073709551616) ∨ (-18446744073709551616 < j ∧ j < 18446744073709551616)) : Ev (yBin oMulA r1 r2) ε (.int (i * j)) := fun Q q => h1 _ (h2 _ (gd_of g q))
theorem ixc_ev {r : PTE} {ε : PEnv} {xs : List D} {j : Int} {d : D} (h : Ev r ε (.tup xs)) (e : atI xs j = some d) : Ev (yIx r (yC (.int j))) ε d := fun Q q => h _ (opt_of e q)
theorem ixl_ev {r1 r2 : PTE} {ε : PEnv} {xs : List D} {j : Int} {d : D} (h1 : Ev r1 ε (.lst xs)) (h2 : Ev r2 ε (.int j)) (e : atI xs j = some d) : Ev (yIx r1 r2) ε d := fun Q q => h1 _ (h2 _ (opt_of e q))
theorem lst2_ev {r1 r2 : PTE} {ε : PEnv} {a b : D} (h1 : Ev r1 ε a) (h2 : Ev r2 ε b) : Ev (yNew (ynLst (ylCons r1 (ylCons r2 ylNil)))) ε (.lst [a, b]) := fun Q q => h1 _ (h2 _ q)
theorem tup4_ev {r1 r2 r3 r4 : PTE} {ε : PEnv} {a b c d : D} (h1 : Ev r1 ε a) (h2 : Ev r2 ε b) (h3 : Ev r3 ε c) (h4 : Ev r4 ε d) : Ev (yTup (ylCons r1 (ylCons r2 (ylCons r3 (ylCons r4 ylNil))))) ε (.tup [a, b, c, d]) := fun Q q => h1 _ (h2 _ (h3 _ (h4 _ q)))
theorem intb_ev {r : PTE} {ε : PEnv} {b : Bool} (h : Ev r ε (.bl b)) : Ev (yCB oInt (ylCons r ylNil)) ε (.int (if b = true then 1 else 0)) := fun Q q => h _ q
theorem rep_flat {α : Type} (n : Nat) (x : α) : (List.replicate n [x]).flatten = List.replicate n x := by
  induction n with
  | zero => rfl
  | succ n ih => rw [List.replicate_succ, List.flatten_cons, ih]; rfl
theorem Ev.rep {r1 r2 : PTE} {ε : PEnv} {d : D} {n : Nat} (h1 : Ev r1 ε d) (h2 : Ev r2 ε (.int n)) (hn : n ≤ 1000) : Ev (yBin oMulA (yNew (ynLst (ylCons r1 ylNil))) r2) ε (.lst (List.replicate n d)) := fun Q q => by
  refine h1 _ (h2 _ ?_)
  have g : smallB (n : Int) = true ∧ [d].length * (n : Int).toNat ≤ 16777216 := ⟨small_by (by omega) (by omega), by show 1 * _ ≤ _; omega⟩
  refine gd_of g ?_
  rw [Int.toNat_natCast, rep_flat]
  exact q
theorem Ev.repI {r1 r2 : PTE} {ε : PEnv} {i : Int} {n : Nat} (h1 : Ev r1 ε (.int i)) (h2 : Ev r2 ε (.int n)) (hn : n ≤ 1000) : Ev (yBin oMulA (yNew (ynLst (ylCons r1 ylNil))) r2) ε (intsD (List.replicate n i)) := by
  have := Ev.rep h1 h2 hn
  unfold intsD
  rw [List.map_replicate]
  exact this
theorem Ev.andX {ra rb : PTE} {ε : PEnv} {a b : Bool} (h : Ev ra ε (.bl a)) (h0 : a = false → b = false) (h1 : a = true → Ev rb ε (.bl b)) : Ev (yAndV ra rb) ε (.bl b) := fun Q q => h _ (by
  cases a with
  | true => exact h1 rfl _ q
  | false =>
    rw [h0 rfl] at q
    exact q)
theorem call3_of {φ : Spec} {Ξ : Xi} {r1 r2 r3 : PTE} {ε : PEnv} {d1 d2 d3 : D} {Q : T → PEnv → Prop} (h1 : Ev r1 ε d1) (h2 : Ev r2 ε d2) (h3 : Ev r3 ε d3) (h : φ [d1, d2, d3] (fun d => Q (.d d) ε) (fun c => Ξ c ε)) : yCall φ Ξ (ylCons r1 (ylCons r2 (ylCons r3 ylNil))) ε Q := h1 _ (h2 _ (h3 _ h))
theorem call4_of {φ : Spec} {Ξ : Xi} {r1 r2 r3 r4 : PTE} {ε : PEnv} {d1 d2 d3 d4 : D} {Q : T → PEnv → Prop} (h1 : Ev r1 ε d1) (h2 : Ev r2 ε d2) (h3 : Ev r3 ε d3) (h4 : Ev r4 ε d4) (h : φ [d1, d2, d3, d4] (fun d => Q (.d d) ε) (fun c => Ξ c ε)) : yCall φ Ξ (ylCons r1 (ylCons r2 (ylCons r3 (ylCons r4 ylNil)))) ε Q := h1 _ (h2 _ (h3 _ (h4 _ h)))
theorem call2A {φ : Spec} {Ξ : Xi} {r1 r2 : PTE} {ε : PEnv} {d1 d2 : D} {P : D → Prop} (h1 : Ev r1 ε d1) (h2 : Ev r2 ε d2) (h : ∀ (Q : D → Prop) (E : Nat → Prop), (∀ d, P d → Q d) → φ [d1, d2] Q E) : EvA (yCall φ Ξ (ylCons r1 (ylCons r2 ylNil))) ε P := fun Q k => h1 _ (h2 _ (h _ _ k))
theorem pick_ev {Ξ : Xi} {ε : PEnv} {n : Int} (h : ε[0]? = some (some (.v .pool))) (hn : 0 < n) : EvA (yCall φ_law_pick Ξ (ylCons (yVar 0) (ylCons (yC (.int n)) ylNil))) ε (fun d => ∃ i : Int, d = .int i ∧ 0 ≤ i ∧ i < n) := call2A (Ev.var h) Ev.c fun Q E k => gd_of hn fun i i0 i1 => k _ ⟨i, rfl, i0, i1⟩
theorem EvT.eqB {r1 r2 : PTE} {ε : PEnv} {x y : Int} (h1 : Ev r1 ε (.int x)) (h2 : Ev r2 ε (.int y)) : Ev (yBin (oEq false) r1 r2) ε (.bl (decide (x = y))) := fun Q q => by
  have e : oEq false (.int x) (.int y) fun d => Q (.d d) ε := q
  exact h1 _ (h2 _ e)
theorem EvT.neB {r1 r2 : PTE} {ε : PEnv} {x y : Int} (h1 : Ev r1 ε (.int x)) (h2 : Ev r2 ε (.int y)) : Ev (yBin (oEq true) r1 r2) ε (.bl (!decide (x = y))) := fun Q q => by
  have e : oEq true (.int x) (.int y) fun d => Q (.d d) ε := q
  exact h1 _ (h2 _ e)
theorem sl_ev {r1 : PTE} {o1 o2 : PTO} {ε : PEnv} {xs : List D} {lo hi : Option Int} (h : Ev r1 ε (.lst xs)) (h1 : ∀ Q, Q lo ε → o1 ε Q) (h2 : ∀ Q, Q hi ε → o2 ε Q) : Ev (yNew (ynSl r1 o1 o2)) ε (.lst (cutD xs lo hi)) := fun Q q => h _ (h1 _ (h2 _ q))
theorem os_ev {r : PTE} {ε : PEnv} {i : Int} (h : Ev r ε (.int i)) : ∀ Q, Q (some i) ε → yoSome r ε Q := fun Q q => h _ q
theorem on_ev {ε : PEnv} : ∀ Q, Q none ε → yoNone ε Q := fun Q q => q
theorem lst1_ev {r : PTE} {ε : PEnv} {a : D} (h : Ev r ε a) : Ev (yNew (ynLst (ylCons r ylNil))) ε (.lst [a]) := fun Q q => h _ q
theorem lst4_ev {r1 r2 r3 r4 : PTE} {ε : PEnv} {a b c d : D} (h1 : Ev r1 ε a) (h2 : Ev r2 ε b) (h3 : Ev r3 ε c) (h4 : Ev r4 ε d) : Ev (yNew (ynLst (ylCons r1 (ylCons r2 (ylCons r3 (ylCons r4 ylNil)))))) ε (.lst [a, b, c, d]) := fun Q q => h1 _ (h2 _ (h3 _ (h4 _ q)))
theorem lst3_ev {r1 r2 r3 : PTE} {ε : PEnv} {a b c : D} (h1 : Ev r1 ε a) (h2 : Ev r2 ε b) (h3 : Ev r3 ε c) : Ev (yNew (ynLst (ylCons r1 (ylCons r2 (ylCons r3 ylNil))))) ε (.lst [a, b, c]) := fun Q q => h1 _ (h2 _ (h3 _ q))
theorem wholeN_ev {r : PTE} {ε : PEnv} {d : D} (h : Ev r ε d) (hr : regB d = true) : Ev (yAndV (yIs .int r) (yNotB (yIs .bool r))) ε (.bl (isWholeB d)) := fun Q q => h _ (by
  cases d <;> first | (cases hr; done) | exact h _ q | exact q)
theorem isBl_ev {r : PTE} {ε : PEnv} {d : D} (h : Ev r ε d) (hr : regB d = true) : Ev (yIs .bool r) ε (.bl (isBlB d)) := fun Q q => h _ (by
  cases d <;> first | (cases hr; done) | exact q)
theorem if_no {rt : PTT} {ε : PEnv} {A B : PTS} {Δ : PEnds} (h : EvT rt ε false) (k : B Δ ε) : ysIf rt A B Δ ε := h _ k
theorem tup1_ev {r : PTE} {ε : PEnv} {a : D} (h : Ev r ε a) : Ev (yTup (ylCons r ylNil)) ε (.tup [a]) := fun Q q => h _ q
theorem gtup3 {i j k : Nat} {d1 d2 d3 : D} {ε : PEnv} {Q : PEnv → Prop} (h : Q (((ε.set i (some (.v d1))).set j (some (.v d2))).set k (some (.v d3)))) : gTupY 3 [gN i, gN j, gN k] (.tup [d1, d2, d3]) ε Q := h

end PL.K57

set_option Elab.async false
set_option linter.all false
set_option autoImplicit false
set_option maxRecDepth 100000
set_option maxHeartbeats 1000000
namespace PL.K57
open PySem PySem.Spec PyProof.Rows L2
local macro_rules | `(tactic| walk_at "y") => `(tactic| conv => whnf)
/-- flat data: at most d deep -/
structure Fd (n : Nat) (d : D) : Prop where
  lay : (D.py d).canLay0 = true
  dep : (D.py d).depth ≤ n
theorem Fd.shaped {n : Nat} {d : D} (h : Fd n d) (hn : n ≤ 64 := by decide) : SeqAt.shaped (D.py d) = true := by
  show ((D.py d).canLay0 && decide ((D.py d).depth ≤ 64)) = true
  rw [h.lay, decide_eq_true (Nat.le_trans h.dep hn)]
  rfl
theorem fd_int (i : Int) : Fd 0 (.int i) := ⟨by simp only [D.py, PyData.canLay0], by simp only [D.py, PyData.depth]; omega⟩
theorem fd_bl (i : Bool) : Fd 0 (.bl i) := ⟨by simp only [D.py, PyData.canLay0], by simp only [D.py, PyData.depth]; omega⟩
theorem fd_non : Fd 0 .non := ⟨by simp only [D.py, PyData.canLay0], by simp only [D.py, PyData.depth]; omega⟩
theorem fd_opt (o : Option Int) : Fd 0 (optD o) := by
  cases o with
  | none => exact fd_non
  | some i => exact fd_int i
theorem Fd.mono {n m : Nat} {d : D} (h : Fd n d) (l : n ≤ m) : Fd m d := ⟨h.lay, Nat.le_trans h.dep l⟩
theorem fd_all {n : Nat} : ∀ {xs : List D}, (∀ d ∈ xs, Fd n d) → PyData.canLayAll0 (D.pys xs) = true ∧ PyData.depthAll (D.pys xs) ≤ n
  | [], _ => ⟨by simp only [D.pys, PyData.canLayAll0], by simp only [D.pys, PyData.depthAll]; omega⟩
  | x :: xs, h => by
    obtain ⟨a, b⟩ := fd_all fun d hd => h d (List.mem_cons_of_mem _ hd)
    have c := h x List.mem_cons_self
    refine ⟨?_, ?_⟩
    · simp only [D.pys, PyData.canLayAll0]
      rw [c.lay, a]; rfl
    · simp only [D.pys, PyData.depthAll]
      exact Nat.max_le.mpr ⟨c.dep, b⟩
theorem fd_lst {n : Nat} {xs : List D} (h : ∀ d ∈ xs, Fd n d) : Fd (n + 1) (.lst xs) := by
  obtain ⟨a, b⟩ := fd_all h
  exact ⟨by simpa only [D.py, PyData.canLay0] using a, by simp only [D.py, PyData.depth]; omega⟩
theorem fd_tup {n : Nat} {xs : List D} (h : ∀ d ∈ xs, Fd n d) : Fd (n + 1) (.tup xs) := by
  obtain ⟨a, b⟩ := fd_all h
  exact ⟨by simpa only [D.py, PyData.canLay0] using a, by simp only [D.py, PyData.depth]; omega⟩
theorem fd_ints (ns : List Int) : Fd 1 (intsD ns) := fd_lst fun d hd => by
  obtain ⟨i, _, rfl⟩ := List.mem_map.mp hd
  exact fd_int i
theorem eqv_lnil {ds : List D} : PyData.eqv (D.py (.lst ds)) (D.py (.lst [])) = ds.isEmpty := by
  cases ds <;> rfl
theorem fd_pt (p : Pt) : Fd 1 (ptD p) := fd_tup fun d hd => by
  simp only [List.mem_cons, List.not_mem_nil, or_false] at hd
  rcases hd with rfl | rfl | rfl | rfl
  · exact fd_int _
  · exact fd_int _
  · exact fd_opt _
  · exact fd_opt _
theorem fd_pts (ps : List Pt) : Fd 2 (ptsD ps) := fd_lst fun d hd => by
  obtain ⟨p, _, rfl⟩ := List.mem_map.mp hd
  exact fd_pt p
theorem eqv_ints : ∀ {a b : List Int}, PyData.eqvAll (D.pys (a.map D.int)) (D.pys (b.map D.int)) = decide (a = b)
  | [], [] => rfl
  | [], _ :: _ => rfl
  | _ :: _, [] => rfl
  | x :: a, y :: b => by
    have e : PyData.eqvAll (D.pys ((x :: a).map D.int)) (D.pys ((y :: b).map D.int)) = (decide (x = y) && PyData.eqvAll (D.pys (a.map D.int)) (D.pys (b.map D.int))) := by
      show (PyData.eqv (.int x) (.int y) && _) = _
      simp only [PyData.eqv]
      by_cases h : x = y <;> simp [h]
    rw [e, eqv_ints]
    by_cases h : x = y <;> by_cases h2 : a = b <;> simp [h, h2]
theorem Ev.eqL {r1 r2 : PTE} {ε : PEnv} {a b : List Int} (h1 : Ev r1 ε (intsD a)) (h2 : Ev r2 ε (intsD b)) : Ev (yBin (oEq false) r1 r2) ε (.bl (decide (a = b))) := fun Q q => h1 _ (h2 _ (by
  have z : PyData.eqv (D.py (intsD a)) (D.py (intsD b)) = decide (a = b) := eqv_ints
  refine (?_ : gd (SeqAt.shaped (D.py (intsD a)) = true ∧ SeqAt.shaped (D.py (intsD b)) = true) (Q (.d (.bl (PyData.eqv (D.py (intsD a)) (D.py (intsD b))))) ε))
  refine gd_of ⟨(fd_ints a).shaped, (fd_ints b).shaped⟩ ?_
  rw [z]
  exact q))
theorem Ev.eqS {r1 r2 : PTE} {ε : PEnv} {ps : List Pt} (h1 : Ev r1 ε (ptsD ps)) (h2 : Ev r2 ε (ptsD ps)) : Ev (yBin (oEq false) r1 r2) ε (.bl true) := fun Q q => h1 _ (h2 _ (by
  have z : PyData.eqv (D.py (ptsD ps)) (D.py (ptsD ps)) = true := PySem.SeqAt.eqv_refl _ (fd_pts ps).lay
  refine (?_ : gd (SeqAt.shaped (D.py (ptsD ps)) = true ∧ SeqAt.shaped (D.py (ptsD ps)) = true) (Q (.d (.bl (PyData.eqv (D.py (ptsD ps)) (D.py (ptsD ps))))) ε))
  refine gd_of ⟨(fd_pts ps).shaped, (fd_pts ps).shaped⟩ ?_
  rw [z]
  exact q))
/-! ### is_right_ratio, is_share -/
def RtOk (v : D) : Prop := regT v = true ∧ ∀ a b, v = .tup [.int a, .int b] → 1 ≤ b → Nat.gcd a.natAbs b.natAbs = 1 → Bn 250 a ∧ Bn 250 b
def φ_is_right_ratio : Spec := fun ds Q _ => ∃ ps room v, ds = [ptsD ps, .int room, v] ∧ InF ps room ∧ RtOk v ∧ Q (.bl (rightB ps room v))
theorem right_len {ps : List Pt} {room : Int} {xs : List D} (h : ¬ (xs.length : Int) = 2) : rightB ps room (.tup xs) = false := by
  unfold rightB
  split
  · rename_i e; cases e
  · rename_i e; cases e; exact (h rfl).elim
  · rfl
theorem right_w {ps : List Pt} {room : Int} {a b : D} (h : isWholeB a = false ∨ isWholeB b = false) : rightB ps room (.tup [a, b]) = false := by
  unfold rightB
  split
  · rename_i e; cases e
  · rename_i e; cases e; rcases h with h | h <;> cases h
  · rfl
theorem Ev.gcd {r1 r2 : PTE} {ε : PEnv} {i j : Int} (h1 : Ev r1 ε (.int i)) (h2 : Ev r2 ε (.int j)) : Ev (yCB oGcd (ylCons r1 (ylCons r2 ylNil))) ε (.int ((Nat.gcd i.natAbs j.natAbs : Nat) : Int)) := fun Q q => h1 _ (h2 _ q)
theorem EvT.neT {r1 r2 : PTE} {ε : PEnv} {x y : Int} (h1 : Ev r1 ε (.int x)) (h2 : Ev r2 ε (.int y)) : EvT (yBinT (oEq true) r1 r2) ε (!decide (x = y)) := fun Q q => h1 _ (h2 _ q)
abbrev N_is_right_ratio : List Str := ["parts", "room", "value", "top", "low"]
def r_is_right_ratio (Ξ : Xi) : PTS :=
  (ysSeq (ysIf (yBinT (oIsN false) (yVar 2) (yC .non))
  (ysRet (yBin (oIsN false) (yCall φ_ratio_of Ξ (ylCons (yVar 0) (ylCons (yVar 1) ylNil))) (yC .non)))
  ysNext)
  (ysSeq (ysIf (yOr (yNot (yTru (yIs .tuple (yVar 2)))) (yOr (yBinT (oEq true) (yCB oLen (ylCons (yVar 2) ylNil)) (yC (.int 2))) (yOr (yNot (yTru (yCall φ_is_whole Ξ (ylCons (yIx (yVar 2) (yC (.int 0))) ylNil)))) (yNot (yTru (yCall φ_is_whole Ξ (ylCons (yIx (yVar 2) (yC (.int 1))) ylNil)))))))
  (ysRet (yC (.bl false)))
  ysNext)
  (ysSeq (ysAsgG (yVar 2) (gTupY 2 [(gN 3), (gN 4)]))
  (ysSeq (ysIf (yOr (yBinT oLt (yVar 4) (yC (.int 1))) (yBinT (oEq true) (yCB oGcd (ylCons (yVar 3) (ylCons (yVar 4) ylNil))) (yC (.int 1))))
  (ysRet (yC (.bl false)))
  ysNext)
  (ysRet (yBin (oEq false) (yCB oSum (ylCons (yCall φ_tops_at Ξ (ylCons (yVar 0) (ylCons (yVar 3) (ylCons (yVar 4) ylNil)))) ylNil)) (yBin oMulW (yVar 1) (yVar 4))))))))
theorem vc_is_right_ratio (ds : List D) (Q' : D → Prop) (E' : Nat → Prop) (h : φ_is_right_ratio ds Q' E') : r_is_right_ratio (fun c _ => E' c) { nx := fun _ => Q' .non, rt := fun d _ => Q' d } (startE N_is_right_ratio ds) := by
  obtain ⟨ps, room, v, rfl, hi, ⟨hv, hb⟩, h⟩ := h
  cases v with
  | vl _ => cases hv
  | pool => cases hv
  | err _ _ => cases hv
  | non =>
    refine ⟨ps, room, rfl, hi.i, hi.f, hi.r, ?_⟩
    replace h : Q' (.bl (ratioI ps room).isNone) := h
    generalize ratioI ps room = r at h ⊢
    cases r with
    | none => exact h
    | some k => exact h
  | tup xs =>
    walk_at "y"
    show (match !decide ((xs.length : Int) = 2) with
      | true => _
      | false => _)
    cases e : decide ((xs.length : Int) = 2) with
    | false =>
      rw [right_len (of_decide_eq_false e)] at h
      exact h
    | true =>
      have e := of_decide_eq_true e
      rcases xs with _ | ⟨a, _ | ⟨b, _ | ⟨c, xs⟩⟩⟩
      · cases e
      · cases e
      · obtain ⟨r1, r2⟩ := Bool.and_eq_true_iff.mp (show (regB a && [b].all regB) = true from hv)
        obtain ⟨r2, _⟩ := Bool.and_eq_true_iff.mp (show (regB b && [].all regB) = true from r2)
        refine ⟨r1, ?_⟩
        cases w1 : isWholeB a with
        | false => rw [right_w (.inl w1)] at h; exact h
        | true =>
        refine ⟨r2, ?_⟩
        cases w2 : isWholeB b with
        | false => rw [right_w (.inr w2)] at h; exact h
        | true =>
        obtain ⟨a, rfl⟩ := whole_of w1
        obtain ⟨b, rfl⟩ := whole_of w2
        let ε : PEnv := [some (.v (ptsD ps)), some (.v (.int room)), some (.v (.tup [.int a, .int b])), some (.v (.int a)), some (.v (.int b))]
        show ysNext _ _
        refine nx_of ?_
        dsimp only
        refine seq_step ε (fun K k => gtup2 (d1 := .int a) (d2 := .int b) k) ?_
        replace h : Q' (.bl (decide (1 ≤ b) && (decide (Nat.gcd a.natAbs b.natAbs = 1) && decide (sumI ps a b = room * b)))) := h
        refine seq_in (if_evT (b := decide (b < 1) || !decide (((Nat.gcd a.natAbs b.natAbs : Nat) : Int) = 1)) (EvT.or (EvT.int (Ev.var rfl) Ev.c) (EvT.neT (Ev.gcd (Ev.var rfl) (Ev.var rfl)) Ev.c)) ?_)
        by_cases e1 : 1 ≤ b
        · by_cases e2 : Nat.gcd a.natAbs b.natAbs = 1
          · obtain ⟨ba, bb⟩ := hb a b rfl e1 e2
            rw [decide_eq_true e1, decide_eq_true e2] at h
            rw [decide_eq_false (show ¬ b < 1 by omega), e2]
            show ysNext _ _
            refine nx_of ?_
            dsimp only
            have t1 : Ev (yCB oSum (ylCons (yCall φ_tops_at (fun c _ => E' c) (ylCons (yVar 0) (ylCons (yVar 3) (ylCons (yVar 4) ylNil)))) ylNil)) ε (.int (sumI ps a b)) := tops_ev (call_ev3 (Ev.var rfl) (Ev.var rfl) (Ev.var rfl) fun K E k => ⟨ps, a, b, rfl, hi.i.b, ba, bb, by have := hi.i.n; omega, k⟩)
            exact ret_ev (EvT.eqB t1 (Ev.mulW (Ev.var rfl) (Ev.var rfl) (wide_of hi.r bb))) h
          · rw [decide_eq_false e2, Bool.false_and, Bool.and_false] at h
            rw [decide_eq_false (show ¬ ((Nat.gcd a.natAbs b.natAbs : Nat) : Int) = 1 by omega), Bool.not_false, Bool.or_true]
            exact h
        · rw [decide_eq_false e1, Bool.false_and] at h
          rw [decide_eq_true (show b < 1 by omega), Bool.true_or]
          exact h
      · simp only [List.length_cons] at e
        omega
  | _ => exact h
def SzOk : D → Prop
  | .lst xs => xs.all regB = true ∧ xs.length ≤ 1000
  | .frl _ => False
  | d => regB d = true
def φ_is_share : Spec := fun ds Q E => ∃ d r s v, ds = [d, r, s, v] ∧ regP d = true ∧ regB r = true ∧ (okB d r = false → E 12) ∧
  (okB d r = true → ∃ ps room, d = ptsD ps ∧ r = .int room ∧ InF ps room ∧ RtOk v ∧ SzOk s ∧ ∀ b : Bool, (b = true ↔ rightB ps room v = true ∧ s = .lst (sizesD ps room (rOf v))) → Q (.bl b))

end PL.K57

set_option Elab.async false
set_option linter.all false
set_option autoImplicit false
set_option maxRecDepth 100000
set_option maxHeartbeats 1000000
namespace PL.K57
open PySem PySem.Spec PyProof.Rows L2
local macro_rules | `(tactic| walk_at "y") => `(tactic| conv => whnf)
theorem right_is {ps : List Pt} {room : Int} {v : D} (h : rightB ps room v = true) : ∃ r, v = ratD r := by
  unfold rightB at h
  split at h
  · exact ⟨none, rfl⟩
  · rename_i a b
    exact ⟨some (a, b), rfl⟩
  · cases h
theorem wholes_are : ∀ {xs : List D}, xs.all isWholeB = true → ∃ zs : List Int, xs = zs.map D.int
  | [], _ => ⟨[], rfl⟩
  | d :: xs, h => by
    obtain ⟨h1, h2⟩ := Bool.and_eq_true_iff.mp h
    obtain ⟨i, rfl⟩ := whole_of h1
    obtain ⟨zs, rfl⟩ := wholes_are h2
    exact ⟨i :: zs, rfl⟩
theorem all_whole (zs : List Int) : (zs.map D.int).all isWholeB = true := List.all_eq_true.mpr fun d hd => by
  obtain ⟨i, _, rfl⟩ := List.mem_map.mp hd
  rfl
theorem ints_inj : ∀ {a b : List Int}, a.map D.int = b.map D.int → a = b
  | [], [], _ => rfl
  | [], _ :: _, h => by cases h
  | _ :: _, [], h => by cases h
  | x :: a, y :: b, h => by
    rw [List.map_cons, List.map_cons] at h
    injection h with h1 h2
    injection h1 with h1
    rw [h1, ints_inj h2]
abbrev N_is_share : List Str := ["parts", "room", "sizes", "t", "size"]
def r_is_share (Ξ : Xi) : PTS :=
  (ysSeq (ysDrop (yCall φ_check_parts Ξ (ylCons (yVar 0) (ylCons (yVar 1) ylNil))))
  (ysSeq (ysIf (yOr (yNot (yTru (yCall φ_is_right_ratio Ξ (ylCons (yVar 0) (ylCons (yVar 1) (ylCons (yVar 3) ylNil)))))) (yNot (yTru (yIs .list (yVar 2)))))
  (ysRet (yC (.bl false)))
  ysNext)
  (ysSeq (ysIf (yNot (yTru (yCB oAll (ylCons (yNew (ynLc (yiSeq (yVar 2)) (gN 4) yYes (yCall φ_is_whole Ξ0 (ylCons (yVar 4) ylNil)) [4])) ylNil))))
  (ysRet (yC (.bl false)))
  ysNext)
  (ysRet (yBin (oEq false) (yVar 2) (yCall φ_sizes_at Ξ (ylCons (yVar 0) (ylCons (yVar 1) (ylCons (yVar 3) ylNil)))))))))
theorem vc_is_share (ds : List D) (Q' : D → Prop) (E' : Nat → Prop) (h : φ_is_share ds Q' E') : r_is_share (fun c _ => E' c) { nx := fun _ => Q' .non, rt := fun d _ => Q' d } (startE N_is_share ds) := by
  obtain ⟨d, r, s, v, rfl, h1, h2, hb, hg⟩ := h
  refine ⟨h1, h2, hb, fun hv => ?_⟩
  obtain ⟨ps, room, rfl, rfl, hi, rt, sz, h⟩ := hg hv
  let ε : PEnv := [some (.v (ptsD ps)), some (.v (.int room)), some (.v s), some (.v v), none]
  have sr : regB s = true ∧ notFrl s = true := by
    cases s <;> first | exact ⟨rfl, rfl⟩ | exact ⟨sz, rfl⟩ | (cases sz; done)
  dsimp only
  refine seq_in (if_evT (ε := ε) (b := !rightB ps room v || !isLstB s) (EvT.or (EvT.not (EvT.truB (call_ev3 (Ev.var rfl) (Ev.var rfl) (Ev.var rfl) fun K E k => ⟨ps, room, v, rfl, hi, rt, k⟩))) (EvT.not (isL_ev (Ev.var rfl) sr.1 sr.2))) ?_)
  cases e1 : rightB ps room v with
  | false => exact h false ⟨fun z => (by cases z), fun z => (by rw [e1] at z; cases z.1)⟩
  | true =>
    obtain ⟨r, rfl⟩ := right_is e1
    have es := sizes_right hi.f e1
    rw [rOf_rat, es] at h
    have no : s ≠ shareD ps room → Q' (.bl false) := fun n => h false ⟨fun z => (by cases z), fun z => absurd z.2 n⟩
    have yes : s = shareD ps room → Q' (.bl true) := fun n => h true ⟨fun _ => ⟨e1, n⟩, fun _ => rfl⟩
    cases s with
    | lst xs =>
      obtain ⟨z1, z2⟩ := sz
      show ysNext _ _
      refine nx_of ?_
      dsimp only
      have aw : ∀ {Q : T → PEnv → Prop}, Q (.d (.bl (xs.all isWholeB))) ε → yCB oAll (ylCons (yNew (ynLc (yiSeq (yVar 2)) (gN 4) yYes (yCall φ_is_whole Ξ0 (ylCons (yVar 4) ylNil)) [4])) ylNil) ε Q := fun {Q} q => by
        refine ⟨⟨trivial, trivial⟩, by omega, lc_map (boolD isWholeB) (fun i d hd K N hk => ?_) ?_⟩
        · exact ⟨List.all_eq_true.mp z1 _ (List.mem_of_getElem? hd), rfl, hk⟩
        · rw [map_bool]
          refine opt_of (toBls_map _) ?_
          rw [List.all_map]
          exact q
      refine seq_in (if_evT (ε := ε) (b := !xs.all isWholeB) (EvT.not (EvT.truB fun Q q => aw q)) ?_)
      cases e2 : xs.all isWholeB with
      | false =>
        refine no fun z => ?_
        injection z with z
        rw [z, all_whole] at e2
        cases e2
      | true =>
        obtain ⟨zs, rfl⟩ := wholes_are e2
        show ysNext _ _
        refine nx_of ?_
        dsimp only
        have t1 : Ev (yCall φ_sizes_at (fun c _ => E' c) (ylCons (yVar 0) (ylCons (yVar 1) (ylCons (yVar 3) ylNil)))) ε (intsD (lawShare ps room)) := call_ev3 (Ev.var rfl) (Ev.var rfl) (Ev.var rfl) fun K E k => ⟨ps, room, r, rfl, hi.i, hi.f, fun q eq => by
          subst eq
          obtain ⟨a1, a2, _⟩ := right_some e1
          exact ⟨a1, rt.2 _ _ rfl (by omega) a2⟩, by rw [es]; exact k⟩
        refine ret_ev (Ev.eqL (a := zs) (Ev.var rfl) t1) ?_
        by_cases e3 : zs = lawShare ps room
        · rw [decide_eq_true e3]
          exact yes (by rw [e3]; rfl)
        · rw [decide_eq_false e3]
          refine no fun z => e3 ?_
          injection z with z
          exact ints_inj z
    | frl _ => exact sz.elim
    | _ => exact no (fun z => by cases z)
def φ_law_is_yes : Spec := fun ds Q _ => ∃ a b : Bool, ds = [.bl a, .bl b] ∧ Q (.bl (decide (a = b)))
abbrev N_law_is_yes : List Str := ["value", "due"]
def r_law_is_yes (Ξ : Xi) : PTS :=
  (ysRet (yAndV (yIs .bool (yVar 0)) (yBin (oEq false) (yVar 0) (yVar 1))))
theorem vc_law_is_yes (ds : List D) (Q' : D → Prop) (E' : Nat → Prop) (h : φ_law_is_yes ds Q' E') : r_law_is_yes (fun c _ => E' c) { nx := fun _ => Q' .non, rt := fun d _ => Q' d } (startE N_law_is_yes ds) := by
  obtain ⟨a, b, rfl, h⟩ := h
  exact h
def φ_law_outcome : Spec := fun ds Q _ => ∃ d r s v, ds = [d, r, s, v] ∧ regP d = true ∧ regB r = true ∧ okB d r = false ∧ Q (.bl true)
abbrev exCs : List Nat := [0, 10, 12]
abbrev N_law_outcome : List Str := ["parts", "room", "sizes", "ratio", "e"]
def r_law_outcome (Ξ : Xi) : PTS :=
  (ysSeq (ysTry exCs 4 (fun Ξb => (ysDrop (yCall φ_is_share Ξb (ylCons (yVar 0) (ylCons (yVar 1) (ylCons (yVar 2) (ylCons (yVar 3) ylNil)))))))
  (fun a c => (ysRet (yAndV (yIsE 4 a c 12) (yNotB (yIsE 4 a c 10))))))
  (ysRet (yC (.bl false))))
theorem vc_law_outcome (ds : List D) (Q' : D → Prop) (E' : Nat → Prop) (h : φ_law_outcome ds Q' E') : r_law_outcome (fun c _ => E' c) { nx := fun _ => Q' .non, rt := fun d _ => Q' d } (startE N_law_outcome ds) := by
  obtain ⟨d, r, s, v, rfl, h1, h2, h3, h⟩ := h
  refine ⟨d, r, s, v, rfl, h1, h2, fun _ => ⟨by decide, fun a => ⟨rfl, rfl, h⟩⟩, fun z => (by rw [h3] at z; cases z)⟩

end PL.K57

set_option Elab.async false
set_option linter.all false
set_option autoImplicit false
set_option maxRecDepth 100000
set_option maxHeartbeats 1000000
namespace PL.K57
open PySem PySem.Spec PyProof.Rows L2
local macro_rules | `(tactic| walk_at "y") => `(tactic| conv => whnf)
/-! ### _law_ends, _law_has -/
theorem most_d (p : Pt) : optD p.hi = (match decide (0 < p.w) with
    | true => optD (mostO p)
    | false => optD p.hi) := by
  unfold mostO
  by_cases z : 0 < p.w
  · rw [if_pos z, decide_eq_true z]
  · rw [decide_eq_false z]
def anyN (ps : List Pt) : Bool := ps.any fun p => decide (0 < p.w) && p.hi.isNone
theorem anyN_no {ps : List Pt} : anyN ps = false ↔ ∀ p ∈ ps, ∃ m, mostO p = some m := by
  unfold anyN
  rw [List.any_eq_false]
  refine ⟨fun h p hp => ?_, fun h p hp z => ?_⟩
  · have := h p hp
    unfold mostO
    by_cases w : 0 < p.w
    · rw [if_pos w]
      rw [decide_eq_true w, Bool.true_and] at this
      cases e : p.hi with
      | none => rw [e] at this; exact absurd rfl this
      | some m => exact ⟨m, rfl⟩
    · rw [if_neg w]
      exact ⟨_, rfl⟩
  · obtain ⟨m, em⟩ := h p hp
    obtain ⟨z1, z2⟩ := Bool.and_eq_true_iff.mp z
    unfold mostO at em
    rw [if_pos (of_decide_eq_true z1)] at em
    rw [em] at z2
    cases z2
def mostsO (ps : List Pt) : Option Int := match anyN ps with
  | true => none
  | false => some (mosts ps)
def φ_law_ends : Spec := fun ds Q _ => ∃ ps, ds = [ptsD ps] ∧ Fl ps ∧ ps.length ≤ 1000 ∧ Q (.tup [.int (leasts ps), optD (mostsO ps)])
abbrev N_law_ends : List Str := ["parts", "least", "base", "weight", "lo", "hi"]
def r_law_ends (Ξ : Xi) : PTS :=
  (ysSeq (ysAsg (yCB oSum (ylCons (yNew (ynLc (yiSeq (yVar 0)) (gTupY 4 [(gN 2), (gN 3), (gN 4), (gN 5)]) yYes (yIx (yNew (ynLst (ylCons (yCall φ_law_cut Ξ0 (ylCons (yVar 2) (ylCons (yVar 4) (ylCons (yVar 5) ylNil)))) (ylCons (yVar 4) ylNil)))) (yCB oInt (ylCons (yBin oGt (yVar 3) (yC (.int 0))) ylNil))) [2, 3, 4, 5])) ylNil)) 1)
  (ysSeq (ysIf (yTru (yCB oAny (ylCons (yNew (ynLc (yiSeq (yVar 0)) (gTupY 4 [(gN 2), (gN 3), (gN 4), (gN 5)]) yYes (yAndV (yBin oGt (yVar 3) (yC (.int 0))) (yBin (oIsN false) (yVar 5) (yC .non))) [2, 3, 4, 5])) ylNil)))
  (ysRet (yTup (ylCons (yVar 1) (ylCons (yC .non) ylNil))))
  ysNext)
  (ysRet (yTup (ylCons (yVar 1) (ylCons (yCB oSum (ylCons (yNew (ynLc (yiSeq (yVar 0)) (gTupY 4 [(gN 2), (gN 3), (gN 4), (gN 5)]) yYes (yIx (yNew (ynLst (ylCons (yCall φ_law_cut Ξ0 (ylCons (yVar 2) (ylCons (yVar 4) (ylCons (yVar 5) ylNil)))) (ylCons (yVar 5) ylNil)))) (yCB oInt (ylCons (yBin oGt (yVar 3) (yC (.int 0))) ylNil))) [2, 3, 4, 5])) ylNil)) ylNil))))))
theorem vc_law_ends (ds : List D) (Q' : D → Prop) (E' : Nat → Prop) (h : φ_law_ends ds Q' E') : r_law_ends (fun c _ => E' c) { nx := fun _ => Q' .non, rt := fun d _ => Q' d } (startE N_law_ends ds) := by
  obtain ⟨ps, rfl, hf, hn, h⟩ := h
  let e (a : Option S) : PEnv := [some (.v (ptsD ps)), a, none, none, none, none]
  have hl : (ps.map ptD).length ≤ 16777216 := by rw [List.length_map]; omega
  refine seq_step (e (some (.v (.int (leasts ps))))) (fun K k => ?_) ?_
  · refine ⟨⟨trivial, trivial, trivial, trivial, trivial⟩, hl, lc_list (S := ps) (m := ptD) (f := fun p => .int (leastI p)) (fun p hp K N k => ?_) ?_⟩
    · obtain ⟨ok, l, el⟩ := hf p hp
      refine gtup4 ?_
      rw [least_d el] at k
      rw [el] at k
      rw [el]
      refine ⟨p.b, l, p.hi, rfl, _, lc_cut fun h e => ok.le l h el e, ?_⟩
      exact opt_of (ix2 (b := decide (0 < p.w))) ⟨rfl, k⟩
    · rw [least_ints']
      exact opt_of (toInts_map _) k
  have ta : Ev (yCB oAny (ylCons (yNew (ynLc (yiSeq (yVar 0)) (gTupY 4 [(gN 2), (gN 3), (gN 4), (gN 5)]) yYes (yAndV (yBin oGt (yVar 3) (yC (.int 0))) (yBin (oIsN false) (yVar 5) (yC .non))) [2, 3, 4, 5])) ylNil)) (e (some (.v (.int (leasts ps))))) (.bl (anyN ps)) := fun Q q => by
    refine ⟨⟨trivial, trivial, trivial, trivial, trivial⟩, hl, lc_list (S := ps) (m := ptD) (f := fun p => .bl (decide (0 < p.w) && p.hi.isNone)) (fun p hp K N k => ?_) ?_⟩
    · refine gtup4 ?_
      let E2 : PEnv := [some (.v (ptsD ps)), some (.v (.int (leasts ps))), some (.v (.int p.b)), some (.v (.int p.w)), some (.v (optD p.lo)), some (.v (optD p.hi))]
      refine (?_ : yYes E2 _)
      refine yes_ev (d := .bl (decide (0 < p.w) && p.hi.isNone)) (Ev.andB (Ev.cmp (f := fun i j => decide (j < i)) (Ev.var (i := 3) rfl) Ev.c) ?_) ⟨rfl, k⟩
      have hv : Ev (yVar 5) E2 (optD p.hi) := Ev.var rfl
      revert hv
      generalize p.hi = o
      intro hv
      cases o with
      | none => exact Ev.isN (o := none) (neg := false) hv
      | some x => exact Ev.isN (o := some x) (neg := false) hv
    · have eb : (ps.map fun p => D.bl (decide (0 < p.w) && p.hi.isNone)) = (ps.map fun p => decide (0 < p.w) && p.hi.isNone).map D.bl := by rw [List.map_map]; rfl
      rw [eb]
      refine opt_of (toBls_map _) ?_
      have : (ps.map fun p => decide (0 < p.w) && p.hi.isNone).any id = anyN ps := by rw [List.any_map]; rfl
      rw [this]
      exact q
  refine seq_in (if_evT (EvT.truB ta) ?_)
  unfold mostsO at h
  cases e1 : anyN ps with
  | true =>
    rw [e1] at h
    exact h
  | false =>
    rw [e1] at h
    have hm := anyN_no.mp e1
    show ysNext _ _
    refine nx_of ?_
    dsimp only
    refine ret_ev (tup2_ev (ε := e (some (.v (.int (leasts ps))))) (a := .int (leasts ps)) (b := .int (mosts ps)) (Ev.var rfl) fun Q q => ?_) h
    refine ⟨⟨trivial, trivial, trivial, trivial, trivial⟩, hl, lc_list (S := ps) (m := ptD) (f := fun p => optD (mostO p)) (fun p hp K N k => ?_) ?_⟩
    · obtain ⟨ok, l, el⟩ := hf p hp
      refine gtup4 ?_
      have k2 : K (match decide (0 < p.w) with
        | true => optD p.hi
        | false => .int (cutI p.b (some l) p.hi)) := by
        have : optD (mostO p) = (match decide (0 < p.w) with
          | true => optD p.hi
          | false => .int (cutI p.b (some l) p.hi)) := by
          unfold mostO
          rw [el]
          by_cases z : 0 < p.w
          · rw [if_pos z, decide_eq_true z]
          · rw [if_neg z, decide_eq_false z]
            rfl
        rw [← this]
        exact k
      rw [el]
      refine ⟨p.b, l, p.hi, rfl, _, lc_cut fun h e => ok.le l h el e, ?_⟩
      exact opt_of (ix2 (b := decide (0 < p.w))) ⟨rfl, k2⟩
    · rw [most_ints' hm]
      exact opt_of (toInts_map _) q
def hasB (ps : List Pt) (room : Int) : Bool := decide (leasts ps ≤ room) && (anyN ps || decide (room ≤ mosts ps))
theorem has_right {ps : List Pt} {room : Int} (ok : Fl ps) : (!hasB ps room) = rightB ps room .non := by
  show _ = (ratioI ps room).isNone
  unfold hasB
  cases e : ratioI ps room with
  | none =>
    rcases (none_iff ok).mp e with z | ⟨hm, z⟩
    · rw [decide_eq_false (by omega)]
      rfl
    · rw [anyN_no.mpr hm, decide_eq_false (show ¬ room ≤ mosts ps by omega)]
      simp
  | some k =>
    have n : ¬ (room < leasts ps ∨ ((∀ p ∈ ps, ∃ m, mostO p = some m) ∧ mosts ps < room)) := fun z => by
      have := (none_iff ok).mpr z
      rw [e] at this
      cases this
    have n1 : leasts ps ≤ room := by
      refine Int.not_lt.mp fun z => n (.inl z)
    rw [decide_eq_true n1]
    cases e2 : anyN ps with
    | true => rfl
    | false =>
      have hm := anyN_no.mp e2
      have n2 : room ≤ mosts ps := Int.not_lt.mp fun z => n (.inr ⟨hm, z⟩)
      rw [decide_eq_true n2]
      rfl
def φ_law_has : Spec := fun ds Q _ => ∃ ps room, ds = [ptsD ps, .int room] ∧ Fl ps ∧ ps.length ≤ 1000 ∧ Q (.bl (hasB ps room))
abbrev N_law_has : List Str := ["parts", "room", "least", "most"]
def r_law_has (Ξ : Xi) : PTS :=
  (ysSeq (ysAsgG (yCall φ_law_ends Ξ (ylCons (yVar 0) ylNil)) (gTupY 2 [(gN 2), (gN 3)]))
  (ysRet (yAndV (yBin oLeA (yVar 2) (yVar 1)) (yOrV (yBin (oIsN false) (yVar 3) (yC .non)) (yBin oLeA (yVar 1) (yVar 3))))))
theorem vc_law_has (ds : List D) (Q' : D → Prop) (E' : Nat → Prop) (h : φ_law_has ds Q' E') : r_law_has (fun c _ => E' c) { nx := fun _ => Q' .non, rt := fun d _ => Q' d } (startE N_law_has ds) := by
  obtain ⟨ps, room, rfl, hf, hn, h⟩ := h
  let ε : PEnv := [some (.v (ptsD ps)), some (.v (.int room)), some (.v (.int (leasts ps))), some (.v (optD (mostsO ps)))]
  refine seq_step ε (fun K k => ⟨ps, rfl, hf, hn, gtup2 (d1 := .int (leasts ps)) (d2 := optD (mostsO ps)) k⟩) ?_
  refine ret_ev (Ev.andB (Ev.leA (Ev.var rfl) (Ev.var rfl)) (Ev.orN (o := mostsO ps) rfl (fun z => ?_) fun x z => ?_)) h
  · unfold mostsO at z
    cases e1 : anyN ps with
    | true => rfl
    | false => rw [e1] at z; cases z
  · have ex : anyN ps = false ∧ x = mosts ps := by
      unfold mostsO at z
      cases e1 : anyN ps with
      | true => rw [e1] at z; cases z
      | false => rw [e1] at z; cases z; exact ⟨rfl, rfl⟩
    rw [ex.1, Bool.false_or, ← ex.2]
    exact Ev.leA (Ev.var rfl) (var_o (o := mostsO ps) rfl z)

end PL.K57

set_option Elab.async false
set_option linter.all false
set_option autoImplicit false
set_option maxRecDepth 100000
set_option maxHeartbeats 1000000
namespace PL.K57
open PySem PySem.Spec PyProof.Rows L2
local macro_rules | `(tactic| walk_at "y") => `(tactic| conv => whnf)
theorem tup3E {r1 r2 r3 : PTE} {ε : PEnv} {a b c : D} (h1 : Ev r1 ε a) (h2 : Ev r2 ε b) (h3 : Ev r3 ε c) : Ev (yTup (ylCons r1 (ylCons r2 (ylCons r3 ylNil)))) ε (.tup [a, b, c]) := fun Q q => h1 _ (h2 _ (h3 _ q))
/-! ### _law_papers -/
structure RtP (k : Int × Int) : Prop where
  low : 0 < k.2
  gcd : Nat.gcd k.1.natAbs k.2.natAbs = 1
  b1 : Bn 250 k.1
  b2 : Bn 250 k.2
theorem rt_low {n d : Int} (hd : 0 < d) (hn : Bn 250 n) (hb : Bn 250 d) : RtP (lowI n d) := ⟨(lowI_low hd).1, lowI_gcd hd, (lowI_b hd hn hb).1, (lowI_b hd hn hb).2⟩
/-- a paper: a ratio and whether it is right -/
structure Pap where
  r : Option (Int × Int)
  due : Bool
def papD (L : List Int) (p : Pap) : D := .tup [intsD L, ratD p.r, .bl p.due]
structure PapOk (ps : List Pt) (room : Int) (p : Pap) : Prop where
  rt : ∀ k, p.r = some k → RtP k
  due : p.due = rightB ps room (ratD p.r)
theorem rat_ok {r : Option (Int × Int)} (h : ∀ k, r = some k → RtP k) : RtOk (ratD r) := by
  cases r with
  | none => exact ⟨rfl, fun a b z => by cases z⟩
  | some k => exact ⟨rfl, fun a b z _ _ => by cases z; exact ⟨(h k rfl).b1, (h k rfl).b2⟩⟩
def φ_law_papers : Spec := fun ds Q _ => ∃ ps room L, ds = [.pool, ptsD ps, .int room, intsD L] ∧ InF ps room ∧ ∀ pp : List Pap, (∀ p ∈ pp, PapOk ps room p) → pp.length ≤ 10000 → Q (.lst (pp.map (papD L)))
theorem pair_D {rs : List (Int × Int)} {k : Int × Int} : rs.map pairD ++ [pairD k] = (rs ++ [k]).map pairD := by rw [List.map_append]; rfl
theorem all_snoc {α : Type} {P : α → Prop} {l : List α} {x : α} (h : ∀ y ∈ l, P y) (hx : P x) : ∀ y ∈ l ++ [x], P y := fun y hy => by
  rcases List.mem_append.mp hy with hy | hy
  · exact h y hy
  · rw [List.mem_singleton.mp hy]; exact hx
abbrev N_law_papers : List Str := ["pool", "parts", "room", "sizes", "ratios", "base", "weight", "lo", "hi", "bound", "found", "ratio"]
def r_law_papers (Ξ : Xi) : PTS :=
  (ysSeq (ysAsgO (ynLst (ylCons (yTup (ylCons (yC (.int 0)) (ylCons (yC (.int 1)) ylNil))) (ylCons (yTup (ylCons (yC (.int 1)) (ylCons (yC (.int 1)) ylNil))) (ylCons (yTup (ylCons (yNeg (yC (.int 1))) (ylCons (yC (.int 1)) ylNil))) (ylCons (yCall φ_law_lowest Ξ (ylCons (yBin oSub (yCall φ_law_pick Ξ (ylCons (yVar 0) (ylCons (yC (.int 60)) ylNil))) (yC (.int 30))) (ylCons (yBin oAdd (yC (.int 1)) (yCall φ_law_pick Ξ (ylCons (yVar 0) (ylCons (yC (.int 9)) ylNil)))) ylNil))) ylNil))))) 4)
  (ysSeq (ysFor (yiSeq (yVar 1)) (gTupY 4 [(gN 5), (gN 6), (gN 7), (gN 8)])
  (ysFor (yiSeq (yNew (ynLst (ylCons (yVar 7) (ylCons (yVar 8) ylNil))))) (gN 9)
  (ysIf (yAnd (yBinT oGt (yVar 6) (yC (.int 0))) (yBinT (oIsN true) (yVar 9) (yC .non)))
  (ysSeq (ysApp 4 (yCall φ_law_lowest Ξ (ylCons (yBin oSub (yVar 9) (yVar 5)) (ylCons (yVar 6) ylNil))))
  (ysApp 4 (yCall φ_law_lowest Ξ (ylCons (yBin oAdd (yBin oMulW (yC (.int 2)) (yBin oSub (yVar 9) (yVar 5))) (yC (.int 1))) (ylCons (yBin oMulW (yC (.int 2)) (yVar 6)) ylNil)))))
  ysNext)))
  (ysSeq (ysAsgO (ynLst ylNil) 10)
  (ysSeq (ysFor (yiSeq (yVar 4)) (gN 11)
  (ysApp 10 (yTup (ylCons (yVar 3) (ylCons (yVar 11) (ylCons (yBin (oEq false) (yCB oSum (ylCons (yCall φ_law_tops Ξ (ylCons (yVar 1) (ylCons (yIx (yVar 11) (yC (.int 0))) (ylCons (yIx (yVar 11) (yC (.int 1))) ylNil)))) ylNil)) (yBin oMulW (yVar 2) (yIx (yVar 11) (yC (.int 1))))) ylNil))))))
  (ysSeq (ysApp 10 (yTup (ylCons (yVar 3) (ylCons (yC .non) (ylCons (yNotB (yCall φ_law_has Ξ (ylCons (yVar 1) (ylCons (yVar 2) ylNil)))) ylNil)))))
  (ysRet (yVar 10)))))))
theorem vc_law_papers (ds : List D) (Q' : D → Prop) (E' : Nat → Prop) (h : φ_law_papers ds Q' E') : r_law_papers (fun c _ => E' c) { nx := fun _ => Q' .non, rt := fun d _ => Q' d } (startE N_law_papers ds) := by
  obtain ⟨ps, room, L, rfl, hi, h⟩ := h
  have hn := hi.i.n
  have hn2 := hi.i.lt
  let V (x : D) : Option S := some (.v x)
  let R (rs : List (Int × Int)) : Option S := some (.o (rs.map pairD))
  let e (rs : Option S) (a b c d f g k : Option S) : PEnv := [V .pool, V (ptsD ps), V (.int room), V (intsD L), rs, a, b, c, d, f, g, k]
  refine seq_post (fun ε => ∃ rs : List (Int × Int), ((∀ k ∈ rs, RtP k) ∧ rs.length ≤ 4) ∧ ε = e (R rs) none none none none none none none) (fun K kk => ?_) ?_
  · intro i i0 i1 j j0 j1
    refine ⟨_, _, rfl, by omega, (Bn.nn (a := 10) (by omega) (show (1 + j) < 1000 by omega)).mono (by decide), ?_⟩
    have bi : Bn 250 (i - 30) := by
      refine Bn.mono (a := 10) ?_ (by decide)
      show (i - 30).natAbs < 1024
      omega
    have bj : Bn 250 (1 + j) := (Bn.nn (a := 10) (by omega) (show (1 + j) < 1000 by omega)).mono (by decide)
    refine kk _ ⟨[(0, 1), (1, 1), (-1, 1), lowI (i - 30) (1 + j)], ⟨fun k hk => ?_, by show 4 ≤ 4; decide⟩, rfl⟩
    simp only [List.mem_cons, List.not_mem_nil, or_false] at hk
    rcases hk with rfl | rfl | rfl | rfl
    · exact ⟨by decide, by decide, Bn.zero, Bn.one (by decide)⟩
    · exact ⟨by decide, by decide, Bn.one (by decide), Bn.one (by decide)⟩
    · exact ⟨by decide, by decide, (Bn.one (by decide)).neg, Bn.one (by decide)⟩
    · exact rt_low (by omega) bi bj
  rintro _ ⟨rs0, ⟨hr0, l0⟩, rfl⟩
  refine seq_post (fun ε => ∃ rs a b c d f, ((∀ k ∈ rs, RtP k) ∧ rs.length ≤ 4 + 4 * ps.length) ∧ ε = e (R rs) a b c d f none none) (fun K kk => for_list (S := ps) (m := ptD) (fun i ε => ∃ rs a b c d f, ((∀ k ∈ rs, RtP k) ∧ rs.length ≤ 4 + 4 * i) ∧ ε = e (R rs) a b c d f none none) ⟨rs0, none, none, none, none, none, ⟨hr0, l0⟩, rfl⟩ (fun i hj ε w => ?_) fun ε w => kk ε w) ?_
  · obtain ⟨rs, a, b, c, d, f, ⟨hr, l⟩, rfl⟩ := w
    have hp := hi.i.b ps[i] (List.getElem_mem hj)
    generalize ps[i] = p at hp
    refine gtup4 ?_
    let e2 (rs : List (Int × Int)) (f : Option S) : PEnv := e (R rs) (V (.int p.b)) (V (.int p.w)) (V (optD p.lo)) (V (optD p.hi)) f none none
    have one : ∀ (o : Option Int) (rs : List (Int × Int)) (f : Option S) (K K2 : PEnv → Prop), (∀ x, o = some x → Bn 100 x) → (∀ k ∈ rs, RtP k) → rs.length ≤ 4 + 4 * i + 2 → (∀ rs2 f2, (∀ k ∈ rs2, RtP k) → rs2.length ≤ rs.length + 2 → K (e2 rs2 f2)) →
        gN 9 (optD o) (e2 rs f) fun ε2 => (ysIf (yAnd (yBinT oGt (yVar 6) (yC (.int 0))) (yBinT (oIsN true) (yVar 9) (yC .non)))
          (ysSeq (ysApp 4 (yCall φ_law_lowest (fun c _ => E' c) (ylCons (yBin oSub (yVar 9) (yVar 5)) (ylCons (yVar 6) ylNil))))
          (ysApp 4 (yCall φ_law_lowest (fun c _ => E' c) (ylCons (yBin oAdd (yBin oMulW (yC (.int 2)) (yBin oSub (yVar 9) (yVar 5))) (yC (.int 1))) (ylCons (yBin oMulW (yC (.int 2)) (yVar 6)) ylNil)))))
          ysNext) { nx := K, ct := K, bk := K2, rt := fun d _ => Q' d } ε2 := fun o rs f K K2 ho hr hl k => by
      let ε1 : PEnv := e2 rs (V (optD o))
      show ysIf _ _ _ _ ε1
      cases o with
      | none =>
        refine if_evT (b := false) (EvT.andX (a := decide (0 < p.w)) (EvT.int (Ev.var rfl) Ev.c) (fun _ => rfl) fun _ => EvT.isN (o := none) (neg := true) (Ev.var rfl)) ?_
        exact k rs _ hr (by omega)
      | some x =>
        cases z0 : decide (0 < p.w) with
        | false =>
          refine if_evT (b := false) (EvT.andX (a := decide (0 < p.w)) (EvT.int (Ev.var rfl) Ev.c) (fun _ => rfl) fun y => by rw [z0] at y; cases y) ?_
          exact k rs _ hr (by omega)
        | true =>
          have w0 := of_decide_eq_true z0
          refine if_evT (b := true) (EvT.andX (a := decide (0 < p.w)) (EvT.int (Ev.var rfl) Ev.c) (fun y => by rw [z0] at y; cases y) fun _ => EvT.isN (o := some x) (neg := true) (Ev.var rfl)) ?_
          have kb : Bn 101 (x - p.b) := (ho x rfl).sub hp.b
          have b2 : Bn 2 (2 : Int) := by show (2 : Int).natAbs < 4; decide
          have b1 : Bn 1 (1 : Int) := by show (1 : Int).natAbs < 2; decide
          have kb2 : Bn 104 (2 * (x - p.b) + 1) := ((b2.mul kb).mono (by decide : 103 ≤ 103)).add (b1.mono (by decide))
          have wb2 : Bn 102 (2 * p.w) := (b2.mul hp.w).mono (by decide)
          have g1 : (rs.map pairD).length < 16777216 := by rw [List.length_map]; omega
          have a1 : Ev (yCall φ_law_lowest (fun c _ => E' c) (ylCons (yBin oSub (yVar 9) (yVar 5)) (ylCons (yVar 6) ylNil))) ε1 (pairD (lowI (x - p.b) p.w)) := call_ev2 (Ev.subI (Ev.var rfl) (Ev.var rfl)) (Ev.var rfl) fun K E k => ⟨_, _, rfl, w0, hp.w.mono (by decide), k⟩
          let rs1 := rs ++ [lowI (x - p.b) p.w]
          have g2 : (rs1.map pairD).length < 16777216 := by rw [List.length_map, List.length_append]; show rs.length + 1 < _; omega
          refine seq_step (e2 rs1 (V (.int x))) (fun K k => app_ev (ε := ε1) (ds := rs.map pairD) rfl a1 g1 (by rw [pair_D]; exact k)) ?_
          have a2 : Ev (yCall φ_law_lowest (fun c _ => E' c) (ylCons (yBin oAdd (yBin oMulW (yC (.int 2)) (yBin oSub (yVar 9) (yVar 5))) (yC (.int 1))) (ylCons (yBin oMulW (yC (.int 2)) (yVar 6)) ylNil))) (e2 rs1 (V (.int x))) (pairD (lowI (2 * (x - p.b) + 1) (2 * p.w))) := call_ev2 (Ev.addI (Ev.mulW Ev.c (Ev.subI (Ev.var rfl) (Ev.var rfl)) (wide_of b2 kb)) Ev.c) (Ev.mulW Ev.c (Ev.var rfl) (wide_of b2 hp.w)) fun K E k => ⟨_, _, rfl, by omega, wb2.mono (by decide), k⟩
          refine app_ev (ε := e2 rs1 (V (.int x))) (ds := rs1.map pairD) rfl a2 g2 ?_
          rw [pair_D]
          refine k (rs1 ++ [lowI (2 * (x - p.b) + 1) (2 * p.w)]) _ (all_snoc (all_snoc hr (rt_low w0 (kb.mono (by decide)) (hp.w.mono (by decide)))) (rt_low (by omega) (kb2.mono (by decide)) (wb2.mono (by decide)))) ?_
          rw [List.length_append, List.length_append]
          show rs.length + 1 + 1 ≤ _
          omega
    refine for_list (S := [p.lo, p.hi]) (m := optD) (fun j ε => ∃ rs f, ((∀ k ∈ rs, RtP k) ∧ rs.length ≤ 4 + 4 * i + 2 * j) ∧ ε = e2 rs f) ⟨rs, f, ⟨hr, by omega⟩, rfl⟩ (fun j hj2 ε w => ?_) fun ε w => ?_
    · obtain ⟨rs, f, ⟨hr, l⟩, rfl⟩ := w
      rcases j with _ | _ | j
      · exact one p.lo rs f _ _ hp.lo hr (by omega) fun rs2 f2 h1 h2 => ⟨rs2, f2, ⟨h1, by omega⟩, rfl⟩
      · exact one p.hi rs f _ _ hp.hi hr (by omega) fun rs2 f2 h1 h2 => ⟨rs2, f2, ⟨h1, by omega⟩, rfl⟩
      · have : j + 1 + 1 < 2 := hj2
        omega
    · obtain ⟨rs, f, ⟨hr, l⟩, rfl⟩ := w
      replace l : rs.length ≤ 4 + 4 * i + 2 * 2 := l
      exact ⟨rs, _, _, _, _, _, ⟨hr, by omega⟩, rfl⟩
  rintro _ ⟨rs, a, b, c, d, f, ⟨hr, l⟩, rfl⟩
  let P (pp : List Pap) : Option S := some (.o (pp.map (papD L)))
  refine seq_step (e (R rs) a b c d f (P []) none) (fun K k => k) ?_
  let F (pp : List Pap) (k : Option S) : PEnv := [V .pool, V (ptsD ps), V (.int room), V (intsD L), V (.lst (rs.map pairD)), a, b, c, d, f, P pp, k]
  refine seq_post (fun ε => ∃ pp k, ((∀ p ∈ pp, PapOk ps room p) ∧ pp.length ≤ rs.length) ∧ ε = F pp k) (fun K kk => for_list (S := rs) (m := pairD) (fun i ε => ∃ pp k, ((∀ p ∈ pp, PapOk ps room p) ∧ pp.length ≤ i) ∧ ε = F pp k) ⟨[], none, ⟨(fun p hp => by cases hp), Nat.zero_le _⟩, rfl⟩ (fun i hj ε w => ?_) fun ε w => kk ε w) ?_
  · obtain ⟨pp, k, ⟨hp, lp⟩, rfl⟩ := w
    have hk := hr rs[i] (List.getElem_mem hj)
    generalize rs[i] = q at hk
    refine gn_of ?_
    let ε1 : PEnv := F pp (V (pairD q))
    have i0 : Ev (yIx (yVar 11) (yC (.int 0))) ε1 (.int q.1) := fun Q q => q
    have i1 : Ev (yIx (yVar 11) (yC (.int 1))) ε1 (.int q.2) := fun Q q => q
    have t1 : Ev (yCB oSum (ylCons (yCall φ_law_tops (fun c _ => E' c) (ylCons (yVar 1) (ylCons (yIx (yVar 11) (yC (.int 0))) (ylCons (yIx (yVar 11) (yC (.int 1))) ylNil)))) ylNil)) ε1 (.int (sumI ps q.1 q.2)) := tops_ev (call_ev3 (Ev.var rfl) i0 i1 fun K E k => ⟨ps, q.1, q.2, rfl, fun p hp => ⟨hi.i.b p hp, hi.f p hp⟩, hk.b1, hk.b2, Int.le_of_lt hk.low, hn, k⟩)
    have t2 := EvT.eqB t1 (Ev.mulW (ε := ε1) (Ev.var (i := 2) rfl) i1 (wide_of hi.r hk.b2))
    refine app_ev (ε := ε1) (ds := pp.map (papD L)) rfl (tup3E (Ev.var (i := 3) rfl) (Ev.var (i := 11) rfl) t2) (by rw [List.length_map]; omega) ?_
    refine ⟨pp ++ [(⟨some q, decide (sumI ps q.1 q.2 = room * q.2)⟩ : Pap)], V (pairD q), ⟨all_snoc hp ⟨(fun k z => by cases z; exact hk), ?_⟩, by rw [List.length_append]; show pp.length + 1 ≤ _; omega⟩, ?_⟩
    · show decide (sumI ps q.1 q.2 = room * q.2) = (decide (1 ≤ q.2) && (decide (Nat.gcd q.1.natAbs q.2.natAbs = 1) && decide (sumI ps q.1 q.2 = room * q.2)))
      have := hk.low
      rw [decide_eq_true hk.gcd, decide_eq_true (show 1 ≤ q.2 by omega)]
      rfl
    · have em : (pp ++ [(⟨some q, decide (sumI ps q.1 q.2 = room * q.2)⟩ : Pap)]).map (papD L) = pp.map (papD L) ++ [papD L ⟨some q, decide (sumI ps q.1 q.2 = room * q.2)⟩] := by rw [List.map_append]; rfl
      show _ = [V .pool, V (ptsD ps), V (.int room), V (intsD L), V (.lst (rs.map pairD)), a, b, c, d, f, some (.o ((pp ++ [(⟨some q, decide (sumI ps q.1 q.2 = room * q.2)⟩ : Pap)]).map (papD L))), V (pairD q)]
      rw [em]
      rfl
  rintro _ ⟨pp, k, ⟨hp, lp⟩, rfl⟩
  have t3 : Ev (yNotB (yCall φ_law_has (fun c _ => E' c) (ylCons (yVar 1) (ylCons (yVar 2) ylNil)))) (F pp k) (.bl (rightB ps room .non)) := fun Q q => by
    refine ⟨ps, room, rfl, hi.f, hn, ?_⟩
    rw [← has_right hi.f] at q
    exact q
  refine seq_step (F (pp ++ [(⟨none, rightB ps room .non⟩ : Pap)]) k) (fun K kk => app_ev (ε := F pp k) (ds := pp.map (papD L)) rfl (tup3E (Ev.var (i := 3) rfl) Ev.c t3) (by rw [List.length_map]; omega) ?_) ?_
  · have : (pp ++ [(⟨none, rightB ps room .non⟩ : Pap)]).map (papD L) = pp.map (papD L) ++ [papD L ⟨none, rightB ps room .non⟩] := by rw [List.map_append]; rfl
    have kk : K [V .pool, V (ptsD ps), V (.int room), V (intsD L), V (.lst (rs.map pairD)), a, b, c, d, f, some (.o ((pp ++ [(⟨none, rightB ps room .non⟩ : Pap)]).map (papD L))), k] := kk
    rw [this] at kk
    exact kk
  · refine h (pp ++ [(⟨none, rightB ps room .non⟩ : Pap)]) (all_snoc hp ⟨(fun k z => by cases z), rfl⟩) ?_
    rw [List.length_append]
    show pp.length + 1 ≤ _
    omega

end PL.K57

set_option Elab.async false
set_option linter.all false
set_option autoImplicit false
set_option maxRecDepth 100000
set_option maxHeartbeats 1000000
namespace PL.K57
open PySem PySem.Spec PyProof.Rows L2
local macro_rules | `(tactic| walk_at "y") => `(tactic| conv => whnf)
/-! ### _law_spoilt -/
theorem cut_to {α : Type} {xs : List α} {a : Nat} (h : a ≤ xs.length) : cutD xs none (some (a : Int)) = xs.take a := by
  unfold cutD
  rw [HT.sIx_none, HT.sIx_nat, List.drop_zero, Nat.sub_zero, Nat.min_eq_left h]
theorem cut_from {α : Type} {xs : List α} {a : Nat} (h : a + 1 ≤ xs.length) : cutD xs (some ((a : Int) + 1)) none = xs.drop (a + 1) := by
  unfold cutD
  have e : ((a : Int) + 1) = ((a + 1 : Nat) : Int) := by omega
  rw [e, HT.sIx_none, HT.sIx_nat, Nat.min_eq_left h]
  exact List.take_of_length_le (by rw [List.length_drop]; omega)
def BadRt (v : D) : Prop := regT v = true ∧ v ≠ .non ∧ ∀ a b, v = .tup [.int a, .int b] → ¬ (1 ≤ b ∧ Nat.gcd a.natAbs b.natAbs = 1)
/-- a spoilt paper -/
def Spoil (L : List Int) (r : Option (Int × Int)) (w : D × D) : Prop :=
  (w.2 = ratD r ∧ SzOk w.1 ∧ w.1 ≠ intsD L) ∨ (w.1 = intsD L ∧ BadRt w.2) ∨ (w.1 = intsD L ∧ r = none ∧ w.2 = pairD (0, 1))
theorem sz_ints {L : List Int} (h : L.length ≤ 1000) : SzOk (intsD L) := ⟨List.all_eq_true.mpr fun d hd => by
  obtain ⟨i, _, rfl⟩ := List.mem_map.mp hd
  rfl, by rw [List.length_map]; exact h⟩
theorem share_len {ps : List Pt} {room : Int} (ok : Fl ps) : (lawShare ps room).length = ps.length := by
  have wl : ∀ (low : Int) (l : List Int) (a : Int), (wholesI low a l).length = l.length := fun low l => by
    induction l with
    | nil => intro a; rfl
    | cons x l ih => intro a; show (wholesI low (a + x) l).length + 1 = l.length + 1; rw [ih]
  rcases share_spec (room := room) ok with ⟨e, _⟩ | ⟨_, _, e⟩ | ⟨q, _, _, e⟩
  · rw [e, List.length_map]
  · rw [e, List.length_map]
  · rw [e, wl]
    unfold topsI
    rw [List.length_map]
theorem spoil_no {ps : List Pt} {room : Int} {r : Option (Int × Int)} {w : D × D} (hi : InF ps room) (hr : ∀ k, r = some k → RtP k) (hR : rightB ps room (ratD r) = true) (h : Spoil (lawShare ps room) r w) :
    RtOk w.2 ∧ SzOk w.1 ∧ ¬ (rightB ps room w.2 = true ∧ w.1 = .lst (sizesD ps room (rOf w.2))) := by
  have sl : SzOk (intsD (lawShare ps room)) := sz_ints (by rw [share_len hi.f]; exact hi.i.n)
  rcases h with ⟨e, hs, ne⟩ | ⟨e, b1, b2, b3⟩ | ⟨e, rn, e2⟩
  · rw [e]
    refine ⟨rat_ok hr, hs, fun z => ne ?_⟩
    have := z.2
    rw [rOf_rat, sizes_right hi.f hR] at this
    exact this
  · rw [e]
    refine ⟨⟨b1, fun a b z h1 h2 => absurd ⟨h1, h2⟩ (b3 a b z)⟩, sl, fun z => ?_⟩
    obtain ⟨q, eq⟩ := right_is z.1
    cases q with
    | none => exact b2 eq
    | some k =>
      rw [eq] at z
      obtain ⟨h1, h2, _⟩ := right_some z.1
      exact b3 _ _ eq ⟨by omega, h2⟩
  · rw [e, e2]
    refine ⟨⟨rfl, fun a b z _ _ => by cases z; exact ⟨Bn.zero, Bn.one (by decide)⟩⟩, sl, fun z => ?_⟩
    have h3 := (right_some (k := (0, 1)) z.1).2.2
    have h3 : sumI ps 0 1 = room := by
      have : sumI ps 0 1 = room * 1 := h3
      omega
    subst rn
    have : (ratioI ps room).isNone = true := hR
    unfold ratioI at this
    rw [decide_eq_true h3] at this
    cases this
def spD (w : D × D) : D := .tup [w.1, w.2]
def φ_law_spoilt : Spec := fun ds Q _ => ∃ L r, ds = [.pool, intsD L, ratD r] ∧ L.length ≤ 900 ∧ (∀ x ∈ L, Bn 1900 x) ∧ (∀ k, r = some k → RtP k) ∧ ∀ ws : List (D × D), 1 ≤ ws.length → ws.length ≤ 1000 → (∀ w ∈ ws, Spoil L r w) → Q (.lst (ws.map spD))
theorem row_put {L : List Int} {a : Nat} {y : D} (ha : a < L.length) (hl : L.length ≤ 999) (hy : regB y = true) (ne : ∀ x, L[a]? = some x → y ≠ .int x) : SzOk (.lst ((L.map D.int).take a ++ [y] ++ (L.map D.int).drop (a + 1))) ∧ D.lst ((L.map D.int).take a ++ [y] ++ (L.map D.int).drop (a + 1)) ≠ intsD L := by
  have rg : ∀ d ∈ L.map D.int, regB d = true := fun d hd => by
    obtain ⟨i, _, rfl⟩ := List.mem_map.mp hd
    rfl
  have lt : ((L.map D.int).take a).length = a := by rw [List.length_take, List.length_map]; omega
  refine ⟨⟨List.all_eq_true.mpr fun d hd => ?_, ?_⟩, fun z => ?_⟩
  · rcases List.mem_append.mp hd with hd | hd
    · rcases List.mem_append.mp hd with hd | hd
      · exact rg d (List.mem_of_mem_take hd)
      · rw [List.mem_singleton.mp hd]; exact hy
    · exact rg d (List.mem_of_mem_drop hd)
  · rw [List.length_append, List.length_append, lt, List.length_drop, List.length_map]
    show a + 1 + (L.length - (a + 1)) ≤ 1000
    omega
  · have z : (L.map D.int).take a ++ [y] ++ (L.map D.int).drop (a + 1) = L.map D.int := by injection z
    have g : ((L.map D.int).take a ++ [y] ++ (L.map D.int).drop (a + 1))[a]? = (L.map D.int)[a]? := by rw [z]
    rw [List.append_assoc, List.getElem?_append_right (by rw [lt]; exact Nat.le_refl _), lt, Nat.sub_self, List.getElem?_map, List.getElem?_eq_getElem ha] at g
    have g : some y = some (D.int L[a]) := g
    exact ne L[a] (List.getElem?_eq_getElem ha) (Option.some.inj g)
theorem row_len {L : List Int} {xs : List D} (h : xs.length ≠ L.length) : D.lst xs ≠ intsD L := fun z => h (by
  have z : xs = L.map D.int := by injection z
  rw [z, List.length_map])
theorem log_of {x : Int} (h : Bn 1900 x) : x.natAbs.log2 < 1920 := by
  by_cases z : x.natAbs = 0
  · rw [z]; decide
  · exact Nat.lt_trans ((Nat.log2_lt z).mpr h) (by decide)
theorem it_ints {L : List Int} (h : ∀ x ∈ L, Bn 1900 x) : (L.map D.int).all itB = true := List.all_eq_true.mpr fun d hd => by
  obtain ⟨i, hi, rfl⟩ := List.mem_map.mp hd
  exact decide_eq_true (log_of (h i hi))
theorem EvT.neNil {r : PTE} {ε : PEnv} {L : List Int} (h : Ev r ε (intsD L)) : EvT (yBinT (oEq true) r (yNew (ynLst ylNil))) ε (!L.isEmpty) := fun Q q => h _ (by
  refine (?_ : gd (SeqAt.shaped (D.py (intsD L)) = true ∧ SeqAt.shaped (D.py (.lst [])) = true) (Q (!(PyData.eqv (D.py (intsD L)) (D.py (.lst [])))) ε))
  refine gd_of ⟨(fd_ints L).shaped, rfl⟩ ?_
  have z : PyData.eqv (D.py (intsD L)) (D.py (.lst [])) = L.isEmpty := by cases L <;> rfl
  rw [z]
  exact q)
theorem bad_of {v : D} (h1 : regT v = true) (h2 : v ≠ .non) (h3 : ∀ a b, v ≠ .tup [.int a, .int b]) : BadRt v := ⟨h1, h2, fun a b z => absurd z (h3 a b)⟩
/-- what is made of a ratio -/
def badL (t l : Int) (x y : Str) : List D := [.tup [.int (2 * t), .int (2 * l)], .tup [.int (0 - t), .int (0 - l)], .lst [.int t, .int l], .tup [.int t], .tup [.int t, .int l, .int 1], .tup [.int t, .int 0], .tup [.int t, .non], .str x, .int t, .bl true, .tup [.str y, .int l], .tup [.int t, .tup [.int l]]]
theorem bad_all {t l : Int} {x y : Str} (h : 0 < l) : ∀ v ∈ badL t l x y, BadRt v := by
  intro v hv
  simp only [badL, List.mem_cons, List.not_mem_nil, or_false] at hv
  rcases hv with rfl | rfl | rfl | rfl | rfl | rfl | rfl | rfl | rfl | rfl | rfl | rfl
  · refine ⟨rfl, (fun z => by cases z), fun a b z => ?_⟩
    cases z
    rintro ⟨_, g⟩
    have d1 : 2 ∣ (2 * t).natAbs := by rw [Int.natAbs_mul]; exact ⟨_, rfl⟩
    have d2 : 2 ∣ (2 * l).natAbs := by rw [Int.natAbs_mul]; exact ⟨_, rfl⟩
    have := Nat.dvd_gcd d1 d2
    rw [g] at this
    exact absurd (Nat.le_of_dvd (by decide) this) (by decide)
  · refine ⟨rfl, (fun z => by cases z), fun a b z => ?_⟩
    cases z
    rintro ⟨g, _⟩
    omega
  · exact bad_of rfl (fun z => by cases z) (fun a b z => by cases z)
  · exact bad_of rfl (fun z => by cases z) (fun a b z => by cases z)
  · exact bad_of rfl (fun z => by cases z) (fun a b z => by cases z)
  · refine ⟨rfl, (fun z => by cases z), fun a b z => ?_⟩
    cases z
    rintro ⟨g, _⟩
    omega
  · exact bad_of rfl (fun z => by cases z) (fun a b z => by cases z)
  · exact bad_of rfl (fun z => by cases z) (fun a b z => by cases z)
  · exact bad_of rfl (fun z => by cases z) (fun a b z => by cases z)
  · exact bad_of rfl (fun z => by cases z) (fun a b z => by cases z)
  · exact bad_of rfl (fun z => by cases z) (fun a b z => by cases z)
  · exact bad_of rfl (fun z => by cases z) (fun a b z => by cases z)
theorem rowA {c1 c2 rs : PTE} {ε : PEnv} {ys zs : List D} {P : D → Prop} (h1 : Ev c1 ε (.lst ys)) (hA : EvA rs ε P) (h2 : Ev c2 ε (.lst zs)) (hl : ys.length + 1 + zs.length ≤ 16777216) : EvA (yBin oAdd (yBin oAdd c1 (yNew (ynLst (ylCons rs ylNil)))) c2) ε (fun d => ∃ y, P y ∧ d = .lst (ys ++ [y] ++ zs)) := fun Q k => h1 _ (hA _ fun y hy => gd_of (show ys.length + 1 ≤ 16777216 by omega) (h2 _ (gd_of (show (ys ++ [y]).length + zs.length ≤ 16777216 by rw [List.length_append]; exact hl) (k _ ⟨y, hy, rfl⟩))))
theorem app_evA {r : PTE} {ε : PEnv} {Δ : PEnds} {i : Nat} {ds : List D} {P : D → Prop} (h : ε[i]? = some (some (.o ds))) (hr : EvA r ε P) (hl : ds.length < 16777216) (k : ∀ d, P d → Δ.nx (ε.set i (some (.o (ds ++ [d]))))) : ysApp i r Δ ε := by
  unfold ysApp
  rw [h]
  refine hr _ fun d hd => ?_
  refine (?_ : match ε[i]? with
    | some (some (.o ds)) => gd (ds.length < 16777216) (Δ.nx (ε.set i (some (.o (ds ++ [d])))))
    | _ => False)
  rw [h]
  exact gd_of hl (k d hd)
theorem strI_ev {r : PTE} {ε : PEnv} {i : Int} (h : Ev r ε (.int i)) (hb : Bn 1900 i) : EvA (yCB oStrA (ylCons r ylNil)) ε (fun d => ∃ x : Str, d = .str x) := fun Q k => h _ (gd_of (log_of hb) fun x => k _ ⟨x, rfl⟩)
theorem tup2A {r1 r2 : PTE} {ε : PEnv} {P : D → Prop} {b : D} (h1 : EvA r1 ε P) (h2 : Ev r2 ε b) : EvA (yTup (ylCons r1 (ylCons r2 ylNil))) ε (fun d => ∃ a, P a ∧ d = .tup [a, b]) := fun Q k => h1 _ fun a ha => h2 _ (k _ ⟨a, ha, rfl⟩)
structure GoodW (L : List Int) (r : Option (Int × Int)) (n : Nat) (ws : List (D × D)) : Prop where
  s : ∀ w ∈ ws, Spoil L r w
  l : 1 ≤ ws.length
  m : ws.length ≤ n
theorem GoodW.more {L : List Int} {r : Option (Int × Int)} {n : Nat} {ws : List (D × D)} (g : GoodW L r n ws) {w : D × D} (h : Spoil L r w) : GoodW L r (n + 1) (ws ++ [w]) := ⟨all_snoc g.s h, by rw [List.length_append]; have := g.l; omega, by rw [List.length_append]; have := g.m; show ws.length + 1 ≤ _; omega⟩
theorem sp_snoc {ws : List (D × D)} {a b : D} : ws.map spD ++ [.tup [a, b]] = (ws ++ [(a, b)]).map spD := by rw [List.map_append]; rfl

end PL.K57

set_option Elab.async false
set_option linter.all false
set_option autoImplicit false
set_option maxRecDepth 100000
set_option maxHeartbeats 1000000
namespace PL.K57
open PySem PySem.Spec PyProof.Rows L2
local macro_rules | `(tactic| walk_at "y") => `(tactic| conv => whnf)
theorem get_int {L : List Int} {a : Nat} (h : a < L.length) : atI (L.map D.int) (a : Int) = some (.int L[a]) := atI_nat (by rw [List.getElem?_map, List.getElem?_eq_getElem h]; rfl)
def dlt (a b : Int) (by_ : Int) : Int := if a = b then by_ else 0
theorem dlt_ev {r1 r2 : PTE} {ε : PEnv} {i : Nat} {x y b : Int} (h0 : ε[i]? = some (some (.v (.int b)))) (h1 : Ev r1 ε (.int x)) (h2 : Ev r2 ε (.int y)) : Ev (yIx (yNew (ynLst (ylCons (yC (.int 0)) (ylCons (yVar i) ylNil)))) (yCB oInt (ylCons (yBin (oEq false) r1 r2) ylNil))) ε (.int (dlt x y b)) := by
  refine ixl_ev (lst2_ev Ev.c (Ev.var h0)) (intb_ev (EvT.eqB h1 h2)) ?_
  rw [ix2]
  unfold dlt
  by_cases z : x = y
  · rw [decide_eq_true z, if_pos z]
  · rw [decide_eq_false z, if_neg z]
abbrev N_law_spoilt : List Str := ["pool", "sizes", "ratio", "found", "at", "by", "other", "pair", "top", "low", "one", "k"]
def r_law_spoilt (Ξ : Xi) : PTS :=
  (ysSeq (ysAsgO (ynLst (ylCons (yTup (ylCons (yCB oTupleOf (ylCons (yVar 1) ylNil)) (ylCons (yVar 2) ylNil))) (ylCons (yTup (ylCons (yBin oAdd (yVar 1) (yNew (ynLst (ylCons (yC (.int 0)) ylNil)))) (ylCons (yVar 2) ylNil))) (ylCons (yTup (ylCons (yBin oAdd (yNew (ynLst (ylCons (yC (.int 0)) ylNil))) (yVar 1)) (ylCons (yVar 2) ylNil))) (ylCons (yTup (ylCons (yC .non) (ylCons (yVar 2) ylNil))) (ylCons (yTup (ylCons yDic0 (ylCons (yVar 2) ylNil))) (ylCons (yTup (ylCons (yCB oStrA (ylCons (yVar 1) ylNil)) (ylCons (yVar 2) ylNil))) ylNil))))))) 3)
  (ysSeq (ysIf (yBinT (oEq true) (yVar 1) (yNew (ynLst ylNil)))
  (ysSeq (ysAsgG (yTup (ylCons (yBin oMod (yCB oInt (ylCons (yCall φ_law_pick Ξ (ylCons (yVar 0) (ylCons (yC (.int 60)) ylNil))) ylNil)) (yCB oLen (ylCons (yVar 1) ylNil))) (ylCons (yIx (yNew (ynLst (ylCons (yC (.int 1)) (ylCons (yNeg (yC (.int 1))) (ylCons (yC (.int 2)) (ylCons (yBin oPow (yC (.int 10)) (yC (.int 9))) ylNil)))))) (yCall φ_law_pick Ξ (ylCons (yVar 0) (ylCons (yC (.int 4)) ylNil)))) ylNil))) (gTupY 2 [(gN 4), (gN 5)]))
  (ysSeq (ysApp 3 (yTup (ylCons (yBin oAdd (yBin oAdd (yNew (ynSl (yVar 1) yoNone (yoSome (yVar 4)))) (yNew (ynLst (ylCons (yBin oAdd (yIx (yVar 1) (yVar 4)) (yVar 5)) ylNil)))) (yNew (ynSl (yVar 1) (yoSome (yBin oAdd (yVar 4) (yC (.int 1)))) yoNone))) (ylCons (yVar 2) ylNil))))
  (ysSeq (ysApp 3 (yTup (ylCons (yBin oAdd (yNew (ynSl (yVar 1) yoNone (yoSome (yVar 4)))) (yNew (ynSl (yVar 1) (yoSome (yBin oAdd (yVar 4) (yC (.int 1)))) yoNone))) (ylCons (yVar 2) ylNil))))
  (ysSeq (ysApp 3 (yTup (ylCons (yBin oAdd (yBin oAdd (yNew (ynSl (yVar 1) yoNone (yoSome (yVar 4)))) (yNew (ynLst (ylCons (yCB oStrA (ylCons (yIx (yVar 1) (yVar 4)) ylNil)) ylNil)))) (yNew (ynSl (yVar 1) (yoSome (yBin oAdd (yVar 4) (yC (.int 1)))) yoNone))) (ylCons (yVar 2) ylNil))))
  (ysSeq (ysApp 3 (yTup (ylCons (yBin oAdd (yBin oAdd (yNew (ynSl (yVar 1) yoNone (yoSome (yVar 4)))) (yNew (ynLst (ylCons (yTup (ylCons (yIx (yVar 1) (yVar 4)) ylNil)) ylNil)))) (yNew (ynSl (yVar 1) (yoSome (yBin oAdd (yVar 4) (yC (.int 1)))) yoNone))) (ylCons (yVar 2) ylNil))))
  (ysSeq (ysIf (yBinT (oIn false) (yIx (yVar 1) (yVar 4)) (yNew (ynLst (ylCons (yC (.int 0)) (ylCons (yC (.int 1)) ylNil)))))
  (ysApp 3 (yTup (ylCons (yBin oAdd (yBin oAdd (yNew (ynSl (yVar 1) yoNone (yoSome (yVar 4)))) (yNew (ynLst (ylCons (yBin (oEq false) (yIx (yVar 1) (yVar 4)) (yC (.int 1))) ylNil)))) (yNew (ynSl (yVar 1) (yoSome (yBin oAdd (yVar 4) (yC (.int 1)))) yoNone))) (ylCons (yVar 2) ylNil))))
  ysNext)
  (ysSeq (ysAsg (yBin oMod (yCB oInt (ylCons (yBin oAdd (yVar 4) (yC (.int 1))) ylNil)) (yCB oLen (ylCons (yVar 1) ylNil))) 6)
  (ysIf (yBinT (oEq true) (yVar 6) (yVar 4))
  (ysSeq (ysAsg (yNew (ynLc (yiRg1 (ylCons (yCB oLen (ylCons (yVar 1) ylNil)) ylNil)) (gN 11) yYes (yBin oSub (yBin oAdd (yIx (yVar 1) (yVar 11)) (yIx (yNew (ynLst (ylCons (yC (.int 0)) (ylCons (yVar 5) ylNil)))) (yCB oInt (ylCons (yBin (oEq false) (yVar 11) (yVar 4)) ylNil)))) (yIx (yNew (ynLst (ylCons (yC (.int 0)) (ylCons (yVar 5) ylNil)))) (yCB oInt (ylCons (yBin (oEq false) (yVar 11) (yVar 6)) ylNil)))) [11])) 7)
  (ysSeq (ysApp 3 (yTup (ylCons (yVar 7) (ylCons (yVar 2) ylNil))))
  (ysApp 3 (yTup (ylCons (yBin oAdd (yNew (ynLRev (yVar 1))) (yNew (ynLst (ylCons (yC (.int 7)) ylNil)))) (ylCons (yVar 2) ylNil))))))
  ysNext))))))))
  ysNext)
  (ysSeq (ysIf (yBinT (oIsN true) (yVar 2) (yC .non))
  (ysSeq (ysAsgG (yVar 2) (gTupY 2 [(gN 8), (gN 9)]))
  (ysSeq (ysFor (yiSeq (yNew (ynLst (ylCons (yTup (ylCons (yBin oMulA (yC (.int 2)) (yVar 8)) (ylCons (yBin oMulA (yC (.int 2)) (yVar 9)) ylNil))) (ylCons (yTup (ylCons (yBin oSub (yC (.int 0)) (yVar 8)) (ylCons (yBin oSub (yC (.int 0)) (yVar 9)) ylNil))) (ylCons (yNew (ynLst (ylCons (yVar 8) (ylCons (yVar 9) ylNil)))) (ylCons (yTup (ylCons (yVar 8) ylNil)) (ylCons (yTup (ylCons (yVar 8) (ylCons (yVar 9) (ylCons (yC (.int 1)) ylNil)))) (ylCons (yTup (ylCons (yVar 8) (ylCons (yC (.int 0)) ylNil))) (ylCons (yTup (ylCons (yVar 8) (ylCons (yC .non) ylNil))) (ylCons (yCB oStrA (ylCons (yVar 2) ylNil)) (ylCons (yVar 8) (ylCons (yC (.bl true)) (ylCons (yTup (ylCons (yCB oStrA (ylCons (yVar 8) ylNil)) (ylCons (yVar 9) ylNil))) (ylCons (yTup (ylCons (yVar 8) (ylCons (yTup (ylCons (yVar 9) ylNil)) ylNil))) ylNil))))))))))))))) (gN 10)
  (ysApp 3 (yTup (ylCons (yVar 1) (ylCons (yVar 10) ylNil)))))
  (ysIf (yBinT (oEq false) (yVar 9) (yC (.int 1)))
  (ysApp 3 (yTup (ylCons (yVar 1) (ylCons (yTup (ylCons (yVar 8) (ylCons (yC (.bl true)) ylNil))) ylNil))))
  ysNext)))
  (ysAsgO (ynAdd (yVar 3) (yNew (ynLst (ylCons (yTup (ylCons (yVar 1) (ylCons (yTup (ylCons (yC (.int 0)) (ylCons (yC (.int 1)) ylNil))) ylNil))) (ylCons (yTup (ylCons (yVar 1) (ylCons (yTup ylNil) ylNil))) (ylCons (yTup (ylCons (yVar 1) (ylCons (yC (.bl false)) ylNil))) (ylCons (yTup (ylCons (yVar 1) (ylCons (yC (.int 0)) ylNil))) (ylCons (yTup (ylCons (yVar 1) (ylCons (yTup (ylCons (yC .non) (ylCons (yC (.int 1)) ylNil))) ylNil))) ylNil)))))))) 3))
  (ysRet (yVar 3)))))
theorem vc_law_spoilt (ds : List D) (Q' : D → Prop) (E' : Nat → Prop) (h : φ_law_spoilt ds Q' E') : r_law_spoilt (fun c _ => E' c) { nx := fun _ => Q' .non, rt := fun d _ => Q' d } (startE N_law_spoilt ds) := by
  obtain ⟨L, r, rfl, hl, hb, hr, h⟩ := h
  let V (x : D) : Option S := some (.v x)
  let W (ws : List (D × D)) : Option S := some (.o (ws.map spD))
  let e (fo a b o p t l on : Option S) : PEnv := [V .pool, V (intsD L), V (ratD r), fo, a, b, o, p, t, l, on, none]
  have ll : (L.map D.int).length = L.length := List.length_map ..
  -- a row with the ratio
  have apR : ∀ {ws : List (D × D)} {n : Nat} {a b o p : Option S} {rr : PTE} {P : D → Prop} {Δ : PEnds}, GoodW L r n ws → n ≤ 100 → EvA rr (e (W ws) a b o p none none none) P → (∀ row, P row → SzOk row ∧ row ≠ intsD L) → (∀ ws2, GoodW L r (n + 1) ws2 → Δ.nx (e (W ws2) a b o p none none none)) → ysApp 3 (yTup (ylCons rr (ylCons (yVar 2) ylNil))) Δ (e (W ws) a b o p none none none) := fun {ws n a b o p rr P Δ} g hn hA hP k => by
    refine app_evA (ε := e (W ws) a b o p none none none) (ds := ws.map spD) rfl (tup2A hA (Ev.var (i := 2) rfl)) (by rw [List.length_map]; have := g.m; omega) fun d hd => ?_
    obtain ⟨row, hrow, rfl⟩ := hd
    obtain ⟨h1, h2⟩ := hP row hrow
    rw [sp_snoc]
    exact k _ (g.more (.inl ⟨rfl, h1, h2⟩))
  have sz : ∀ {xs : List D}, (∀ d ∈ xs, regB d = true) → xs.length ≤ 1000 → SzOk (.lst xs) := fun {xs} h1 h2 => ⟨List.all_eq_true.mpr h1, h2⟩
  have rg : ∀ d ∈ L.map D.int, regB d = true := fun d hd => by
    obtain ⟨i, _, rfl⟩ := List.mem_map.mp hd
    rfl
  refine seq_post (fun ε => ∃ ws, GoodW L r 6 ws ∧ ε = e (W ws) none none none none none none none) (fun K kk => ?_) ?_
  · refine gd_of (show (L.map D.int).length + 1 ≤ 16777216 by omega) ?_
    refine gd_of (show 1 + (L.map D.int).length ≤ 16777216 by omega) ?_
    refine gd_of (show (L.map D.int).length ≤ 8000 ∧ (L.map D.int).all itB = true from ⟨by omega, it_ints hb⟩) fun x => ?_
    refine kk _ ⟨[(.tup (L.map D.int), ratD r), (.lst (L.map D.int ++ [.int 0]), ratD r), (.lst ([.int 0] ++ L.map D.int), ratD r), (.non, ratD r), (.dic [], ratD r), (.str x, ratD r)], ⟨fun w hw => ?_, by show 1 ≤ 6; decide, by show 6 ≤ 6; decide⟩, rfl⟩
    simp only [List.mem_cons, List.not_mem_nil, or_false] at hw
    rcases hw with rfl | rfl | rfl | rfl | rfl | rfl
    · exact .inl ⟨rfl, rfl, fun z => by cases z⟩
    · refine .inl ⟨rfl, sz (fun d hd => ?_) ?_, row_len ?_⟩
      · rcases List.mem_append.mp hd with hd | hd
        · exact rg d hd
        · rw [List.mem_singleton.mp hd]; rfl
      · rw [List.length_append, ll]; show L.length + 1 ≤ _; omega
      · rw [List.length_append, ll]; show L.length + 1 ≠ _; omega
    · refine .inl ⟨rfl, sz (fun d hd => ?_) ?_, row_len ?_⟩
      · rcases List.mem_append.mp hd with hd | hd
        · rw [List.mem_singleton.mp hd]; rfl
        · exact rg d hd
      · rw [List.length_append, ll]; show 1 + L.length ≤ _; omega
      · rw [List.length_append, ll]; show 1 + L.length ≠ _; omega
    · exact .inl ⟨rfl, rfl, fun z => by cases z⟩
    · exact .inl ⟨rfl, rfl, fun z => by cases z⟩
    · exact .inl ⟨rfl, rfl, fun z => by cases z⟩
  rintro _ ⟨ws, g, rfl⟩
  refine seq_post (fun ε => ∃ ws a b o p, GoodW L r 13 ws ∧ ε = e (W ws) a b o p none none none) (fun K kk => ?_) ?_
  · refine if_evT (EvT.neNil (Ev.var rfl)) ?_
    cases e1 : L.isEmpty with
    | true => exact kk _ ⟨ws, none, none, none, none, ⟨g.s, g.l, by have := g.m; omega⟩, rfl⟩
    | false =>
      have lp : 0 < L.length := by
        cases L with
        | nil => cases e1
        | cons x L => exact Nat.succ_pos _
      refine seq_post (fun ε => ∃ (a : Nat) (b : Int), (a < L.length ∧ b ≠ 0) ∧ ε = e (W ws) (V (.int (a : Int))) (V (.int b)) none none none none none) (fun K kk => ?_) ?_
      · intro i i0 i1
        refine gd_of (show (0 : Int) < (((L.map D.int).length : Nat) : Int) by omega) ?_
        intro j j0 j1
        refine pickI (ns := [1, -1, 2, 10 ^ Int.toNat 9]) (P := fun n => n ≠ 0) (all_of (p := fun n => decide (n ≠ 0)) (by decide) fun n z => of_decide_eq_true z) j0 j1 fun n hn => ?_
        have m0 : 0 ≤ i % (((L.map D.int).length : Nat) : Int) := Int.emod_nonneg _ (by omega)
        have m1 : i % (((L.map D.int).length : Nat) : Int) < (((L.map D.int).length : Nat) : Int) := Int.emod_lt_of_pos _ (by omega)
        refine kk _ ⟨(i % (((L.map D.int).length : Nat) : Int)).toNat, n, ⟨by omega, hn⟩, ?_⟩
        rw [Int.toNat_of_nonneg m0]
        rfl
      rintro _ ⟨a, b, ⟨ha, hb0⟩, rfl⟩
      let A : Option S := V (.int (a : Int))
      let B : Option S := V (.int b)
      have cut1 : ∀ {ws o p}, Ev (yNew (ynSl (yVar 1) yoNone (yoSome (yVar 4)))) (e (W ws) A B o p none none none) (.lst ((L.map D.int).take a)) := fun {ws o p} => by
        have := sl_ev (ε := e (W ws) A B o p none none none) (r1 := yVar 1) (xs := L.map D.int) (lo := none) (hi := some (a : Int)) (o1 := yoNone) (o2 := yoSome (yVar 4)) (Ev.var rfl) on_ev (os_ev (Ev.var rfl))
        rw [cut_to (by omega)] at this
        exact this
      have cut2 : ∀ {ws o p}, Ev (yNew (ynSl (yVar 1) (yoSome (yBin oAdd (yVar 4) (yC (.int 1)))) yoNone)) (e (W ws) A B o p none none none) (.lst ((L.map D.int).drop (a + 1))) := fun {ws o p} => by
        have := sl_ev (ε := e (W ws) A B o p none none none) (r1 := yVar 1) (xs := L.map D.int) (lo := some ((a : Int) + 1)) (hi := none) (o1 := yoSome (yBin oAdd (yVar 4) (yC (.int 1)))) (o2 := yoNone) (Ev.var rfl) (os_ev (Ev.addI (Ev.var rfl) Ev.c)) on_ev
        rw [cut_from (by omega)] at this
        exact this
      have ix : ∀ {ws o p}, Ev (yIx (yVar 1) (yVar 4)) (e (W ws) A B o p none none none) (.int L[a]) := fun {ws o p} => ixl_ev (Ev.var rfl) (Ev.var rfl) (get_int ha)
      have cl : ((L.map D.int).take a).length + 1 + ((L.map D.int).drop (a + 1)).length ≤ 16777216 := by rw [List.length_take, List.length_drop]; omega
      have put : ∀ {y : D}, regB y = true → y ≠ .int L[a] → SzOk (.lst ((L.map D.int).take a ++ [y] ++ (L.map D.int).drop (a + 1))) ∧ D.lst ((L.map D.int).take a ++ [y] ++ (L.map D.int).drop (a + 1)) ≠ intsD L := fun {y} h1 h2 => row_put ha (by omega) h1 fun x hx => by
        rw [List.getElem?_eq_getElem ha] at hx
        rw [← Option.some.inj hx]
        exact h2
      -- another number
      refine seq_post (fun ε => ∃ ws, GoodW L r 7 ws ∧ ε = e (W ws) A B none none none none none) (fun K kk => apR g (by decide) (rowA cut1 (Ev.any (Ev.addI ix (Ev.var rfl)) (P := fun d => d = .int (L[a] + b)) rfl) cut2 cl) ?_ fun ws2 g2 => kk _ ⟨ws2, g2, rfl⟩) ?_
      · rintro row ⟨y, rfl, rfl⟩
        exact put rfl (fun z => by injection z with z; omega)
      rintro _ ⟨ws, g, rfl⟩
      -- one less
      refine seq_post (fun ε => ∃ ws, GoodW L r 8 ws ∧ ε = e (W ws) A B none none none none none) (fun K kk => apR g (by decide) (Ev.any (Ev.add cut1 cut2 (by omega)) (P := fun d => d = .lst ((L.map D.int).take a ++ (L.map D.int).drop (a + 1))) rfl) ?_ fun ws2 g2 => kk _ ⟨ws2, g2, rfl⟩) ?_
      · rintro row rfl
        have le : ((L.map D.int).take a ++ (L.map D.int).drop (a + 1)).length + 1 = L.length := by rw [List.length_append, List.length_take, List.length_drop]; omega
        refine ⟨sz (fun d hd => ?_) (by omega), row_len (by omega)⟩
        rcases List.mem_append.mp hd with hd | hd
        · exact rg d (List.mem_of_mem_take hd)
        · exact rg d (List.mem_of_mem_drop hd)
      rintro _ ⟨ws, g, rfl⟩
      -- a text
      refine seq_post (fun ε => ∃ ws, GoodW L r 9 ws ∧ ε = e (W ws) A B none none none none none) (fun K kk => apR g (by decide) (rowA cut1 (strI_ev ix (hb _ (List.getElem_mem ha))) cut2 cl) ?_ fun ws2 g2 => kk _ ⟨ws2, g2, rfl⟩) ?_
      · rintro row ⟨y, ⟨x, rfl⟩, rfl⟩
        exact put rfl (fun z => by cases z)
      rintro _ ⟨ws, g, rfl⟩
      -- a tuple
      refine seq_post (fun ε => ∃ ws, GoodW L r 10 ws ∧ ε = e (W ws) A B none none none none none) (fun K kk => apR g (by decide) (rowA cut1 (Ev.any (tup1_ev ix) (P := fun d => d = .tup [.int L[a]]) rfl) cut2 cl) ?_ fun ws2 g2 => kk _ ⟨ws2, g2, rfl⟩) ?_
      · rintro row ⟨y, rfl, rfl⟩
        exact put rfl (fun z => by cases z)
      rintro _ ⟨ws, g, rfl⟩
      -- a flag
      refine seq_post (fun ε => ∃ ws, GoodW L r 11 ws ∧ ε = e (W ws) A B none none none none none) (fun K kk => ?_) ?_
      · have hg2 : flatD (D.int L[a]) = true ∧ flatAll [D.int 0, D.int 1] = true := ⟨rfl, rfl⟩
        have tin : EvT (yBinT (oIn false) (yIx (yVar 1) (yVar 4)) (yNew (ynLst (ylCons (yC (.int 0)) (ylCons (yC (.int 1)) ylNil))))) (e (W ws) A B none none none none none) (inF (.int L[a]) [.int 0, .int 1]) := fun Q q => ix _ (gd_of hg2 q)
        refine if_evT tin ?_
        cases e2 : inF (.int L[a]) [.int 0, .int 1] with
        | false => exact kk _ ⟨ws, ⟨g.s, g.l, by have := g.m; omega⟩, rfl⟩
        | true =>
          refine apR g (by decide) (rowA cut1 (Ev.any (EvT.eqB ix Ev.c) (P := fun d => d = .bl (decide (L[a] = 1))) rfl) cut2 cl) ?_ fun ws2 g2 => kk _ ⟨ws2, g2, rfl⟩
          rintro row ⟨y, rfl, rfl⟩
          exact put rfl (fun z => by cases z)
      rintro _ ⟨ws, g, rfl⟩
      -- two numbers
      refine seq_post (fun ε => ∃ o : Nat, o < L.length ∧ ε = e (W ws) A B (V (.int (o : Int))) none none none none) (fun K kk => ?_) ?_
      · refine gd_of (show (0 : Int) < (((L.map D.int).length : Nat) : Int) by omega) ?_
        have m0 : 0 ≤ ((a : Int) + 1) % (((L.map D.int).length : Nat) : Int) := Int.emod_nonneg _ (by omega)
        have m1 : ((a : Int) + 1) % (((L.map D.int).length : Nat) : Int) < (((L.map D.int).length : Nat) : Int) := Int.emod_lt_of_pos _ (by omega)
        refine kk _ ⟨(((a : Int) + 1) % (((L.map D.int).length : Nat) : Int)).toNat, by omega, ?_⟩
        rw [Int.toNat_of_nonneg m0]
        rfl
      rintro _ ⟨o, ho, rfl⟩
      let O : Option S := V (.int (o : Int))
      refine if_evT (b := !decide ((o : Int) = (a : Int))) (EvT.neT (Ev.var rfl) (Ev.var rfl)) ?_
      cases e3 : decide ((o : Int) = (a : Int)) with
      | true => exact kk _ ⟨ws, A, B, O, none, ⟨g.s, g.l, by have := g.m; omega⟩, rfl⟩
      | false =>
        have ne := of_decide_eq_false e3
        let pf : D → D := fun d => match d with
          | .int k => .int (L.getD k.toNat 0 + dlt k a b - dlt k o b)
          | _ => .non
        let pr : List D := (rangeD 0 L.length).map pf
        refine seq_step (e (W ws) A B O (V (.lst pr)) none none none) (fun K k => ?_) ?_
        · refine gd_of (small_by (by omega) (by rw [ll]; omega)) ?_
          have hlen : ((((L.map D.int).length : Nat) : Int)).toNat = L.length := by rw [ll, Int.toNat_natCast]
          rw [hlen]
          refine ⟨⟨trivial, trivial⟩, by rw [rangeD_len]; omega, lc_map pf (fun i d hd K N hk => ?_) k⟩
          obtain ⟨hi, rfl⟩ := rangeD_get hd
          refine gn_of ?_
          let E2 : PEnv := [V .pool, V (intsD L), V (ratD r), W ws, A, B, O, none, none, none, none, V (.int (0 + (i : Int)))]
          refine (?_ : yYes E2 _)
          have ek : pf (.int (0 + (i : Int))) = .int (L[i] + dlt (0 + (i : Int)) a b - dlt (0 + (i : Int)) o b) := by
            show D.int (L.getD (0 + (i : Int)).toNat 0 + _ - _) = _
            rw [Int.zero_add, Int.toNat_natCast, List.getD_eq_getElem?_getD, List.getElem?_eq_getElem hi]
            rfl
          rw [ek] at hk
          refine yes_ev (d := .int (L[i] + dlt (0 + (i : Int)) a b - dlt (0 + (i : Int)) o b)) (Ev.subI (Ev.addI (ixl_ev (xs := L.map D.int) (j := 0 + (i : Int)) (Ev.var (i := 1) rfl) (Ev.var (i := 11) rfl) (by rw [Int.zero_add]; exact get_int hi)) (dlt_ev (i := 5) rfl (Ev.var (i := 11) rfl) (Ev.var (i := 4) rfl))) (dlt_ev (i := 5) rfl (Ev.var (i := 11) rfl) (Ev.var (i := 6) rfl))) ⟨rfl, hk⟩
        have prl : pr.length = L.length := by rw [List.length_map, rangeD_len]
        refine seq_post (fun ε => ∃ ws, GoodW L r 12 ws ∧ ε = e (W ws) A B O (V (.lst pr)) none none none) (fun K kk => apR g (by decide) (Ev.any (Ev.var (i := 7) rfl) (P := fun d => d = .lst pr) rfl) ?_ fun ws2 g2 => kk _ ⟨ws2, g2, rfl⟩) ?_
        · rintro row rfl
          refine ⟨sz (fun d hd => ?_) (by omega), fun z => ?_⟩
          · obtain ⟨x, hx, rfl⟩ := List.mem_map.mp hd
            obtain ⟨i, hi, ei⟩ := List.getElem_of_mem hx
            have := rangeD_get (List.getElem?_eq_getElem hi)
            rw [ei] at this
            rw [this.2]
            rfl
          · have z : pr = L.map D.int := by injection z
            have ga : pr[a]? = (L.map D.int)[a]? := by rw [z]
            have gr : (rangeD 0 L.length)[a]? = some (.int (0 + (a : Int))) := by
              have hr : a < (rangeD 0 L.length).length := by rw [rangeD_len]; exact ha
              rw [List.getElem?_eq_getElem hr]
              have := rangeD_get (List.getElem?_eq_getElem hr)
              rw [this.2]
            rw [List.getElem?_map, gr, List.getElem?_map, List.getElem?_eq_getElem ha] at ga
            have ga : some (pf (.int (0 + (a : Int)))) = some (D.int L[a]) := ga
            have ga := Option.some.inj ga
            have ek : pf (.int (0 + (a : Int))) = .int (L[a] + dlt (0 + (a : Int)) a b - dlt (0 + (a : Int)) o b) := by
              show D.int (L.getD (0 + (a : Int)).toNat 0 + _ - _) = _
              rw [Int.zero_add, Int.toNat_natCast, List.getD_eq_getElem?_getD, List.getElem?_eq_getElem ha]
              rfl
            rw [ek] at ga
            injection ga with ga
            unfold dlt at ga
            rw [if_pos (by omega), if_neg (by omega)] at ga
            omega
        rintro _ ⟨ws, g, rfl⟩
        refine apR g (by decide) (Ev.any (P := fun d => d = .lst ((L.map D.int).reverse ++ [.int 7])) (Ev.add (xs := (L.map D.int).reverse) (ys := [.int 7]) (fun Q q => q) (lst1_ev Ev.c) (by rw [List.length_reverse, ll]; show L.length + 1 ≤ _; omega)) rfl) ?_ fun ws2 g2 => kk _ ⟨ws2, A, B, O, V (.lst pr), g2, rfl⟩
        rintro row rfl
        have le : ((L.map D.int).reverse ++ [D.int 7]).length = L.length + 1 := by rw [List.length_append, List.length_reverse, ll]; rfl
        refine ⟨sz (fun d hd => ?_) (by omega), row_len (by omega)⟩
        rcases List.mem_append.mp hd with hd | hd
        · exact rg d (List.mem_reverse.mp hd)
        · rw [List.mem_singleton.mp hd]; rfl
  rintro _ ⟨ws, a, b, o, p, g, rfl⟩
  let G (ws : List (D × D)) (t l on : Option S) : PEnv := e (W ws) a b o p t l on
  refine seq_post (fun ε => ∃ ws t l on, GoodW L r 30 ws ∧ ε = G ws t l on) (fun K kk => ?_) ?_
  · have apB : ∀ {ws : List (D × D)} {n : Nat} {t l on : Option S} {rr : PTE} {v : D} {Δ : PEnds}, GoodW L r n ws → n ≤ 100 → Ev rr (G ws t l on) v → BadRt v → (∀ ws2, GoodW L r (n + 1) ws2 → Δ.nx (G ws2 t l on)) → ysApp 3 (yTup (ylCons (yVar 1) (ylCons rr ylNil))) Δ (G ws t l on) := fun {ws n t l on rr v Δ} g hn hv hB k => by
      refine app_ev (ε := G ws t l on) (ds := ws.map spD) rfl (tup2_ev (Ev.var (i := 1) rfl) hv) (by rw [List.length_map]; have := g.m; omega) ?_
      rw [sp_snoc]
      exact k _ (g.more (.inr (.inl ⟨rfl, hB⟩)))
    cases r with
    | none =>
      refine if_evT (b := false) (EvT.isP (o := none) (neg := true) (Ev.var rfl)) ?_
      have gl : (ws.map spD).length + 5 ≤ 16777216 := by rw [List.length_map]; have := g.m; omega
      refine gd_of gl ?_
      let ws2 : List (D × D) := [(intsD L, pairD (0, 1)), (intsD L, .tup []), (intsD L, .bl false), (intsD L, .int 0), (intsD L, .tup [.non, .int 1])]
      refine kk _ ⟨ws ++ ws2, none, none, none, ⟨fun w hw => ?_, ?_, ?_⟩, ?_⟩
      · rcases List.mem_append.mp hw with hw | hw
        · exact g.s w hw
        · simp only [ws2, List.mem_cons, List.not_mem_nil, or_false] at hw
          rcases hw with rfl | rfl | rfl | rfl | rfl
          · exact .inr (.inr ⟨rfl, rfl, rfl⟩)
          · exact .inr (.inl ⟨rfl, bad_of rfl (fun z => by cases z) (fun a b z => by cases z)⟩)
          · exact .inr (.inl ⟨rfl, bad_of rfl (fun z => by cases z) (fun a b z => by cases z)⟩)
          · exact .inr (.inl ⟨rfl, bad_of rfl (fun z => by cases z) (fun a b z => by cases z)⟩)
          · exact .inr (.inl ⟨rfl, bad_of rfl (fun z => by cases z) (fun a b z => by cases z)⟩)
      · rw [List.length_append]; have := g.l; omega
      · rw [List.length_append]; have := g.m; show ws.length + 5 ≤ _; omega
      · have em : (ws ++ ws2).map spD = ws.map spD ++ ws2.map spD := List.map_append
        show _ = [V .pool, V (intsD L), V (ratD none), some (.o ((ws ++ ws2).map spD)), a, b, o, p, none, none, none, none]
        rw [em]
        rfl
    | some k =>
      have hk := hr k rfl
      refine if_evT (b := true) (EvT.isP (o := some k) (neg := true) (Ev.var rfl)) ?_
      refine seq_step (G ws (V (.int k.1)) (V (.int k.2)) none) (fun K kk => gtup2 (d1 := .int k.1) (d2 := .int k.2) kk) ?_
      refine seq_post (fun ε => ∃ ws on, GoodW L (some k) 25 ws ∧ ε = G ws (V (.int k.1)) (V (.int k.2)) on) (fun K kk => ?_) ?_
      · have g2 : ((-18446744073709551616 : Int) < 2 ∧ (2 : Int) < 18446744073709551616) := by decide
        have gs : ([D.int k.1, D.int k.2] : List D).length ≤ 8000 ∧ ([D.int k.1, D.int k.2] : List D).all itB = true := ⟨by show 2 ≤ 8000; decide, List.all_eq_true.mpr fun d hd => by
          simp only [List.mem_cons, List.not_mem_nil, or_false] at hd
          rcases hd with rfl | rfl
          · exact decide_eq_true (log_of (hk.b1.mono (by decide)))
          · exact decide_eq_true (log_of (hk.b2.mono (by decide)))⟩
        refine gd_of gs fun x => ?_
        refine gd_of (log_of (hk.b1.mono (by decide))) fun y => ?_
        refine for_list (S := badL k.1 k.2 x y) (m := fun d => d) (fun i ε => ∃ ws on, GoodW L (some k) (13 + i) ws ∧ ε = G ws (V (.int k.1)) (V (.int k.2)) on) ⟨ws, none, g, rfl⟩ (fun i hj ε w => ?_) fun ε w => ?_
        · obtain ⟨ws, on, g, rfl⟩ := w
          have hB := bad_all (t := k.1) (l := k.2) (x := x) (y := y) hk.low _ (List.getElem_mem hj)
          replace hj : i < 12 := hj
          generalize (badL k.1 k.2 x y)[i] = v at hB
          refine gn_of ?_
          exact apB (ws := ws) (t := V (.int k.1)) (l := V (.int k.2)) (on := V v) g (by omega) (Ev.var (i := 10) rfl) hB fun ws2 g2 => ⟨ws2, V v, g2, rfl⟩
        · obtain ⟨ws, on, g, rfl⟩ := w
          exact kk _ ⟨ws, on, g, rfl⟩
      rintro _ ⟨ws, on, g, rfl⟩
      refine if_evT (b := decide (k.2 = 1)) (EvT.eqI (Ev.var rfl) Ev.c) ?_
      cases e1 : decide (k.2 = 1) with
      | false => exact kk _ ⟨ws, _, _, on, ⟨g.s, g.l, by have := g.m; omega⟩, rfl⟩
      | true => exact apB (ws := ws) (t := V (.int k.1)) (l := V (.int k.2)) (on := on) g (by decide) (tup2_ev (Ev.var (i := 8) rfl) Ev.c) (bad_of rfl (fun z => by cases z) (fun a b z => by cases z)) fun ws2 g2 => kk _ ⟨ws2, _, _, on, ⟨g2.s, g2.l, by have := g2.m; omega⟩, rfl⟩
  rintro _ ⟨ws, t, l, on, g, rfl⟩
  exact h ws g.l (by have := g.m; omega) g.s

end PL.K57

set_option Elab.async false
set_option linter.all false
set_option autoImplicit false
set_option maxRecDepth 100000
set_option maxHeartbeats 1000000
namespace PL.K57
open PySem PySem.Spec PyProof.Rows L2
local macro_rules | `(tactic| walk_at "y") => `(tactic| conv => whnf)
/-! ### _law_all_said -/
theorem regT_pt (p : Pt) : regT (ptD p) = true := by
  show [D.int p.b, .int p.w, optD p.lo, optD p.hi].all regB = true
  cases p.lo <;> cases p.hi <;> rfl
theorem regP_pts (ps : List Pt) : regP (ptsD ps) = true := List.all_eq_true.mpr fun d hd => by
  obtain ⟨p, _, rfl⟩ := List.mem_map.mp hd
  exact regT_pt p
theorem ok_pts {ps : List Pt} {room : Int} (hf : Fl ps) (hl : ps.length ≤ 200) : okB (ptsD ps) (.int room) = true := by
  show ((decide ((ps.map ptD).length ≤ 200) && (ps.map ptD).all isPartB) && true) = true
  rw [decide_eq_true (by rw [List.length_map]; exact hl)]
  rw [show (ps.map ptD).all isPartB = true from List.all_eq_true.mpr fun d hd => by
    obtain ⟨p, hp, rfl⟩ := List.mem_map.mp hd
    exact part_of (hf p hp).1 (hf p hp).2]
  rfl
theorem share_ev {Ξ : Xi} {r1 r2 r3 r4 : PTE} {ε : PEnv} {ps : List Pt} {room : Int} {s v : D} {b : Bool} (h1 : Ev r1 ε (ptsD ps)) (h2 : Ev r2 ε (.int room)) (h3 : Ev r3 ε s) (h4 : Ev r4 ε v) (hi : InF ps room) (hl : ps.length ≤ 200) (hv : RtOk v) (hs : SzOk s) (hb : b = true ↔ rightB ps room v = true ∧ s = .lst (sizesD ps room (rOf v))) :
    Ev (yCall φ_is_share Ξ (ylCons r1 (ylCons r2 (ylCons r3 (ylCons r4 ylNil))))) ε (.bl b) := fun Q q => call4_of h1 h2 h3 h4 ⟨_, _, _, _, rfl, regP_pts ps, rfl, (fun z => by rw [ok_pts hi.f hl] at z; cases z), fun _ => ⟨ps, room, rfl, rfl, hi, hv, hs, fun b2 hb2 => by
  have : b2 = b := by
    cases b <;> cases b2 <;> first | rfl | (exact absurd (hb2.mpr (hb.mp rfl)) (by decide)) | (exact absurd (hb.mpr (hb2.mp rfl)) (by decide))
  rw [this]
  exact q⟩⟩
theorem yes2_ev {Ξ : Xi} {r1 r2 : PTE} {ε : PEnv} {a b : Bool} (h1 : Ev r1 ε (.bl a)) (h2 : Ev r2 ε (.bl b)) (h : a = b) : Ev (yCall φ_law_is_yes Ξ (ylCons r1 (ylCons r2 ylNil))) ε (.bl true) := call_ev2 h1 h2 fun K E k => ⟨a, b, rfl, by rw [decide_eq_true h]; exact k⟩
/-- with the sharing's own sizes -/
theorem right_sz {ps : List Pt} {room : Int} {r : Option (Int × Int)} {b : Bool} (ok : Fl ps) (h : b = rightB ps room (ratD r)) : b = true ↔ rightB ps room (ratD r) = true ∧ intsD (lawShare ps room) = .lst (sizesD ps room (rOf (ratD r))) := by
  rw [h]
  refine ⟨fun z => ⟨z, ?_⟩, fun z => z.1⟩
  rw [rOf_rat, sizes_right ok z]
  rfl
theorem wholes_b {low : Int} {n : Nat} (h : 0 < low) : ∀ {ts : List Int} {a : Int}, (∀ t ∈ ts, Bn n t) → ∀ x ∈ wholesI low a ts, Bn (n + 1) x
  | [], _, _, x, hx => by cases hx
  | t :: ts, a, ht, x, hx => by
    rcases List.mem_cons.mp hx with rfl | hx
    · have b : t.natAbs < 2 ^ n := ht t List.mem_cons_self
      have p1 : 0 < 2 ^ n := Nat.two_pow_pos n
      have e1 : (a + t * low) / low = a / low + t := Int.add_mul_ediv_right _ _ (by omega)
      have q : ((a + t) / low - a / low).natAbs ≤ t.natAbs := by
        rcases Int.le_total 0 t with z | z
        · have m : t ≤ t * low := by
            have := Int.mul_le_mul_of_nonneg_left (show (1 : Int) ≤ low by omega) z
            omega
          have d1 := Int.ediv_le_ediv h (show a ≤ a + t by omega)
          have d2 := Int.ediv_le_ediv h (show a + t ≤ a + t * low by omega)
          omega
        · have m : t * low ≤ t := by
            have := Int.mul_le_mul_of_nonneg_left (show (1 : Int) ≤ low by omega) (show 0 ≤ -t by omega)
            rw [Int.neg_mul, Int.neg_mul] at this
            omega
          have d1 := Int.ediv_le_ediv h (show a + t ≤ a by omega)
          have d2 := Int.ediv_le_ediv h (show a + t * low ≤ a + t by omega)
          omega
      show _ < 2 ^ (n + 1)
      have : 2 ^ (n + 1) = 2 ^ n * 2 := Nat.pow_succ ..
      omega
    · exact wholes_b h (fun t ht' => ht t (List.mem_cons_of_mem _ ht')) x hx
theorem share_b {ps : List Pt} {room : Int} (hi : InF ps room) : ∀ x ∈ lawShare ps room, Bn 1900 x := by
  intro x hx
  have tb : bIn (fun t => 0 < t.2 ∧ Bn 101 t.1 ∧ Bn 101 t.2) (lsBest ps room) := ls_in trivial fun k hk => ⟨kAll_pos k hk, kAll_b hi.i.b k hk⟩
  unfold lawShare at hx
  cases e : lsBest ps room with
  | none =>
    rw [e] at hx
    obtain ⟨p, hp, rfl⟩ := List.mem_map.mp hx
    have pb := hi.i.b p hp
    unfold leastI
    obtain ⟨_, l, el⟩ := hi.f p hp
    split
    · rw [el]
      exact (pb.lo l el).mono (by decide)
    · exact (cut_b pb.b pb.lo pb.hi).mono (by decide)
  | some t =>
    rw [e] at hx tb
    obtain ⟨t0, t1, t2⟩ := tb
    obtain ⟨e0, e1, e2⟩ := lsEnd_b hi.i hi.r t1 t2 t0
    refine (wholes_b e0 (n := 351) (fun y hy => ?_) x hx).mono (by decide)
    obtain ⟨p, hp, rfl⟩ := List.mem_map.mp hy
    exact top_b (hi.i.b p hp) e1 e2
theorem fd_rat (r : Option (Int × Int)) : Fd 1 (ratD r) := by
  cases r with
  | none => exact fd_non.mono (by decide)
  | some k =>
    refine fd_tup (n := 0) fun d hd => ?_
    simp only [List.mem_cons, List.not_mem_nil, or_false] at hd
    rcases hd with rfl | rfl
    · exact fd_int _
    · exact fd_int _
theorem EvT.neNilO {ε : PEnv} {i : Nat} {rs : List (Option (Int × Int))} (h0 : ε[i]? = some (some (.o (rs.map ratD)))) : EvT (yBinT (oEq true) (yVar i) (yNew (ynLst ylNil))) ε (!rs.isEmpty) := fun Q q => by
  unfold yBinT yVar
  simp only [h0]
  have sh : SeqAt.shaped (D.py (.lst (rs.map ratD))) = true := (fd_lst (n := 1) fun d hd => by
    obtain ⟨r, _, rfl⟩ := List.mem_map.mp hd
    exact fd_rat r).shaped
  have z : PyData.eqv (D.py (.lst (rs.map ratD))) (D.py (.lst [])) = rs.isEmpty := by cases rs <;> rfl
  refine (?_ : res ε (.l i) fun d1 => oEq true d1 (.lst []) (asB fun b => Q b ε))
  unfold res
  simp only [h0]
  refine (?_ : gd (SeqAt.shaped (D.py (.lst (rs.map ratD))) = true ∧ SeqAt.shaped (D.py (.lst [])) = true) (Q (!(PyData.eqv (D.py (.lst (rs.map ratD))) (D.py (.lst [])))) ε))
  refine gd_of ⟨sh, rfl⟩ ?_
  rw [z]
  exact q

end PL.K57

set_option Elab.async false
set_option linter.all false
set_option autoImplicit false
set_option maxRecDepth 100000
set_option maxHeartbeats 1000000
namespace PL.K57
open PySem PySem.Spec PyProof.Rows L2
local macro_rules | `(tactic| walk_at "y") => `(tactic| conv => whnf)
/-- a ratio that is right -/
structure Right (ps : List Pt) (room : Int) (r : Option (Int × Int)) : Prop where
  y : rightB ps room (ratD r) = true
  p : ∀ k, r = some k → RtP k
theorem right_told {ps : List Pt} {room : Int} (hi : InF ps room) : Right ps room (ratioI ps room) := by
  refine ⟨right_ratio hi.f, fun k e => ?_⟩
  have b := ratio_b hi.i.ok hi.i.b hi.i.lt hi.r k e
  have y := right_ratio (room := room) hi.f
  rw [e] at y
  obtain ⟨h1, h2, _⟩ := right_some y
  exact ⟨h1, h2, b.1, b.2⟩
structure InG (ps : List Pt) (room : Int) : Prop where
  i : In ps
  f : Fl ps
  r : Bn 100 room
  l : ps.length ≤ 200
theorem InG.at {ps : List Pt} {room room2 : Int} (h : InG ps room) (hr : Bn 110 room2) : InF ps room2 := ⟨h.i, h.f, hr⟩
theorem InG.f' {ps : List Pt} {room : Int} (h : InG ps room) : InF ps room := ⟨h.i, h.f, h.r.mono (by decide)⟩
def φ_law_all_said : Spec := fun ds Q _ => ∃ ps room, ds = [.pool, ptsD ps, .int room] ∧ InG ps room ∧ Q (.bl true)
def r_said_turn (Ξ : Xi) : PTS :=
  (ysSeq (ysAsgG (yIx (yVar 10) (yBin oMod (yCB oInt (ylCons (yBin oAdd (yVar 11) (yBin oMulA (yVar 12) (yC (.int 5)))) ylNil)) (yCB oLen (ylCons (yVar 10) ylNil)))) (gTupY 2 [(gN 6), (gN 13)]))
  (ysIf (yNot (yTru (yCall φ_law_is_yes Ξ (ylCons (yCall φ_is_share Ξ (ylCons (yVar 4) (ylCons (yVar 2) (ylCons (yVar 6) (ylCons (yVar 13) ylNil))))) (ylCons (yC (.bl false)) ylNil)))))
  (ysRet (yC (.bl false)))
  ysNext))
theorem said_turn {E' : Nat → Prop} {Δ : PEnds} {ps : List Pt} {room b z : Int} {r : Option (Int × Int)} {ri ro tu on ca du to sa : Option S} {ws : List (D × D)} (hi : InF ps room) (hl : ps.length ≤ 200) (rr : Right ps room r) (w1 : 1 ≤ ws.length) (w3 : ∀ w ∈ ws, Spoil (lawShare ps room) r w)
    (k : ∀ ro tu on, Δ.nx [ca, some (.v (ptsD ps)), some (.v (.int room)), sa, some (.v (ptsD ps)), ri, ro, some (.v (ratD r)), du, to, some (.v (.lst (ws.map spD))), some (.v (.int b)), tu, on, none, none]) :
    r_said_turn (fun c _ => E' c) Δ [ca, some (.v (ptsD ps)), some (.v (.int room)), sa, some (.v (ptsD ps)), ri, ro, some (.v (ratD r)), du, to, some (.v (.lst (ws.map spD))), some (.v (.int b)), some (.v (.int z)), on, none, none] := by
  let H (ro on : Option S) : PEnv := [ca, some (.v (ptsD ps)), some (.v (.int room)), sa, some (.v (ptsD ps)), ri, ro, some (.v (ratD r)), du, to, some (.v (.lst (ws.map spD))), some (.v (.int b)), some (.v (.int z)), on, none, none]
  have wl : (ws.map spD).length = ws.length := List.length_map ..
  have ev : EvA (yIx (yVar 10) (yBin oMod (yCB oInt (ylCons (yBin oAdd (yVar 11) (yBin oMulA (yVar 12) (yC (.int 5)))) ylNil)) (yCB oLen (ylCons (yVar 10) ylNil)))) (H ro on) (fun d => ∃ w ∈ ws, d = spD w) := fun Q kk => by
    have g5 : (-18446744073709551616 < z ∧ z < 18446744073709551616) ∨ ((-18446744073709551616 : Int) < 5 ∧ (5 : Int) < 18446744073709551616) := .inr (by decide)
    refine gd_of g5 ?_
    generalize b + z * 5 = i
    refine gd_of (show (0 : Int) < (((ws.map spD).length : Nat) : Int) by omega) ?_
    refine pick_of (xs := ws.map spD) (Int.emod_nonneg _ (by omega)) (Int.emod_lt_of_pos _ (by omega)) fun d hd => ?_
    obtain ⟨w, hm, rfl⟩ := List.mem_map.mp hd
    exact kk _ ⟨w, hm, rfl⟩
  refine seq_post (fun ε => ∃ w : D × D, w ∈ ws ∧ ε = H (some (.v w.1)) (some (.v w.2))) (fun K kk => ev _ fun d hd => ?_) ?_
  · obtain ⟨w, hm, rfl⟩ := hd
    exact gtup2 (d1 := w.1) (d2 := w.2) (kk _ ⟨w, hm, rfl⟩)
  rintro _ ⟨w, hm, rfl⟩
  obtain ⟨q1, q2, q3⟩ := spoil_no hi rr.p rr.y (w3 w hm)
  exact ifn (yes2_ev (share_ev (ps := ps) (room := room) (b := false) (Ev.var rfl) (Ev.var rfl) (Ev.var (i := 6) rfl) (Ev.var (i := 13) rfl) hi hl q1 q2 ⟨(fun z => by cases z), fun z => absurd z q3⟩) Ev.c rfl) (k _ _ _)
abbrev N_law_all_said : List Str := ["pool", "parts", "room", "sizes", "handed", "rights", "row", "ratio", "due", "told", "wrongs", "begin", "turn", "one", "beside", "same"]
def r_law_all_said (Ξ : Xi) : PTS :=
  (ysSeq (ysPar 3 4 (yxE (yCall φ_law_share Ξ (ylCons (yVar 1) (ylCons (yVar 2) ylNil)))) (yxE (yNew (ynCB oListOf (ylCons (yVar 1) ylNil)))))
  (ysSeq (ysAsgO (ynLst ylNil) 5)
  (ysSeq (ysFor (yiSeq (yCall φ_law_papers Ξ (ylCons (yVar 0) (ylCons (yVar 1) (ylCons (yVar 2) (ylCons (yVar 3) ylNil)))))) (gTupY 3 [(gN 6), (gN 7), (gN 8)])
  (ysSeq (ysIf (yNot (yTru (yCall φ_law_is_yes Ξ (ylCons (yCall φ_is_share Ξ (ylCons (yVar 4) (ylCons (yVar 2) (ylCons (yNew (ynCB oListOf (ylCons (yVar 6) ylNil))) (ylCons (yVar 7) ylNil))))) (ylCons (yVar 8) ylNil)))))
  (ysRet (yC (.bl false)))
  ysNext)
  (ysIf (yTru (yVar 8))
  (ysApp 5 (yVar 7))
  ysNext)))
  (ysSeq (ysAsg (yCall φ_shares Ξ (ylCons (yNew (ynCB oListOf (ylCons (yVar 1) ylNil))) (ylCons (yVar 2) ylNil))) 9)
  (ysSeq (ysIf (yNot (yTru (yCall φ_law_is_yes Ξ (ylCons (yCall φ_is_share Ξ (ylCons (yVar 4) (ylCons (yVar 2) (ylCons (yIx (yVar 9) (yC (.int 0))) (ylCons (yIx (yVar 9) (yC (.int 1))) ylNil))))) (ylCons (yC (.bl true)) ylNil)))))
  (ysRet (yC (.bl false)))
  ysNext)
  (ysSeq (ysAsg (yIx (yVar 9) (yC (.int 1))) 7)
  (ysSeq (ysIf (yBinT (oEq true) (yVar 5) (yNew (ynLst ylNil)))
  (ysAsg (yIx (yVar 5) (yBin oMod (yCB oInt (ylCons (yCall φ_law_pick Ξ (ylCons (yVar 0) (ylCons (yC (.int 60)) ylNil))) ylNil)) (yCB oLen (ylCons (yVar 5) ylNil)))) 7)
  ysNext)
  (ysSeq (ysAsg (yCall φ_law_spoilt Ξ (ylCons (yVar 0) (ylCons (yVar 3) (ylCons (yVar 7) ylNil)))) 10)
  (ysSeq (ysAsg (yCall φ_law_pick Ξ (ylCons (yVar 0) (ylCons (yC (.int 60)) ylNil))) 11)
  (ysSeq (ysFor (yiRg1 (ylCons (yC (.int 12)) ylNil)) (gN 12)
  (ysSeq (ysAsgG (yIx (yVar 10) (yBin oMod (yCB oInt (ylCons (yBin oAdd (yVar 11) (yBin oMulA (yVar 12) (yC (.int 5)))) ylNil)) (yCB oLen (ylCons (yVar 10) ylNil)))) (gTupY 2 [(gN 6), (gN 13)]))
  (ysIf (yNot (yTru (yCall φ_law_is_yes Ξ (ylCons (yCall φ_is_share Ξ (ylCons (yVar 4) (ylCons (yVar 2) (ylCons (yVar 6) (ylCons (yVar 13) ylNil))))) (ylCons (yC (.bl false)) ylNil)))))
  (ysRet (yC (.bl false)))
  ysNext)))
  (ysSeq (ysAsg (yBin oAdd (yVar 2) (yIx (yNew (ynLst (ylCons (yC (.int 1)) (ylCons (yNeg (yC (.int 1))) (ylCons (yC (.int 3)) ylNil))))) (yCall φ_law_pick Ξ (ylCons (yVar 0) (ylCons (yC (.int 3)) ylNil))))) 14)
  (ysSeq (ysAsg (yBin (oEq false) (yCall φ_law_share Ξ (ylCons (yVar 1) (ylCons (yVar 14) ylNil))) (yVar 3)) 15)
  (ysSeq (ysIf (yAnd (yBinT (oIsN true) (yVar 7) (yC .non)) (yNot (yTru (yCall φ_law_is_yes Ξ (ylCons (yCall φ_is_share Ξ (ylCons (yVar 4) (ylCons (yVar 14) (ylCons (yVar 3) (ylCons (yVar 7) ylNil))))) (ylCons (yC (.bl false)) ylNil))))))
  (ysRet (yC (.bl false)))
  ysNext)
  (ysRet (yAndV (yOrV (yVar 15) (yCall φ_law_is_yes Ξ (ylCons (yCall φ_is_share Ξ (ylCons (yVar 4) (ylCons (yVar 14) (ylCons (yVar 3) (ylCons (yC .non) ylNil))))) (ylCons (yC (.bl false)) ylNil)))) (yBin (oEq false) (yVar 4) (yVar 1)))))))))))))))))
theorem vc_law_all_said (ds : List D) (Q' : D → Prop) (E' : Nat → Prop) (h : φ_law_all_said ds Q' E') : r_law_all_said (fun c _ => E' c) { nx := fun _ => Q' .non, rt := fun d _ => Q' d } (startE N_law_all_said ds) := by
  obtain ⟨ps, room, rfl, hg, h⟩ := h
  have hi := hg.f'
  let V (x : D) : Option S := some (.v x)
  let L := lawShare ps room
  have ll : L.length = ps.length := share_len hg.f
  have sl : SzOk (intsD L) := sz_ints (by rw [ll]; exact hg.i.n)
  let R (rs : List (Option (Int × Int))) : Option S := some (.o (rs.map ratD))
  let e (si ha ri ro ra du to wr be tu on bs sa : Option S) : PEnv := [V .pool, V (ptsD ps), V (.int room), si, ha, ri, ro, ra, du, to, wr, be, tu, on, bs, sa]
  let Ξ : Xi := fun c _ => E' c
  let e1 (ri ro ra du to wr be tu on bs sa : Option S) : PEnv := e (V (intsD L)) (V (ptsD ps)) ri ro ra du to wr be tu on bs sa
  let X : Option S := none
  refine seq_step (e1 X X X X X X X X X X X) (fun K k => ⟨ps, room, rfl, hi, k⟩) ?_
  refine seq_step (e1 (R []) X X X X X X X X X X) (fun K k => k) ?_
  -- the papers
  refine seq_post (fun ε => ∃ (rs : List (Option (Int × Int))) (ro ra du : Option D), ((∀ r ∈ rs, Right ps room r) ∧ rs.length ≤ 10000) ∧ ε = e1 (R rs) (ro.map S.v) (ra.map S.v) (du.map S.v) X X X X X X X) (fun K kk => ?_) ?_
  · refine ⟨ps, room, L, rfl, hi, fun pp hp hl => ?_⟩
    refine for_list (S := pp) (m := papD L) (fun i ε => ∃ (rs : List (Option (Int × Int))) (ro ra du : Option D), ((∀ r ∈ rs, Right ps room r) ∧ rs.length ≤ i) ∧ ε = e1 (R rs) (ro.map S.v) (ra.map S.v) (du.map S.v) X X X X X X X) ⟨[], none, none, none, ⟨(fun r hr => by cases hr), Nat.zero_le _⟩, rfl⟩ (fun i hj ε w => ?_) fun ε w => ?_
    · obtain ⟨rs, ro, ra, du, ⟨hr, lr⟩, rfl⟩ := w
      have ok := hp pp[i] (List.getElem_mem hj)
      generalize pp[i] = q at ok
      refine gtup3 (d1 := intsD L) (d2 := ratD q.r) (d3 := .bl q.due) ?_
      let ε1 : PEnv := e1 (R rs) (V (intsD L)) (V (ratD q.r)) (V (.bl q.due)) X X X X X X X
      have c1 : Ev (yNew (ynCB oListOf (ylCons (yVar 6) ylNil))) ε1 (intsD L) := fun Q q => q
      have s1 : Ev (yCall φ_is_share Ξ (ylCons (yVar 4) (ylCons (yVar 2) (ylCons (yNew (ynCB oListOf (ylCons (yVar 6) ylNil))) (ylCons (yVar 7) ylNil))))) ε1 (.bl q.due) := share_ev (Ev.var rfl) (Ev.var rfl) c1 (Ev.var rfl) hi hg.l (rat_ok ok.rt) sl (right_sz hg.f ok.due)
      refine seq_step ε1 (fun K k => ifn (yes2_ev s1 (Ev.var rfl) rfl) k) ?_
      refine if_evT (EvT.truB (ε := ε1) (b := q.due) (Ev.var rfl)) ?_
      cases e2 : q.due with
      | false => exact ⟨rs, some _, some _, some _, ⟨hr, by omega⟩, rfl⟩
      | true =>
        refine app_ev (ε := ε1) (ds := rs.map ratD) rfl (Ev.var (i := 7) rfl) (by rw [List.length_map]; omega) ?_
        have em : rs.map ratD ++ [ratD q.r] = (rs ++ [q.r]).map ratD := by rw [List.map_append]; rfl
        rw [em]
        exact ⟨rs ++ [q.r], some _, some _, some _, ⟨all_snoc hr ⟨by rw [← ok.due]; exact e2, ok.rt⟩, by rw [List.length_append]; show rs.length + 1 ≤ _; omega⟩, rfl⟩
    · obtain ⟨rs, ro, ra, du, ⟨hr, lr⟩, rfl⟩ := w
      exact kk _ ⟨rs, ro, ra, du, ⟨hr, by omega⟩, rfl⟩
  rintro _ ⟨rs, ro, ra, du, ⟨hr, lr⟩, rfl⟩
  let F (ri ra to wr be tu on bs sa : Option S) : PEnv := e1 ri (ro.map S.v) ra (du.map S.v) to wr be tu on bs sa
  -- what is told
  have es : sharesD ps room = .tup [intsD L, ratD (ratioI ps room)] := by
    show D.tup [.lst (sizesD ps room (ratioI ps room)), _] = _
    rw [share_same hg.f]
    rfl
  refine seq_step (F (R rs) (ra.map S.v) (V (.tup [intsD L, ratD (ratioI ps room)])) X X X X X X) (fun K k => ?_) ?_
  · refine ⟨regP_pts ps, rfl, (fun z => absurd ((ok_pts (room := room) hg.f hg.l).symm.trans z) (by decide)), fun _ => ⟨ps, room, rfl, rfl, hg.i, hg.f, hi.r, ?_⟩⟩
    rw [es]
    exact k
  have rt := right_told hi
  let T : Option S := V (.tup [intsD L, ratD (ratioI ps room)])
  refine seq_step (F (R rs) (ra.map S.v) T X X X X X X) (fun K k => ifn (yes2_ev (share_ev (ps := ps) (room := room) (b := true) (Ev.var rfl) (Ev.var rfl) (ixc_ev (Ev.var (i := 9) rfl) rfl) (ixc_ev (Ev.var (i := 9) rfl) rfl) hi hg.l (rat_ok rt.p) sl (right_sz hg.f rt.y.symm)) Ev.c rfl) k) ?_
  refine seq_step (F (R rs) (V (ratD (ratioI ps room))) T X X X X X X) (fun K k => asg_ev (ixc_ev (Ev.var (i := 9) rfl) rfl) k) ?_
  refine seq_post (fun ε => ∃ r ri, Right ps room r ∧ ε = F ri (V (ratD r)) T X X X X X X) (fun K kk => ?_) ?_
  · refine if_evT (EvT.neNilO rfl) ?_
    cases e2 : rs.isEmpty with
    | true => exact kk _ ⟨_, _, rt, rfl⟩
    | false =>
      intro i i0 i1
      have lp : 0 < rs.length := by
        cases rs with
        | nil => cases e2
        | cons x rs => exact Nat.succ_pos _
      refine gd_of (show (0 : Int) < (((rs.map ratD).length : Nat) : Int) by rw [List.length_map]; omega) ?_
      refine pick_of (xs := rs.map ratD) (Int.emod_nonneg _ (by rw [List.length_map]; omega)) (Int.emod_lt_of_pos _ (by rw [List.length_map]; omega)) fun d hd => ?_
      obtain ⟨r, hm, rfl⟩ := List.mem_map.mp hd
      exact kk _ ⟨r, R rs, hr r hm, rfl⟩
  rintro _ ⟨r, ri, rr, rfl⟩
  -- spoilt
  refine seq_post (fun ε => ∃ ws : List (D × D), (1 ≤ ws.length ∧ ws.length ≤ 1000 ∧ ∀ w ∈ ws, Spoil L r w) ∧ ε = F ri (V (ratD r)) T (V (.lst (ws.map spD))) X X X X X) (fun K kk => ⟨L, r, rfl, by rw [ll]; have := hg.l; omega, share_b hi, rr.p, fun ws h1 h2 h3 => kk _ ⟨ws, ⟨h1, h2, h3⟩, rfl⟩⟩) ?_
  rintro _ ⟨ws, ⟨w1, w2, w3⟩, rfl⟩
  let Wr : Option S := V (.lst (ws.map spD))
  refine seq_post (fun ε => ∃ b : Int, (0 ≤ b ∧ b < 60) ∧ ε = F ri (V (ratD r)) T Wr (V (.int b)) X X X X) (fun K kk => fun i i0 i1 => kk _ ⟨i, ⟨i0, i1⟩, rfl⟩) ?_
  rintro _ ⟨b, ⟨b0, b1⟩, rfl⟩
  let Bg : Option S := V (.int b)
  let H (ro tu on bs sa : Option S) : PEnv := e1 ri ro (V (ratD r)) (du.map S.v) T Wr Bg tu on bs sa
  refine seq_post (fun ε => ∃ ro tu on, ε = H ro tu on X X) (fun K kk => ⟨fun i ε => ∃ ro tu on, ε = H ro tu on X X, ⟨_, X, X, rfl⟩, fun i d ε hj hd w => ?_, fun ε w => kk ε w⟩) ?_
  · obtain ⟨ro, tu, on, rfl⟩ := w
    rw [(rangeD_get hd).2]
    generalize (0 + (i : Int)) = z
    refine gn_of ?_
    exact said_turn (z := z) (tu := tu) hi hg.l rr w1 w3 fun ro tu on => ⟨ro, tu, on, rfl⟩
  rintro _ ⟨ro, tu, on, rfl⟩
  -- another room
  refine seq_post (fun ε => ∃ dl : Int, (dl ≠ 0 ∧ Bn 2 dl) ∧ ε = H ro tu on (V (.int (room + dl))) X) (fun K kk => ?_) ?_
  · intro i i0 i1
    refine pickI (ns := [1, -1, 3]) (P := fun n => n ≠ 0 ∧ Bn 2 n) (all_of (p := fun n => decide (n ≠ 0) && bB 2 n) (by decide) fun n z => ⟨of_decide_eq_true (Bool.and_eq_true_iff.mp z).1, bB_ok (Bool.and_eq_true_iff.mp z).2⟩) i0 i1 fun n hn => ?_
    exact kk _ ⟨n, hn, rfl⟩
  rintro _ ⟨dl, ⟨d0, d1⟩, rfl⟩
  have hb := hg.at (room2 := room + dl) ((hg.r.add (d1.mono (by decide))).mono (by decide))
  let Bs : Option S := V (.int (room + dl))
  refine seq_step (H ro tu on Bs (V (.bl (decide (lawShare ps (room + dl) = L))))) (fun K k => asg_ev (Ev.eqL (call_ev2 (Ev.var (i := 1) rfl) (Ev.var (i := 14) rfl) fun K E k => ⟨ps, room + dl, rfl, hb, k⟩) (Ev.var (i := 3) rfl)) k) ?_
  let ε9 := H ro tu on Bs (V (.bl (decide (lawShare ps (room + dl) = L))))
  refine seq_step ε9 (fun K k => if_no ?_ k) ?_
  · cases r with
    | none => exact EvT.andX (a := false) (EvT.isP (o := none) (neg := true) (Ev.var rfl)) (fun _ => rfl) fun z => by cases z
    | some q =>
      have nr : rightB ps (room + dl) (ratD (some q)) = false := by
        obtain ⟨h1, h2, h3⟩ := right_some rr.y
        cases e2 : rightB ps (room + dl) (ratD (some q)) with
        | false => rfl
        | true =>
          obtain ⟨_, _, h4⟩ := right_some e2
          rw [h3, Int.add_mul] at h4
          have : dl * q.2 = 0 := by omega
          rcases Int.mul_eq_zero.mp this with z | z
          · exact absurd z d0
          · omega
      refine EvT.andX (a := true) (EvT.isP (o := some q) (neg := true) (Ev.var rfl)) (fun z => by cases z) fun _ => EvT.not (a := true) (EvT.truB (b := true) (yes2_ev (share_ev (ps := ps) (room := room + dl) (b := false) (Ev.var (i := 4) rfl) (Ev.var (i := 14) rfl) (Ev.var (i := 3) rfl) (Ev.var (i := 7) rfl) hb hg.l (rat_ok rr.p) sl ⟨(fun z => by cases z), fun z => by rw [nr] at z; cases z.1⟩) Ev.c rfl))
  -- the end
  have last : Ev (yOrV (yVar 15) (yCall φ_law_is_yes Ξ (ylCons (yCall φ_is_share Ξ (ylCons (yVar 4) (ylCons (yVar 14) (ylCons (yVar 3) (ylCons (yC .non) ylNil))))) (ylCons (yC (.bl false)) ylNil)))) ε9 (.bl true) := by
    refine Ev.orX (a := decide (lawShare ps (room + dl) = L)) (Ev.var rfl) (fun _ => rfl) fun z => ?_
    have ne := of_decide_eq_false z
    refine yes2_ev (share_ev (ps := ps) (room := room + dl) (b := false) (Ev.var (i := 4) rfl) (Ev.var (i := 14) rfl) (Ev.var (i := 3) rfl) Ev.c hb hg.l (rat_ok (r := none) fun k z => by cases z) sl ⟨(fun z => by cases z), fun y => ?_⟩) Ev.c rfl
    have y1 : rightB ps (room + dl) (ratD none) = true := y.1
    have y2 : intsD L = .lst (sizesD ps (room + dl) none) := y.2
    rw [sizes_right hg.f y1] at y2
    injection y2 with y2
    exact absurd (ints_inj y2).symm ne
  exact ret_ev (Ev.andB last (Ev.eqS (Ev.var (i := 4) rfl) (Ev.var (i := 1) rfl))) h

end PL.K57

set_option Elab.async false
set_option linter.all false
set_option autoImplicit false
set_option maxRecDepth 100000
set_option maxHeartbeats 1000000
namespace PL.K57
open PySem PySem.Spec PyProof.Rows L2
local macro_rules | `(tactic| walk_at "y") => `(tactic| conv => whnf)
/-! ### _law_moved -/
theorem least_b2 {ps : List Pt} {room : Int} (ok : ∀ p ∈ ps, POk p) (h : ∀ p ∈ ps, PB p) (hl : ps.length < 2 ^ 10) (hr : Bn 110 room) : ∀ r, leastR ps room = some r → Bn 230 r.1 ∧ Bn 230 r.2 := fun r e => by
  have hp := lrT_pos (ps := ps) (room := room)
  have hb := lrT_b (room := room) h
  unfold leastR at e
  generalize lrT ps room = t at e hp hb
  cases e2 : decide (gainI t.1 t.2 ps = 0) with
  | true => rw [e2] at e; cases e
  | false =>
    rw [e2] at e
    cases e
    have g := gain_b (top := t.1) (low := t.2) h hl
    have g0 : 0 < gainI t.1 t.2 ps := by
      have a := gain_nonneg ok t.1 t.2
      have b := of_decide_eq_false e2
      omega
    have hd : 0 < t.2 * gainI t.1 t.2 ps := Int.mul_pos hp.2 g0
    have s := sum_b h hb.1 hb.2 hl
    have m1 := hb.1.mul g
    have m2 := hr.mul hb.2
    have m3 := hb.2.mul g
    have x := lowI_b hd ((((m1.mono (b := 211) (by omega)).add (m2.mono (by omega))).mono (b := 212) (by omega)).sub (s.mono (by omega))) m3
    exact ⟨x.1.mono (by omega), x.2.mono (by omega)⟩
theorem ratio_b2 {ps : List Pt} {room : Int} (hi : InF ps room) : ∀ r, ratioI ps room = some r → Bn 230 r.1 ∧ Bn 230 r.2 := fun r e => by
  unfold ratioI at e
  split at e
  · cases e
    exact ⟨Bn.zero, Bn.one (by decide)⟩
  · exact least_b2 hi.i.ok hi.i.b hi.i.lt hi.r r e
  · cases e2 : leastR (ps.map mir) (-room) with
    | none => rw [e2] at e; cases e
    | some q =>
      rw [e2] at e
      cases e
      have := least_b2 (ps := ps.map mir) (fun p hp => by
        obtain ⟨q, hq, rfl⟩ := List.mem_map.mp hp
        exact mir_ok (hi.i.ok q hq)) (fun p hp => by
        obtain ⟨q, hq, rfl⟩ := List.mem_map.mp hp
        exact mir_b (hi.i.b q hq)) (by rw [List.length_map]; exact hi.i.lt) hi.r.neg q e2
      exact ⟨this.1.neg, this.2⟩
/-- smaller numbers -/
structure PS (p : Pt) : Prop where
  b : Bn 90 p.b
  w : Bn 90 p.w
  lo : ∀ l, p.lo = some l → Bn 90 l
  hi : ∀ l, p.hi = some l → Bn 90 l
structure InH (ps : List Pt) (room : Int) : Prop where
  p : ∀ p ∈ ps, PS p
  f : Fl ps
  r : Bn 90 room
  l : ps.length ≤ 200
theorem PS.pb {p : Pt} (h : PS p) : PB p := ⟨h.b.mono (by decide), h.w.mono (by decide), fun l e => (h.lo l e).mono (by decide), fun l e => (h.hi l e).mono (by decide)⟩
theorem InH.g {ps : List Pt} {room : Int} (h : InH ps room) : InG ps room := ⟨⟨fun p hp => (h.p p hp).pb, fun p hp => (h.f p hp).1, by have := h.l; omega⟩, h.f, h.r.mono (by decide), h.l⟩
theorem inF_of' {ps : List Pt} {room : Int} (hb : ∀ p ∈ ps, PB p) (hf : Fl ps) (hr : Bn 110 room) (hl : ps.length ≤ 200) : InF ps room := ⟨⟨hb, fun p hp => (hf p hp).1, by omega⟩, hf, hr⟩
theorem shO_b {o : Option Int} {n : Int} (h : ∀ l, o = some l → Bn 90 l) (hn : Bn 90 n) : ∀ l, shO o n = some l → Bn 100 l := fun l e => by
  cases o with
  | none => cases e
  | some x =>
    have e : x + n = l := Option.some.inj e
    rw [← e]
    exact ((h x rfl).add hn).mono (by decide)
theorem sh_b {p : Pt} {n : Int} (h : PS p) (hn : Bn 90 n) : PB (shP p n) := ⟨(h.b.add hn).mono (by decide), h.w.mono (by decide), shO_b h.lo hn, shO_b h.hi hn⟩
theorem sl_b {p : Pt} {n : Int} (h : PS p) (hn : Bn 6 n) : PB (slP n p) := ⟨((h.b.mono (by decide : 90 ≤ 96)).add (hn.mul h.w)).mono (by decide), h.w.mono (by decide), fun l e => (h.lo l e).mono (by decide), fun l e => (h.hi l e).mono (by decide)⟩
theorem hv_b {p : Pt} {v : Int} (h : PS p) (hv : Bn 6 v) : PB (hvP v p) := ⟨h.b.mono (by decide), (h.w.mul hv).mono (by decide), fun l e => (h.lo l e).mono (by decide), fun l e => (h.hi l e).mono (by decide)⟩
/-- is_share is true of what is right -/
theorem true_ev {Ξ : Xi} {r1 r2 r3 r4 : PTE} {ε : PEnv} {ps : List Pt} {room : Int} {L : List Int} {r : Option (Int × Int)} (h1 : Ev r1 ε (ptsD ps)) (h2 : Ev r2 ε (.int room)) (h3 : Ev r3 ε (intsD L)) (h4 : Ev r4 ε (ratD r)) (hi : InF ps room) (hl : ps.length ≤ 200) (hr : Right ps room r) (e : lawShare ps room = L) :
    Ev (yCall φ_law_is_yes Ξ (ylCons (yCall φ_is_share Ξ (ylCons r1 (ylCons r2 (ylCons r3 (ylCons r4 ylNil))))) (ylCons (yC (.bl true)) ylNil))) ε (.bl true) := by
  subst e
  exact yes2_ev (share_ev h1 h2 h3 h4 hi hl (rat_ok hr.p) (sz_ints (by rw [share_len hi.f]; exact hi.i.n)) (right_sz hi.f hr.y.symm)) Ev.c rfl
theorem mov_D {ps : List Pt} {a : Nat} (h : a < ps.length) {n : Int} : (ps.map ptD).take a ++ [ptD (shP ps[a] n)] ++ (ps.map ptD).drop (a + 1) = (movP ps a n).map ptD := by
  rw [mov_map h, List.append_assoc]
  rfl
def r_moved_turn (Ξ : Xi) : PTS :=
  (ysSeq (ysAsgG (yIx (yVar 1) (yVar 7)) (gTupY 4 [(gN 8), (gN 9), (gN 10), (gN 11)]))
  (ysSeq (ysAsg (yTup (ylCons (yBin oAdd (yVar 8) (yVar 6)) (ylCons (yVar 9) (ylCons (yBin oAdd (yVar 10) (yVar 6)) (ylCons (yC .non) ylNil))))) 12)
  (ysSeq (ysIf (yBinT (oIsN true) (yVar 11) (yC .non))
  (ysAsg (yTup (ylCons (yBin oAdd (yVar 8) (yVar 6)) (ylCons (yVar 9) (ylCons (yBin oAdd (yVar 10) (yVar 6)) (ylCons (yBin oAdd (yVar 11) (yVar 6)) ylNil))))) 12)
  ysNext)
  (ysSeq (ysAsg (yNew (ynLc (yiRg1 (ylCons (yCB oLen (ylCons (yVar 1) ylNil)) ylNil)) (gN 19) yYes (yBin oAdd (yIx (yVar 4) (yVar 19)) (yIx (yNew (ynLst (ylCons (yC (.int 0)) (ylCons (yVar 6) ylNil)))) (yCB oInt (ylCons (yBin (oEq false) (yVar 19) (yVar 7)) ylNil)))) [19])) 13)
  (ysIf (yNot (yTru (yCall φ_law_is_yes Ξ (ylCons (yCall φ_is_share Ξ (ylCons (yBin oAdd (yBin oAdd (yNew (ynSl (yVar 1) yoNone (yoSome (yVar 7)))) (yNew (ynLst (ylCons (yVar 12) ylNil)))) (yNew (ynSl (yVar 1) (yoSome (yBin oAdd (yVar 7) (yC (.int 1)))) yoNone))) (ylCons (yBin oAdd (yVar 2) (yVar 6)) (ylCons (yVar 13) (ylCons (yVar 5) ylNil))))) (ylCons (yC (.bl true)) ylNil)))))
  (ysRet (yC (.bl false)))
  ysNext)))))
theorem moved_turn {E' : Nat → Prop} {Δ : PEnds} {ps : List Pt} {room n : Int} {r : Option (Int × Int)} {a : Nat} {to tv sl hv tp lw : Option S} {b w lo hi on du : Option S} (ih : InH ps room) (hn : Bn 6 n) (rr : Right ps room r) (ha : a < ps.length)
    (k : ∀ b w lo hi on du : D, Δ.nx [some (.v .pool), some (.v (ptsD ps)), some (.v (.int room)), to, some (.v (intsD (lawShare ps room))), some (.v (ratD r)), some (.v (.int n)), some (.v (.int (a : Int))), some (.v b), some (.v w), some (.v lo), some (.v hi), some (.v on), some (.v du), tv, sl, hv, tp, lw, none]) :
    r_moved_turn (fun c _ => E' c) Δ [some (.v .pool), some (.v (ptsD ps)), some (.v (.int room)), to, some (.v (intsD (lawShare ps room))), some (.v (ratD r)), some (.v (.int n)), some (.v (.int (a : Int))), b, w, lo, hi, on, du, tv, sl, hv, tp, lw, none] := by
  let V (x : D) : Option S := some (.v x)
  let L := lawShare ps room
  have ll : L.length = ps.length := share_len ih.f
  let H (b w lo hi on du : Option S) : PEnv := [V .pool, V (ptsD ps), V (.int room), to, V (intsD L), V (ratD r), V (.int n), V (.int (a : Int)), b, w, lo, hi, on, du, tv, sl, hv, tp, lw, none]
  have hp := ih.p ps[a] (List.getElem_mem ha)
  obtain ⟨ok, l, el⟩ := ih.f ps[a] (List.getElem_mem ha)
  have gp : atI (ps.map ptD) (a : Int) = some (ptD ps[a]) := atI_nat (by rw [List.getElem?_map, List.getElem?_eq_getElem ha]; rfl)
  have md := mov_D ha (n := n)
  have il : (ps.map ptD).length = ps.length := List.length_map ..
  obtain ⟨p, ep⟩ : ∃ p, p = ps[a] := ⟨_, rfl⟩
  rw [← ep] at hp el gp md
  let P : PEnv := H (V (.int p.b)) (V (.int p.w)) (V (.int l)) (V (optD p.hi)) on du
  refine seq_step P (fun K k => (ixl_ev (ε := H b w lo hi on du) (Ev.var (i := 1) rfl) (Ev.var (i := 7) rfl) gp) _ (gtup4 (by rw [el]; exact k))) ?_
  have one0 : ptD (shP p n) = .tup [.int (p.b + n), .int p.w, .int (l + n), optD (shO p.hi n)] := by
    show D.tup [_, _, optD (shO p.lo n), _] = _
    rw [el]
    rfl
  refine seq_step (H (V (.int p.b)) (V (.int p.w)) (V (.int l)) (V (optD p.hi)) (V (.tup [.int (p.b + n), .int p.w, .int (l + n), .non])) du) (fun K k => k) ?_
  refine seq_step (H (V (.int p.b)) (V (.int p.w)) (V (.int l)) (V (optD p.hi)) (V (ptD (shP p n))) du) (fun K k => ?_) ?_
  · rw [one0] at k
    cases eh : p.hi with
    | none =>
      rw [eh] at k
      exact if_evT (b := false) (EvT.isN (o := none) (neg := true) (Ev.var (i := 11) rfl)) k
    | some x =>
      rw [eh] at k
      exact if_evT (b := true) (EvT.isN (o := some x) (neg := true) (Ev.var (i := 11) rfl)) k
  have md2 : intsD (movL L a n) = .lst ((rangeD 0 ps.length).map fun d => match d with
      | .int k => .int (L.getD k.toNat 0 + dlt k a n)
      | _ => .non) := by
    show D.lst _ = D.lst _
    congr 1
    refine List.ext_getElem? fun i => ?_
    by_cases hi : i < ps.length
    · have h1 : i < L.length := by omega
      have gr : (rangeD 0 ps.length)[i]? = some (.int (0 + (i : Int))) := by
        have hr : i < (rangeD 0 ps.length).length := by rw [rangeD_len]; exact hi
        rw [List.getElem?_eq_getElem hr]
        have := rangeD_get (List.getElem?_eq_getElem hr)
        rw [this.2]
      rw [List.getElem?_map, List.getElem?_map, gr]
      unfold movL
      rw [List.getElem?_set]
      show _ = some (D.int (L.getD (0 + (i : Int)).toNat 0 + dlt (0 + (i : Int)) a n))
      rw [Int.zero_add, Int.toNat_natCast]
      unfold dlt
      by_cases z : a = i
      · subst z
        rw [if_pos rfl, if_pos h1, if_pos rfl]
        rfl
      · rw [if_neg z, if_neg (by omega), List.getD_eq_getElem?_getD, List.getElem?_eq_getElem h1, Int.add_zero]
        rfl
    · rw [List.getElem?_eq_none (by rw [List.length_map]; unfold movL; rw [List.length_set]; omega), List.getElem?_eq_none (by rw [List.length_map, rangeD_len]; omega)]
  refine seq_step (H (V (.int p.b)) (V (.int p.w)) (V (.int l)) (V (optD p.hi)) (V (ptD (shP p n))) (V (intsD (movL L a n)))) (fun K k => ?_) ?_
  · rw [md2] at k
    refine gd_of (small_by (by omega) (by rw [il]; have := ih.l; omega)) ?_
    have hlen : ((((ps.map ptD).length : Nat) : Int)).toNat = ps.length := by rw [il, Int.toNat_natCast]
    rw [hlen]
    refine ⟨⟨trivial, trivial⟩, by rw [rangeD_len]; have := ih.l; omega, lc_map (fun d => match d with
      | .int k => .int (L.getD k.toNat 0 + dlt k a n)
      | _ => .non) (fun i d hd K N hk => ?_) k⟩
    obtain ⟨hi, rfl⟩ := rangeD_get hd
    have h1 : i < L.length := by omega
    have ek : (L.getD (0 + (i : Int)).toNat 0 : Int) = L[i] := by
      rw [Int.zero_add, Int.toNat_natCast, List.getD_eq_getElem?_getD, List.getElem?_eq_getElem h1]
      rfl
    have gi : atI (L.map D.int) (0 + (i : Int)) = some (.int L[i]) := by rw [Int.zero_add]; exact get_int h1
    replace hk : K (.int (L.getD (0 + (i : Int)).toNat 0 + dlt (0 + (i : Int)) a n)) := hk
    rw [ek] at hk
    generalize (0 + (i : Int)) = z at gi hk
    refine gn_of ?_
    let E2 : PEnv := [V .pool, V (ptsD ps), V (.int room), to, V (intsD L), V (ratD r), V (.int n), V (.int (a : Int)), V (.int p.b), V (.int p.w), V (.int l), V (optD p.hi), V (ptD (shP p n)), du, tv, sl, hv, tp, lw, V (.int z)]
    refine (?_ : yYes E2 _)
    exact yes_ev (d := .int (L[i] + dlt z a n)) (Ev.addI (ixl_ev (xs := L.map D.int) (j := z) (Ev.var (i := 4) rfl) (Ev.var (i := 19) rfl) gi) (dlt_ev (i := 6) rfl (Ev.var (i := 19) rfl) (Ev.var (i := 7) rfl))) ⟨rfl, hk⟩
  let ε := H (V (.int p.b)) (V (.int p.w)) (V (.int l)) (V (optD p.hi)) (V (ptD (shP p n))) (V (intsD (movL L a n)))
  have c1 : Ev (yNew (ynSl (yVar 1) yoNone (yoSome (yVar 7)))) ε (.lst ((ps.map ptD).take a)) := by
    have := sl_ev (ε := ε) (r1 := yVar 1) (xs := ps.map ptD) (lo := none) (hi := some (a : Int)) (o1 := yoNone) (o2 := yoSome (yVar 7)) (Ev.var rfl) on_ev (os_ev (Ev.var rfl))
    rw [cut_to (by omega)] at this
    exact this
  have c2 : Ev (yNew (ynSl (yVar 1) (yoSome (yBin oAdd (yVar 7) (yC (.int 1)))) yoNone)) ε (.lst ((ps.map ptD).drop (a + 1))) := by
    have := sl_ev (ε := ε) (r1 := yVar 1) (xs := ps.map ptD) (lo := some ((a : Int) + 1)) (hi := none) (o1 := yoSome (yBin oAdd (yVar 7) (yC (.int 1)))) (o2 := yoNone) (Ev.var rfl) (os_ev (Ev.addI (Ev.var rfl) Ev.c)) on_ev
    rw [cut_from (by omega)] at this
    exact this
  have l1 : ((ps.map ptD).take a).length + 1 ≤ 16777216 := by rw [List.length_take]; have := ih.l; omega
  have l2 : ((ps.map ptD).take a ++ [ptD (shP p n)]).length + ((ps.map ptD).drop (a + 1)).length ≤ 16777216 := by rw [List.length_append, List.length_take, List.length_drop]; have := ih.l; show _ + 1 + _ ≤ _; omega
  have c3 := Ev.add (Ev.add c1 (lst1_ev (Ev.var (i := 12) (ε := ε) (d := ptD (shP p n)) rfl)) l1) c2 l2
  rw [md] at c3
  have hn9 : Bn 90 n := hn.mono (by decide)
  have pb2 : ∀ q ∈ movP ps a n, PB q := mov_all ha (fun q hq => (ih.p q hq).pb) fun q hq => sh_b (ih.p q hq) hn9
  have fl2 : Fl (movP ps a n) := mov_all ha ih.f fun q hq => full_sh (ih.f q hq) n
  have len2 : (movP ps a n).length ≤ 200 := by
    have := congrArg List.length (mov_map ha (n := n) id)
    rw [List.length_map] at this
    rw [this, List.length_append, List.length_take, List.length_cons, List.length_drop, List.length_map]
    have := ih.l
    omega
  have hf2 : InF (movP ps a n) (room + n) := inF_of' pb2 fl2 (((ih.r.add hn9).mono (by decide))) len2
  exact ifn (true_ev (ε := ε) (ps := movP ps a n) (room := room + n) (L := movL L a n) (r := r) c3 (Ev.addI (Ev.var (i := 2) rfl) (Ev.var (i := 6) rfl)) (Ev.var (i := 13) rfl) (Ev.var (i := 5) rfl) hf2 len2 ⟨right_mov ih.f ha rr.y, rr.p⟩ (share_mov ih.f ha rr.y)) (k _ _ _ _ _ _)

end PL.K57

set_option Elab.async false
set_option linter.all false
set_option autoImplicit false
set_option maxRecDepth 100000
set_option maxHeartbeats 1000000
namespace PL.K57
open PySem PySem.Spec PyProof.Rows L2
local macro_rules | `(tactic| walk_at "y") => `(tactic| conv => whnf)
def φ_law_moved : Spec := fun ds Q _ => ∃ ps room, ds = [.pool, ptsD ps, .int room] ∧ InH ps room ∧ Q (.bl true)
theorem tup4E {r1 r2 r3 r4 : PTE} {ε : PEnv} {a b c d : D} (h1 : Ev r1 ε a) (h2 : Ev r2 ε b) (h3 : Ev r3 ε c) (h4 : Ev r4 ε d) : Ev (yTup (ylCons r1 (ylCons r2 (ylCons r3 (ylCons r4 ylNil))))) ε (.tup [a, b, c, d]) := fun Q q => h1 _ (h2 _ (h3 _ (h4 _ q)))
theorem lof_ev {r : PTE} {ε : PEnv} {xs : List D} (h : Ev r ε (.lst xs)) : Ev (yNew (ynCB oListOf (ylCons r ylNil))) ε (.lst xs) := fun Q q => h _ q
abbrev N_law_moved : List Str := ["pool", "parts", "room", "told", "sizes", "ratio", "n", "at", "base", "weight", "lo", "hi", "one", "due", "times_v", "slid", "heavy", "top", "low", "k"]
def r_law_moved (Ξ : Xi) : PTS :=
  (ysSeq (ysAsg (yCall φ_shares Ξ (ylCons (yNew (ynCB oListOf (ylCons (yVar 1) ylNil))) (ylCons (yVar 2) ylNil))) 3)
  (ysSeq (ysAsgG (yTup (ylCons (yIx (yVar 3) (yC (.int 0))) (ylCons (yIx (yVar 3) (yC (.int 1))) (ylCons (yBin oSub (yCall φ_law_pick Ξ (ylCons (yVar 0) (ylCons (yC (.int 60)) ylNil))) (yC (.int 25))) ylNil)))) (gTupY 3 [(gN 4), (gN 5), (gN 6)]))
  (ysSeq (ysIf (yNot (yTru (yCall φ_law_is_yes Ξ (ylCons (yCall φ_is_share Ξ (ylCons (yNew (ynCB oListOf (ylCons (yVar 1) ylNil))) (ylCons (yVar 2) (ylCons (yVar 4) (ylCons (yVar 5) ylNil))))) (ylCons (yC (.bl true)) ylNil)))))
  (ysRet (yC (.bl false)))
  ysNext)
  (ysSeq (ysFor (yiRg1 (ylCons (yCB oLen (ylCons (yVar 1) ylNil)) ylNil)) (gN 7)
  (ysSeq (ysAsgG (yIx (yVar 1) (yVar 7)) (gTupY 4 [(gN 8), (gN 9), (gN 10), (gN 11)]))
  (ysSeq (ysAsg (yTup (ylCons (yBin oAdd (yVar 8) (yVar 6)) (ylCons (yVar 9) (ylCons (yBin oAdd (yVar 10) (yVar 6)) (ylCons (yC .non) ylNil))))) 12)
  (ysSeq (ysIf (yBinT (oIsN true) (yVar 11) (yC .non))
  (ysAsg (yTup (ylCons (yBin oAdd (yVar 8) (yVar 6)) (ylCons (yVar 9) (ylCons (yBin oAdd (yVar 10) (yVar 6)) (ylCons (yBin oAdd (yVar 11) (yVar 6)) ylNil))))) 12)
  ysNext)
  (ysSeq (ysAsg (yNew (ynLc (yiRg1 (ylCons (yCB oLen (ylCons (yVar 1) ylNil)) ylNil)) (gN 19) yYes (yBin oAdd (yIx (yVar 4) (yVar 19)) (yIx (yNew (ynLst (ylCons (yC (.int 0)) (ylCons (yVar 6) ylNil)))) (yCB oInt (ylCons (yBin (oEq false) (yVar 19) (yVar 7)) ylNil)))) [19])) 13)
  (ysIf (yNot (yTru (yCall φ_law_is_yes Ξ (ylCons (yCall φ_is_share Ξ (ylCons (yBin oAdd (yBin oAdd (yNew (ynSl (yVar 1) yoNone (yoSome (yVar 7)))) (yNew (ynLst (ylCons (yVar 12) ylNil)))) (yNew (ynSl (yVar 1) (yoSome (yBin oAdd (yVar 7) (yC (.int 1)))) yoNone))) (ylCons (yBin oAdd (yVar 2) (yVar 6)) (ylCons (yVar 13) (ylCons (yVar 5) ylNil))))) (ylCons (yC (.bl true)) ylNil)))))
  (ysRet (yC (.bl false)))
  ysNext))))))
  (ysSeq (ysAsg (yBin oAdd (yC (.int 2)) (yCall φ_law_pick Ξ (ylCons (yVar 0) (ylCons (yC (.int 7)) ylNil)))) 14)
  (ysSeq (ysAsg (yNew (ynLc (yiSeq (yVar 1)) (gTupY 4 [(gN 8), (gN 9), (gN 10), (gN 11)]) yYes (yTup (ylCons (yBin oAdd (yVar 8) (yBin oMulW (yVar 6) (yVar 9))) (ylCons (yVar 9) (ylCons (yVar 10) (ylCons (yVar 11) ylNil))))) [8, 9, 10, 11])) 15)
  (ysSeq (ysAsg (yNew (ynLc (yiSeq (yVar 1)) (gTupY 4 [(gN 8), (gN 9), (gN 10), (gN 11)]) yYes (yTup (ylCons (yVar 8) (ylCons (yBin oMulW (yVar 9) (yVar 14)) (ylCons (yVar 10) (ylCons (yVar 11) ylNil))))) [8, 9, 10, 11])) 16)
  (ysSeq (ysIf (yBinT (oIsN false) (yVar 5) (yC .non))
  (ysRet (yAndV (yCall φ_law_is_yes Ξ (ylCons (yCall φ_is_share Ξ (ylCons (yVar 15) (ylCons (yVar 2) (ylCons (yVar 4) (ylCons (yC .non) ylNil))))) (ylCons (yC (.bl true)) ylNil))) (yCall φ_law_is_yes Ξ (ylCons (yCall φ_is_share Ξ (ylCons (yVar 16) (ylCons (yVar 2) (ylCons (yVar 4) (ylCons (yC .non) ylNil))))) (ylCons (yC (.bl true)) ylNil)))))
  ysNext)
  (ysSeq (ysAsgG (yVar 5) (gTupY 2 [(gN 17), (gN 18)]))
  (ysSeq (ysIf (yNot (yTru (yCall φ_law_is_yes Ξ (ylCons (yCall φ_is_share Ξ (ylCons (yVar 15) (ylCons (yVar 2) (ylCons (yVar 4) (ylCons (yTup (ylCons (yBin oSub (yVar 17) (yBin oMulW (yVar 6) (yVar 18))) (ylCons (yVar 18) ylNil))) ylNil))))) (ylCons (yC (.bl true)) ylNil)))))
  (ysRet (yC (.bl false)))
  ysNext)
  (ysRet (yCall φ_law_is_yes Ξ (ylCons (yCall φ_is_share Ξ (ylCons (yVar 16) (ylCons (yVar 2) (ylCons (yVar 4) (ylCons (yCall φ_law_lowest Ξ (ylCons (yVar 17) (ylCons (yBin oMulW (yVar 18) (yVar 14)) ylNil))) ylNil))))) (ylCons (yC (.bl true)) ylNil))))))))))))))
theorem vc_law_moved (ds : List D) (Q' : D → Prop) (E' : Nat → Prop) (h : φ_law_moved ds Q' E') : r_law_moved (fun c _ => E' c) { nx := fun _ => Q' .non, rt := fun d _ => Q' d } (startE N_law_moved ds) := by
  obtain ⟨ps, room, rfl, ih, h⟩ := h
  have hg := ih.g
  have hi := hg.f'
  let V (x : D) : Option S := some (.v x)
  let L := lawShare ps room
  let X : Option S := none
  have hl : (ps.map ptD).length ≤ 16777216 := by rw [List.length_map]; have := ih.l; omega
  have rt := right_told hi
  have rb := ratio_b2 hi
  have es : sharesD ps room = .tup [intsD L, ratD (ratioI ps room)] := by
    show D.tup [.lst (sizesD ps room (ratioI ps room)), _] = _
    rw [share_same hg.f]
    rfl
  generalize ratioI ps room = r at rt rb es
  let T : Option S := V (.tup [intsD L, ratD r])
  let e0 (to si ra n : Option S) : PEnv := [V .pool, V (ptsD ps), V (.int room), to, si, ra, n, X, X, X, X, X, X, X, X, X, X, X, X, X]
  refine seq_step (e0 T X X X) (fun K k => ?_) ?_
  · refine ⟨regP_pts ps, rfl, (fun z => absurd ((ok_pts (room := room) hg.f hg.l).symm.trans z) (by decide)), fun _ => ⟨ps, room, rfl, rfl, hg.i, hg.f, hi.r, ?_⟩⟩
    rw [es]
    exact k
  refine seq_post (fun ε => ∃ n : Int, Bn 6 n ∧ ε = e0 T (V (intsD L)) (V (ratD r)) (V (.int n))) (fun K kk => fun i i0 i1 => kk _ ⟨i - 25, ?_, rfl⟩) ?_
  · show (i - 25).natAbs < 64
    omega
  rintro _ ⟨n, hn, rfl⟩
  have c1 : ∀ {ε : PEnv}, ε[1]? = some (some (.v (ptsD ps))) → Ev (yNew (ynCB oListOf (ylCons (yVar 1) ylNil))) ε (ptsD ps) := fun {ε} z => lof_ev (Ev.var z)
  refine seq_step (e0 T (V (intsD L)) (V (ratD r)) (V (.int n))) (fun K k => ifn (true_ev (c1 rfl) (Ev.var (i := 2) rfl) (Ev.var (i := 4) rfl) (Ev.var (i := 5) rfl) hi ih.l rt rfl) k) ?_
  let e (a b w lo hi on du tv sl hv tp lw : Option S) : PEnv := [V .pool, V (ptsD ps), V (.int room), T, V (intsD L), V (ratD r), V (.int n), a, b, w, lo, hi, on, du, tv, sl, hv, tp, lw, none]
  refine seq_post (fun ε => ∃ (a : Option S) (b w lo hi : Option D) (on du : Option S), ε = e a (b.map S.v) (w.map S.v) (lo.map S.v) (hi.map S.v) on du X X X X X) (fun K kk => ?_) ?_
  · refine gd_of (small_by (by omega) (by rw [List.length_map]; have := ih.l; omega)) ?_
    have hlen : ((((ps.map ptD).length : Nat) : Int)).toNat = ps.length := by rw [List.length_map, Int.toNat_natCast]
    rw [hlen]
    refine ⟨fun i ε => ∃ (a : Option S) (b w lo hi : Option D) (on du : Option S), ε = e a (b.map S.v) (w.map S.v) (lo.map S.v) (hi.map S.v) on du X X X X X, ⟨X, none, none, none, none, X, X, rfl⟩, fun i d ε hj hd w => ?_, fun ε w => kk ε w⟩
    obtain ⟨a, b, w, lo, hi2, on, du, rfl⟩ := w
    obtain ⟨hi3, ed⟩ := rangeD_get hd
    rw [Int.zero_add] at ed
    rw [ed]
    refine gn_of ?_
    exact moved_turn (a := i) ih hn rt hi3 fun b w lo hi on du => ⟨_, some b, some w, some lo, some hi, _, _, rfl⟩
  rintro _ ⟨a, b, w, lo, hi2, on, du, rfl⟩
  let F (tv sl hv tp lw : Option S) : PEnv := e a (b.map S.v) (w.map S.v) (lo.map S.v) (hi2.map S.v) on du tv sl hv tp lw
  refine seq_post (fun ε => ∃ v : Int, (0 < v ∧ Bn 4 v) ∧ ε = F (V (.int v)) X X X X) (fun K kk => fun i i0 i1 => kk _ ⟨2 + i, ⟨by omega, ?_⟩, rfl⟩) ?_
  · show (2 + i).natAbs < 16
    omega
  rintro _ ⟨v, ⟨v0, hv⟩, rfl⟩
  have hfree : ∀ {tv sl hv : Option S}, freeE (F tv sl hv X X) [8, 9, 10, 11] := fun {tv sl hv} => by
    cases b <;> cases w <;> cases lo <;> cases hi2 <;> exact ⟨trivial, trivial, trivial, trivial, trivial⟩
  refine seq_step (F (V (.int v)) (V (ptsD (ps.map (slP n)))) X X X) (fun K k => ?_) ?_
  · refine ⟨hfree, hl, lc_list (S := ps) (m := ptD) (f := fun p => ptD (slP n p)) (fun p hp K N k => ?_) ?_⟩
    · refine gtup4 ?_
      let E2 : PEnv := [V .pool, V (ptsD ps), V (.int room), T, V (intsD L), V (ratD r), V (.int n), a, V (.int p.b), V (.int p.w), V (optD p.lo), V (optD p.hi), on, du, V (.int v), X, X, X, X, none]
      refine (?_ : yYes E2 _)
      exact yes_ev (d := ptD (slP n p)) (tup4E (Ev.addI (Ev.var (i := 8) rfl) (Ev.mulW (Ev.var (i := 6) rfl) (Ev.var (i := 9) rfl) (wide_of hn (ih.p p hp).w))) (Ev.var (i := 9) rfl) (Ev.var (i := 10) rfl) (Ev.var (i := 11) rfl)) ⟨rfl, k⟩
    · have em : (ps.map fun p => ptD (slP n p)) = (ps.map (slP n)).map ptD := by rw [List.map_map]; rfl
      rw [em]
      exact k
  refine seq_step (F (V (.int v)) (V (ptsD (ps.map (slP n)))) (V (ptsD (ps.map (hvP v)))) X X) (fun K k => ?_) ?_
  · refine ⟨hfree, hl, lc_list (S := ps) (m := ptD) (f := fun p => ptD (hvP v p)) (fun p hp K N k => ?_) ?_⟩
    · refine gtup4 ?_
      let E2 : PEnv := [V .pool, V (ptsD ps), V (.int room), T, V (intsD L), V (ratD r), V (.int n), a, V (.int p.b), V (.int p.w), V (optD p.lo), V (optD p.hi), on, du, V (.int v), V (ptsD (ps.map (slP n))), X, X, X, none]
      refine (?_ : yYes E2 _)
      exact yes_ev (d := ptD (hvP v p)) (tup4E (Ev.var (i := 8) rfl) (Ev.mulW (Ev.var (i := 9) rfl) (Ev.var (i := 14) rfl) (wide_of (ih.p p hp).w hv)) (Ev.var (i := 10) rfl) (Ev.var (i := 11) rfl)) ⟨rfl, k⟩
    · have em : (ps.map fun p => ptD (hvP v p)) = (ps.map (hvP v)).map ptD := by rw [List.map_map]; rfl
      rw [em]
      exact k
  have sF : InF (ps.map (slP n)) room := inF_of' (fun p hp => by
    obtain ⟨q, hq, rfl⟩ := List.mem_map.mp hp
    exact sl_b (ih.p q hq) hn) (fun p hp => by
    obtain ⟨q, hq, rfl⟩ := List.mem_map.mp hp
    exact full_sl (ih.f q hq) n) hi.r (by rw [List.length_map]; exact ih.l)
  have sL : (ps.map (slP n)).length ≤ 200 := by rw [List.length_map]; exact ih.l
  have vF : InF (ps.map (hvP v)) room := inF_of' (fun p hp => by
    obtain ⟨q, hq, rfl⟩ := List.mem_map.mp hp
    exact hv_b (ih.p q hq) (hv.mono (by decide))) (fun p hp => by
    obtain ⟨q, hq, rfl⟩ := List.mem_map.mp hp
    exact full_hv (ih.f q hq) v0) hi.r (by rw [List.length_map]; exact ih.l)
  have vL : (ps.map (hvP v)).length ≤ 200 := by rw [List.length_map]; exact ih.l
  let E (tp lw : Option S) : PEnv := F (V (.int v)) (V (ptsD (ps.map (slP n)))) (V (ptsD (ps.map (hvP v)))) tp lw
  cases r with
  | none =>
    have e0 : ratioI ps room = none := Option.isNone_iff_eq_none.mp rt.y
    have n1 := none_same (qs := ps.map (slP n)) hi.f sF.f (by rw [List.map_map]; exact List.map_congr_left fun p hp => (ends_sl (ih.f p hp).1 n).1) (by rw [List.map_map]; exact List.map_congr_left fun p hp => (ends_sl (ih.f p hp).1 n).2) e0
    have n2 := none_same (qs := ps.map (hvP v)) hi.f vF.f (by rw [List.map_map]; exact List.map_congr_left fun p hp => (ends_hv v0 (ih.f p hp).1).1) (by rw [List.map_map]; exact List.map_congr_left fun p hp => (ends_hv v0 (ih.f p hp).1).2) e0
    refine seq_in (if_evT (ε := E X X) (b := true) (EvT.isP (o := none) (neg := false) (Ev.var (i := 5) rfl)) ?_)
    have r1 : Right (ps.map (slP n)) room none := ⟨by show (ratioI _ _).isNone = true; rw [n1.1]; rfl, fun k z => by cases z⟩
    have r2 : Right (ps.map (hvP v)) room none := ⟨by show (ratioI _ _).isNone = true; rw [n2.1]; rfl, fun k z => by cases z⟩
    exact ret_ev (ε := E X X) (Ev.andB (true_ev (r := none) (Ev.var (i := 15) rfl) (Ev.var (i := 2) rfl) (Ev.var (i := 4) rfl) Ev.c sF sL r1 n1.2) (true_ev (r := none) (Ev.var (i := 16) rfl) (Ev.var (i := 2) rfl) (Ev.var (i := 4) rfl) Ev.c vF vL r2 n2.2)) h
  | some k =>
    obtain ⟨b1, b2⟩ := rb k rfl
    obtain ⟨y1, z1⟩ := right_sl (n := n) hi.f rt.y
    obtain ⟨y2, z2⟩ := right_hv v0 hi.f rt.y
    have kp := rt.p k rfl
    refine seq_step (E X X) (fun K k2 => if_evT (b := false) (EvT.isP (o := some k) (neg := false) (Ev.var (i := 5) rfl)) k2) ?_
    refine seq_step (E (V (.int k.1)) (V (.int k.2))) (fun K kk => gtup2 (d1 := .int k.1) (d2 := .int k.2) kk) ?_
    let ε := E (V (.int k.1)) (V (.int k.2))
    have r1 : Right (ps.map (slP n)) room (some (slR n k)) := ⟨y1, fun q z => by
      cases z
      exact ⟨kp.low, gcd_sl kp.gcd, ((b1.mono (by decide : 230 ≤ 236)).sub (hn.mul b2)).mono (by decide), b2.mono (by decide)⟩⟩
    have kv : Bn 234 (k.2 * v) := b2.mul hv
    have r2 : Right (ps.map (hvP v)) room (some (lowI k.1 (k.2 * v))) := ⟨y2, fun q z => by
      cases z
      exact rt_low (Int.mul_pos kp.low v0) kp.b1 (kv.mono (by decide))⟩
    have t1 : Ev (yTup (ylCons (yBin oSub (yVar 17) (yBin oMulW (yVar 6) (yVar 18))) (ylCons (yVar 18) ylNil))) ε (ratD (some (slR n k))) := tup2_ev (Ev.subI (Ev.var (i := 17) rfl) (Ev.mulW (Ev.var (i := 6) rfl) (Ev.var (i := 18) rfl) (wide_of hn b2))) (Ev.var (i := 18) rfl)
    refine seq_step ε (fun K k2 => ifn (true_ev (r := some (slR n k)) (Ev.var (i := 15) rfl) (Ev.var (i := 2) rfl) (Ev.var (i := 4) rfl) t1 sF sL r1 z1) k2) ?_
    have t2 : Ev (yCall φ_law_lowest (fun c _ => E' c) (ylCons (yVar 17) (ylCons (yBin oMulW (yVar 18) (yVar 14)) ylNil))) ε (ratD (some (lowI k.1 (k.2 * v)))) := call_ev2 (Ev.var (i := 17) rfl) (Ev.mulW (Ev.var (i := 18) rfl) (Ev.var (i := 14) rfl) (wide_of b2 hv)) fun K E k3 => ⟨_, _, rfl, Int.mul_pos kp.low v0, kv.mono (by decide), k3⟩
    exact ret_ev (ε := ε) (true_ev (r := some (lowI k.1 (k.2 * v))) (Ev.var (i := 16) rfl) (Ev.var (i := 2) rfl) (Ev.var (i := 4) rfl) t2 vF vL r2 z2) h

end PL.K57

set_option Elab.async false
set_option linter.all false
set_option autoImplicit false
set_option maxRecDepth 100000
set_option maxHeartbeats 1000000
namespace PL.K57
open PySem PySem.Spec PyProof.Rows L2
local macro_rules | `(tactic| walk_at "y") => `(tactic| conv => whnf)
/-! ### _law_still -/
theorem v_top {p : Pt} {t : Rat} {l h : Int} (el : p.lo = some l) (eh : p.hi = some h) (le : l ≤ h) (ha : (h : Rat) ≤ at_ p t) : vQ p t = (h : Rat) := by
  have le' : (l : Rat) ≤ (h : Rat) := Rat.intCast_le_intCast.mpr le
  unfold vQ cutQ
  rw [el, eh]
  dsimp only
  by_cases z : (h : Rat) < at_ p t
  · rw [if_pos z, if_neg (Rat.not_lt.mpr le')]
  · have e : at_ p t = (h : Rat) := by
      have := Rat.not_lt.mp z
      grind
    rw [if_neg z, e, if_neg (Rat.not_lt.mpr le')]
theorem v_bot {p : Pt} {t : Rat} {l : Int} (el : p.lo = some l) (hh : ∀ h, p.hi = some h → l ≤ h) (ha : at_ p t ≤ (l : Rat)) : vQ p t = (l : Rat) := by
  unfold vQ cutQ
  rw [el]
  cases eh : p.hi with
  | none =>
    dsimp only
    by_cases z : at_ p t < (l : Rat)
    · rw [if_pos z]
    · have e : at_ p t = (l : Rat) := by
        have := Rat.not_lt.mp z
        grind
      rw [if_neg z, e]
  | some h =>
    have le' : (l : Rat) ≤ (h : Rat) := Rat.intCast_le_intCast.mpr (hh h eh)
    dsimp only
    rw [if_neg (Rat.not_lt.mpr (Rat.le_trans ha le'))]
    by_cases z : at_ p t < (l : Rat)
    · rw [if_pos z]
    · have e : at_ p t = (l : Rat) := by
        have := Rat.not_lt.mp z
        grind
      rw [if_neg z, e]
/-- quite small numbers -/
structure PT (p : Pt) : Prop where
  b : Bn 20 p.b
  w : Bn 20 p.w
  lo : ∀ l, p.lo = some l → Bn 20 l
  hi : ∀ l, p.hi = some l → Bn 20 l
theorem PT.ps {p : Pt} (h : PT p) : PS p := ⟨h.b.mono (by decide), h.w.mono (by decide), fun l e => (h.lo l e).mono (by decide), fun l e => (h.hi l e).mono (by decide)⟩
/-- it stands still from a to z -/
structure StP (a z : Int) (p : Pt) : Prop where
  s : PT p
  f : Full p
  v : ∀ t : Rat, (a : Rat) ≤ t → t ≤ (z : Rat) → vQ p t = vQ p (a : Rat)
theorem st_A {a z w h x : Int} (hw : 0 < w) (hx : 0 ≤ x) (az : a ≤ z) (s : PT ⟨h - w * a, w, some (h - x), some h⟩) : StP a z ⟨h - w * a, w, some (h - x), some h⟩ := by
  refine ⟨s, ⟨⟨by show 0 ≤ w; omega, fun _ _ e1 e2 => by cases e1; cases e2; omega⟩, _, rfl⟩, fun t h1 h2 => ?_⟩
  have key : ∀ t : Rat, (a : Rat) ≤ t → vQ ⟨h - w * a, w, some (h - x), some h⟩ t = (h : Rat) := fun t h1 => by
    refine v_top rfl rfl (by omega) ?_
    show (h : Rat) ≤ ((h - w * a : Int) : Rat) + (w : Rat) * t
    rw [Rat.intCast_sub, Rat.intCast_mul]
    have p := pos_q hw
    have := (mul_le_q p).mpr h1
    grind
  rw [key t h1, key _ Rat.le_refl]
theorem st_B {a z w l : Int} {o : Option Int} (hw : 0 < w) (az : a ≤ z) (ho : ∀ h, o = some h → l ≤ h) (s : PT ⟨l - w * z, w, some l, o⟩) : StP a z ⟨l - w * z, w, some l, o⟩ := by
  refine ⟨s, ⟨⟨by show 0 ≤ w; omega, fun _ h e1 e2 => by cases e1; exact ho h e2⟩, _, rfl⟩, fun t h1 h2 => ?_⟩
  have key : ∀ t : Rat, t ≤ (z : Rat) → vQ ⟨l - w * z, w, some l, o⟩ t = (l : Rat) := fun t h1 => by
    refine v_bot rfl ho ?_
    show ((l - w * z : Int) : Rat) + (w : Rat) * t ≤ (l : Rat)
    rw [Rat.intCast_sub, Rat.intCast_mul]
    have p := pos_q hw
    have := (mul_le_q p).mpr h1
    grind
  rw [key t h2, key _ (Rat.intCast_le_intCast.mpr az)]
theorem st_C {a z w b c : Int} (hw : 0 ≤ w) (s : PT ⟨b, w, some c, some c⟩) : StP a z ⟨b, w, some c, some c⟩ := by
  refine ⟨s, ⟨⟨hw, fun _ _ e1 e2 => by cases e1; cases e2; exact Int.le_refl _⟩, _, rfl⟩, fun t h1 h2 => ?_⟩
  have key : ∀ t : Rat, vQ ⟨b, w, some c, some c⟩ t = (c : Rat) := fun t => by
    rcases (Rat.le_total (a := at_ ⟨b, w, some c, some c⟩ t) (b := (c : Rat))) with y | y
    · exact v_bot rfl (fun h e => by cases e; exact Int.le_refl _) y
    · exact v_top rfl rfl (Int.le_refl _) y
  rw [key, key]
theorem st_D {a z b c : Int} (s : PT ⟨b, 0, some c, none⟩) : StP a z ⟨b, 0, some c, none⟩ := by
  have ok : POk ⟨b, 0, some c, none⟩ := ⟨Int.le_refl _, fun _ _ _ e => by cases e⟩
  refine ⟨s, ⟨ok, _, rfl⟩, fun t h1 h2 => ?_⟩
  rw [v_flat (by show ¬ (0 : Int) < 0; omega) ok, v_flat (by show ¬ (0 : Int) < 0; omega) ok]
theorem S_still {a z : Int} {t : Rat} (h1 : (a : Rat) ≤ t) (h2 : t ≤ (z : Rat)) : ∀ {ps : List Pt}, (∀ p ∈ ps, StP a z p) → SQ ps t = SQ ps (a : Rat)
  | [], _ => rfl
  | p :: ps, h => by
    show vQ p t + SQ ps t = vQ p (a : Rat) + SQ ps (a : Rat)
    rw [(h p List.mem_cons_self).v t h1 h2, S_still h1 h2 fun q hq => h q (List.mem_cons_of_mem _ hq)]
theorem rat_one (a : Int) : rat (a, 1) = (a : Rat) := by
  have := rat_mul (k := (a, 1)) (show (0 : Int) < 1 by decide)
  have e : ((1 : Int) : Rat) = 1 := rfl
  dsimp only at this
  rw [e] at this
  grind
/-- all ratios between the ends are right -/
theorem right_still {ps : List Pt} {a z : Int} {k : Int × Int} (h : ∀ p ∈ ps, StP a z p) (h1 : 0 < k.2) (h2 : Nat.gcd k.1.natAbs k.2.natAbs = 1) (l1 : (a : Rat) ≤ rat k) (l2 : rat k ≤ (z : Rat)) : rightB ps (sumI ps a 1) (ratD (some k)) = true := by
  refine right_of h1 h2 (of_S h1 ?_)
  rw [S_still l1 l2 h, ← rat_one, ← S_of (room := sumI ps a 1) (r := (a, 1)) (show (0 : Int) < 1 by decide) (by show sumI ps a 1 = sumI ps a 1 * 1; omega)]
theorem still_sum {ps : List Pt} {a z : Int} (h : ∀ p ∈ ps, StP a z p) (hl : ps.length < 2 ^ 4) (ha : Bn 10 a) : Bn 90 (sumI ps a 1) := by
  refine Bn.mono (a := 31 + 4) (Bn.sum (fun x hx => ?_) (by rw [List.length_map]; exact hl)) (by decide)
  obtain ⟨p, hp, rfl⟩ := List.mem_map.mp hx
  have s := (h p hp).s
  have b1 : Bn 20 (p.b * 1) := by rw [Int.mul_one]; exact s.b
  have m : ∀ {o : Option Int}, (∀ l, o = some l → Bn 20 l) → ∀ l, mulO o 1 = some l → Bn 31 l := fun {o} ho l e => by
    cases o with
    | none => cases e
    | some y =>
      have e : y * 1 = l := Option.some.inj e
      rw [← e, Int.mul_one]
      exact (ho y rfl).mono (by decide)
  exact cut_b ((b1.mono (by decide : 20 ≤ 30)).add (s.w.mul ha)) (m s.lo) (m s.hi)
theorem cut_fr {α : Type} {xs : List α} {a : Nat} (h : a ≤ xs.length) : cutD xs (some (a : Int)) none = xs.drop a := by
  unfold cutD
  rw [HT.sIx_none, HT.sIx_nat, Nat.min_eq_left h]
  exact List.take_of_length_le (by rw [List.length_drop]; omega)
def φ_law_still : Spec := fun ds Q _ => ds = [.pool] ∧ ∀ (ps : List Pt) (a z : Int), (∀ p ∈ ps, StP a z p) → ps.length ≤ 8 → InH ps (sumI ps a 1) → a ≤ z → (Bn 10 a ∧ Bn 10 z) → Q (.tup [ptsD ps, .int (sumI ps a 1), .int a, .int z])

end PL.K57

set_option Elab.async false
set_option linter.all false
set_option autoImplicit false
set_option maxRecDepth 100000
set_option maxHeartbeats 1000000
namespace PL.K57
open PySem PySem.Spec PyProof.Rows L2
local macro_rules | `(tactic| walk_at "y") => `(tactic| conv => whnf)
abbrev N_law_still : List Str := ["pool", "first", "gap", "many", "parts", "k", "weight", "hi", "lo", "same", "turn"]
def r_law_still (Ξ : Xi) : PTS :=
  (ysSeq (ysPar3 1 2 3 (ylCons (yBin oSub (yCall φ_law_pick Ξ (ylCons (yVar 0) (ylCons (yC (.int 9)) ylNil))) (yC (.int 4))) (ylCons (yCall φ_law_pick Ξ (ylCons (yVar 0) (ylCons (yC (.int 40)) ylNil))) (ylCons (yBin oAdd (yC (.int 1)) (yCall φ_law_pick Ξ (ylCons (yVar 0) (ylCons (yC (.int 3)) ylNil)))) ylNil))))
  (ysSeq (ysAsgO (ynLst ylNil) 4)
  (ysSeq (ysFor (yiRg1 (ylCons (yVar 3) ylNil)) (gN 5)
  (ysSeq (ysPar 6 7 (yxE (yBin oAdd (yC (.int 1)) (yCall φ_law_pick Ξ (ylCons (yVar 0) (ylCons (yC (.int 4)) ylNil))))) (yxE (yCall φ_law_pick Ξ (ylCons (yVar 0) (ylCons (yC (.int 12)) ylNil)))))
  (ysApp 4 (yTup (ylCons (yBin oSub (yVar 7) (yBin oMulA (yVar 6) (yVar 1))) (ylCons (yVar 6) (ylCons (yBin oSub (yVar 7) (yCall φ_law_pick Ξ (ylCons (yVar 0) (ylCons (yC (.int 9)) ylNil)))) (ylCons (yVar 7) ylNil))))))))
  (ysSeq (ysFor (yiRg1 (ylCons (yCall φ_law_pick Ξ (ylCons (yVar 0) (ylCons (yC (.int 3)) ylNil))) ylNil)) (gN 5)
  (ysSeq (ysPar 6 8 (yxE (yBin oAdd (yC (.int 1)) (yCall φ_law_pick Ξ (ylCons (yVar 0) (ylCons (yC (.int 4)) ylNil))))) (yxE (yCall φ_law_pick Ξ (ylCons (yVar 0) (ylCons (yC (.int 12)) ylNil)))))
  (ysApp 4 (yTup (ylCons (yBin oSub (yVar 8) (yBin oMulA (yVar 6) (yBin oAdd (yVar 1) (yVar 2)))) (ylCons (yVar 6) (ylCons (yVar 8) (ylCons (yIx (yNew (ynLst (ylCons (yC .non) (ylCons (yBin oAdd (yVar 8) (yCall φ_law_pick Ξ (ylCons (yVar 0) (ylCons (yC (.int 9)) ylNil)))) ylNil)))) (yCall φ_law_pick Ξ (ylCons (yVar 0) (ylCons (yC (.int 2)) ylNil)))) ylNil))))))))
  (ysSeq (ysIf (yBinT (oEq false) (yCall φ_law_pick Ξ (ylCons (yVar 0) (ylCons (yC (.int 3)) ylNil))) (yC (.int 0)))
  (ysSeq (ysAsg (yCall φ_law_pick Ξ (ylCons (yVar 0) (ylCons (yC (.int 20)) ylNil))) 9)
  (ysApp 4 (yTup (ylCons (yBin oSub (yCall φ_law_pick Ξ (ylCons (yVar 0) (ylCons (yC (.int 30)) ylNil))) (yC (.int 9))) (ylCons (yCall φ_law_pick Ξ (ylCons (yVar 0) (ylCons (yC (.int 3)) ylNil))) (ylCons (yVar 9) (ylCons (yVar 9) ylNil)))))))
  ysNext)
  (ysSeq (ysIf (yBinT (oEq false) (yCall φ_law_pick Ξ (ylCons (yVar 0) (ylCons (yC (.int 2)) ylNil))) (yC (.int 0)))
  (ysApp 4 (yTup (ylCons (yCall φ_law_pick Ξ (ylCons (yVar 0) (ylCons (yC (.int 30)) ylNil))) (ylCons (yC (.int 0)) (ylCons (yCall φ_law_pick Ξ (ylCons (yVar 0) (ylCons (yC (.int 5)) ylNil))) (ylCons (yC .non) ylNil))))))
  ysNext)
  (ysSeq (ysAsg (yBin oMod (yCB oInt (ylCons (yCall φ_law_pick Ξ (ylCons (yVar 0) (ylCons (yC (.int 60)) ylNil))) ylNil)) (yCB oLen (ylCons (yVar 4) ylNil))) 10)
  (ysSeq (ysAsgO (ynAdd (yNew (ynSl (yVar 4) (yoSome (yVar 10)) yoNone)) (yNew (ynSl (yVar 4) yoNone (yoSome (yVar 10))))) 4)
  (ysRet (yTup (ylCons (yVar 4) (ylCons (yCB oSum (ylCons (yCall φ_law_tops Ξ (ylCons (yVar 4) (ylCons (yVar 1) (ylCons (yC (.int 1)) ylNil)))) ylNil)) (ylCons (yVar 1) (ylCons (yBin oAdd (yVar 1) (yVar 2)) ylNil))))))))))))))
theorem vc_law_still (ds : List D) (Q' : D → Prop) (E' : Nat → Prop) (h : φ_law_still ds Q' E') : r_law_still (fun c _ => E' c) { nx := fun _ => Q' .non, rt := fun d _ => Q' d } (startE N_law_still ds) := by
  obtain ⟨rfl, h⟩ := h
  let V (x : D) : Option S := some (.v x)
  let I (i : Int) : Option S := V (.int i)
  let X : Option S := none
  let P (ps : List Pt) : Option S := some (.o (ps.map ptD))
  let e (f g m : Int) (p k w hi lo sa tu : Option S) : PEnv := [V .pool, I f, I g, I m, p, k, w, hi, lo, sa, tu]
  refine seq_post (fun ε => ∃ f g m : Int, ((-4 ≤ f ∧ f ≤ 4) ∧ (0 ≤ g ∧ g < 40) ∧ (1 ≤ m ∧ m ≤ 3)) ∧ ε = e f g m X X X X X X X) (fun K kk => fun i i0 i1 j j0 j1 k k0 k1 => kk _ ⟨i - 4, j, 1 + k, ⟨⟨by omega, by omega⟩, ⟨j0, j1⟩, by omega, by omega⟩, rfl⟩) ?_
  rintro _ ⟨f, g, m, ⟨⟨f0, f1⟩, ⟨g0, g1⟩, m0, m1⟩, rfl⟩
  refine seq_step (e f g m (P []) X X X X X X) (fun K k => k) ?_
  have sm : ∀ {i : Int} {n : Nat}, i.natAbs < 1000000 → 20 ≤ n → Bn n i := fun {i n} h l => by
    refine Bn.mono (a := 20) ?_ l
    show i.natAbs < 1048576
    omega
  let G (n : Nat) (ps : List Pt) : Prop := (∀ p ∈ ps, StP f (f + g) p) ∧ ps.length ≤ n
  -- those that end above
  refine seq_post (fun ε => ∃ ps k w hi, G 3 ps ∧ 1 ≤ ps.length ∧ ε = e f g m (P ps) k w hi X X X) (fun K kk => ?_) ?_
  · refine gd_of (small_by (by omega) (by omega)) ?_
    refine ⟨fun i ε => ∃ ps k w hi, G i ps ∧ ps.length = i ∧ ε = e f g m (P ps) k w hi X X X, ⟨[], X, X, X, ⟨(fun p hp => by cases hp), Nat.le_refl _⟩, rfl, rfl⟩, fun i d ε hj hd w => ?_, fun ε w => ?_⟩
    · obtain ⟨ps, k, w, hi, ⟨hs, hl⟩, hl2, rfl⟩ := w
      obtain ⟨hi3, ed⟩ := rangeD_get hd
      rw [ed]
      generalize (0 + (i : Int)) = z
      refine gn_of ?_
      refine seq_post (fun ε => ∃ w h : Int, ((1 ≤ w ∧ w ≤ 4) ∧ (0 ≤ h ∧ h < 12)) ∧ ε = e f g m (P ps) (I z) (I w) (I h) X X X) (fun K kk => fun i i0 i1 j j0 j1 => kk _ ⟨1 + i, j, ⟨⟨by omega, by omega⟩, j0, j1⟩, rfl⟩) ?_
      rintro _ ⟨w, hh, ⟨⟨w0, w1⟩, h0, h1⟩, rfl⟩
      have gw : (-18446744073709551616 < w ∧ w < 18446744073709551616) ∨ (-18446744073709551616 < f ∧ f < 18446744073709551616) := .inl ⟨by omega, by omega⟩
      refine gd_of gw ?_
      intro x x0 x1
      refine gd_of (show (ps.map ptD).length < 16777216 by rw [List.length_map]; omega) ?_
      have wf : (w * f).natAbs < 100 := by
        rw [Int.natAbs_mul]
        exact Nat.lt_of_le_of_lt (Nat.mul_le_mul (show w.natAbs ≤ 4 by omega) (show f.natAbs ≤ 4 by omega)) (by decide)
      have st : StP f (f + g) ⟨hh - w * f, w, some (hh - x), some hh⟩ := st_A (by omega) x0 (by omega) ⟨sm (by show (hh - w * f).natAbs < _; omega) (by decide), sm (by show w.natAbs < _; omega) (by decide), fun l e => by cases e; exact sm (by omega) (by decide), fun l e => by cases e; exact sm (by omega) (by decide)⟩
      refine ⟨ps ++ [(⟨hh - w * f, w, some (hh - x), some hh⟩ : Pt)], I z, I w, I hh, ⟨all_snoc hs st, by rw [List.length_append]; show ps.length + 1 ≤ _; omega⟩, by rw [List.length_append]; show ps.length + 1 = _; omega, ?_⟩
      show _ = [V .pool, I f, I g, I m, some (.o ((ps ++ [(⟨hh - w * f, w, some (hh - x), some hh⟩ : Pt)]).map ptD)), I z, I w, I hh, X, X, X]
      rw [List.map_append]
      rfl
    · obtain ⟨ps, k, w, hi, ⟨hs, hl⟩, hl2, rfl⟩ := w
      rw [rangeD_len] at hl hl2
      exact kk _ ⟨ps, k, w, hi, ⟨hs, by omega⟩, by omega, rfl⟩
  rintro _ ⟨ps, k, w, hi, ⟨hs, hl⟩, hl1, rfl⟩
  -- those that begin below
  refine seq_post (fun ε => ∃ ps k w lo, G 5 ps ∧ 1 ≤ ps.length ∧ ε = e f g m (P ps) k w hi lo X X) (fun K kk => ?_) ?_
  · intro n n0 n1
    refine gd_of (small_by (by omega) (by omega)) ?_
    refine ⟨fun i ε => ∃ ps k w lo, G (3 + i) ps ∧ 1 ≤ ps.length ∧ ε = e f g m (P ps) k w hi lo X X, ⟨ps, k, w, X, ⟨hs, hl⟩, hl1, rfl⟩, fun i d ε hj hd w => ?_, fun ε w => ?_⟩
    · obtain ⟨ps, k, w, lo, ⟨hs, hl⟩, hl2, rfl⟩ := w
      obtain ⟨hi3, ed⟩ := rangeD_get hd
      rw [ed]
      generalize (0 + (i : Int)) = z
      refine gn_of ?_
      refine seq_post (fun ε => ∃ w l : Int, ((1 ≤ w ∧ w ≤ 4) ∧ (0 ≤ l ∧ l < 12)) ∧ ε = e f g m (P ps) (I z) (I w) hi (I l) X X) (fun K kk => fun i i0 i1 j j0 j1 => kk _ ⟨1 + i, j, ⟨⟨by omega, by omega⟩, j0, j1⟩, rfl⟩) ?_
      rintro _ ⟨w, l, ⟨⟨w0, w1⟩, l0, l1⟩, rfl⟩
      have gw : (-18446744073709551616 < w ∧ w < 18446744073709551616) ∨ (-18446744073709551616 < (f + g) ∧ (f + g) < 18446744073709551616) := .inl ⟨by omega, by omega⟩
      refine gd_of gw ?_
      intro y y0 y1 c c0 c1
      have wf : (w * (f + g)).natAbs < 1000 := by
        rw [Int.natAbs_mul]
        exact Nat.lt_of_le_of_lt (Nat.mul_le_mul (show w.natAbs ≤ 4 by omega) (show (f + g).natAbs ≤ 50 by omega)) (by decide)
      have fin : ∀ o : Option Int, (∀ h, o = some h → l ≤ h ∧ h < 100) → ∃ ps2 k2 w2 lo2, G (3 + (i + 1)) ps2 ∧ 1 ≤ ps2.length ∧ (e f g m (P ps) (I z) (I w) hi (I l) X X).set 4 (some (.o (ps.map ptD ++ [.tup [.int (l - w * (f + g)), .int w, .int l, optD o]]))) = e f g m (P ps2) k2 w2 hi lo2 X X := fun o ho => by
        have st : StP f (f + g) ⟨l - w * (f + g), w, some l, o⟩ := st_B (by omega) (by omega) (fun h e => (ho h e).1) ⟨sm (by show (l - w * (f + g)).natAbs < _; omega) (by decide), sm (by show w.natAbs < _; omega) (by decide), fun l2 e => by cases e; exact sm (by omega) (by decide), fun h e => by have := ho h e; exact sm (by omega) (by decide)⟩
        refine ⟨ps ++ [(⟨l - w * (f + g), w, some l, o⟩ : Pt)], I z, I w, I l, ⟨all_snoc hs st, by rw [List.length_append]; show ps.length + 1 ≤ _; omega⟩, by rw [List.length_append]; omega, ?_⟩
        show _ = [V .pool, I f, I g, I m, some (.o ((ps ++ [(⟨l - w * (f + g), w, some l, o⟩ : Pt)]).map ptD)), I z, I w, hi, I l, X, X]
        rw [List.map_append]
        rfl
      refine pick_of (xs := [.non, .int (l + y)]) c0 c1 fun d hd => ?_
      refine gd_of (show (ps.map ptD).length < 16777216 by rw [List.length_map]; omega) ?_
      simp only [List.mem_cons, List.not_mem_nil, or_false] at hd
      rcases hd with rfl | rfl
      · exact fin none (fun h e => by cases e)
      · exact fin (some (l + y)) (fun h e => by cases e; omega)
    · obtain ⟨ps, k, w, lo, ⟨hs, hl⟩, hl2, rfl⟩ := w
      rw [rangeD_len] at hl
      exact kk _ ⟨ps, k, w, lo, ⟨hs, by omega⟩, hl2, rfl⟩
  rintro _ ⟨ps, k, w, lo, ⟨hs, hl⟩, hl1, rfl⟩
  -- one that is told
  refine seq_post (fun ε => ∃ ps sa, G 6 ps ∧ 1 ≤ ps.length ∧ ε = e f g m (P ps) k w hi lo sa X) (fun K kk => ?_) ?_
  · intro n n0 n1
    show (match decide (n = 0) with
      | true => _
      | false => _)
    cases e1 : decide (n = 0) with
    | false => exact kk _ ⟨ps, X, ⟨hs, by omega⟩, hl1, rfl⟩
    | true =>
      refine seq_post (fun ε => ∃ s : Int, (0 ≤ s ∧ s < 20) ∧ ε = e f g m (P ps) k w hi lo (I s) X) (fun K kk => fun i i0 i1 => kk _ ⟨i, ⟨i0, i1⟩, rfl⟩) ?_
      rintro _ ⟨s, ⟨s0, s1⟩, rfl⟩
      intro b b0 b1 v v0 v1
      refine gd_of (show (ps.map ptD).length < 16777216 by rw [List.length_map]; omega) ?_
      have st : StP f (f + g) ⟨b - 9, v, some s, some s⟩ := st_C v0 ⟨sm (by show (b - 9).natAbs < _; omega) (by decide), sm (by show v.natAbs < _; omega) (by decide), fun l e => by cases e; exact sm (by omega) (by decide), fun l e => by cases e; exact sm (by omega) (by decide)⟩
      refine kk _ ⟨ps ++ [(⟨b - 9, v, some s, some s⟩ : Pt)], I s, ⟨all_snoc hs st, by rw [List.length_append]; show ps.length + 1 ≤ _; omega⟩, by rw [List.length_append]; omega, ?_⟩
      show _ = [V .pool, I f, I g, I m, some (.o ((ps ++ [(⟨b - 9, v, some s, some s⟩ : Pt)]).map ptD)), k, w, hi, lo, I s, X]
      rw [List.map_append]
      rfl
  rintro _ ⟨ps, sa, ⟨hs, hl⟩, hl1, rfl⟩
  refine seq_post (fun ε => ∃ ps, G 7 ps ∧ 1 ≤ ps.length ∧ ε = e f g m (P ps) k w hi lo sa X) (fun K kk => ?_) ?_
  · intro n n0 n1
    show (match decide (n = 0) with
      | true => _
      | false => _)
    cases e1 : decide (n = 0) with
    | false => exact kk _ ⟨ps, ⟨hs, by omega⟩, hl1, rfl⟩
    | true =>
      intro b b0 b1 c c0 c1
      refine gd_of (show (ps.map ptD).length < 16777216 by rw [List.length_map]; omega) ?_
      have st : StP f (f + g) ⟨b, 0, some c, none⟩ := st_D ⟨sm (by show b.natAbs < _; omega) (by decide), Bn.zero, fun l e => by cases e; exact sm (by omega) (by decide), fun l e => by cases e⟩
      refine kk _ ⟨ps ++ [(⟨b, 0, some c, none⟩ : Pt)], ⟨all_snoc hs st, by rw [List.length_append]; show ps.length + 1 ≤ _; omega⟩, by rw [List.length_append]; omega, ?_⟩
      show _ = [V .pool, I f, I g, I m, some (.o ((ps ++ [(⟨b, 0, some c, none⟩ : Pt)]).map ptD)), k, w, hi, lo, sa, X]
      rw [List.map_append]
      rfl
  rintro _ ⟨ps, ⟨hs, hl⟩, hl1, rfl⟩
  -- turned
  refine seq_post (fun ε => ∃ t : Nat, t < ps.length ∧ ε = e f g m (P ps) k w hi lo sa (I (t : Int))) (fun K kk => fun i i0 i1 => ?_) ?_
  · have lm : (ps.map ptD).length = ps.length := List.length_map ..
    refine gd_of (show (0 : Int) < (((ps.map ptD).length : Nat) : Int) by omega) ?_
    have m0 : 0 ≤ i % (((ps.map ptD).length : Nat) : Int) := Int.emod_nonneg _ (by omega)
    have m1 : i % (((ps.map ptD).length : Nat) : Int) < (((ps.map ptD).length : Nat) : Int) := Int.emod_lt_of_pos _ (by omega)
    refine kk _ ⟨(i % (((ps.map ptD).length : Nat) : Int)).toNat, by omega, ?_⟩
    rw [Int.toNat_of_nonneg m0]
    rfl
  rintro _ ⟨t, ht, rfl⟩
  have lm : (ps.map ptD).length = ps.length := List.length_map ..
  have ht2 : t ≤ (ps.map ptD).length := by omega
  let qs := ps.drop t ++ ps.take t
  have eq : cutD (ps.map ptD) (some (t : Int)) none ++ cutD (ps.map ptD) none (some (t : Int)) = qs.map ptD := by
    rw [cut_to ht2, cut_fr ht2, List.map_append, List.map_drop, List.map_take]
  have ql : qs.length = ps.length := by
    show (ps.drop t ++ ps.take t).length = _
    rw [List.length_append, List.length_drop, List.length_take]
    omega
  have qm : ∀ p ∈ qs, StP f (f + g) p := fun p hp => by
    rcases List.mem_append.mp hp with hp | hp
    · exact hs p (List.mem_of_mem_drop hp)
    · exact hs p (List.mem_of_mem_take hp)
  have bf : Bn 10 f := by
    show f.natAbs < 1024
    omega
  have bg : Bn 10 (f + g) := by
    show (f + g).natAbs < 1024
    omega
  refine seq_step (e f g m (P qs) k w hi lo sa (I (t : Int))) (fun K kk => ?_) ?_
  · refine gd_of (show (cutD (ps.map ptD) (some (t : Int)) none).length + (cutD (ps.map ptD) none (some (t : Int))).length ≤ 16777216 by rw [cut_to ht2, cut_fr ht2, List.length_drop, List.length_take]; omega) ?_
    rw [eq]
    exact kk
  · refine ⟨qs, f, 1, rfl, fun p hp => ⟨(qm p hp).s.ps.pb, (qm p hp).f⟩, bf.mono (by decide), Bn.one (by decide), by decide, by omega, ?_⟩
    rw [tops_ints]
    refine opt_of (toInts_map _) ?_
    exact h qs f (f + g) qm (by omega) ⟨fun p hp => (qm p hp).s.ps, fun p hp => (qm p hp).f, still_sum qm (by omega) bf, by omega⟩ (by omega) ⟨bf, bg⟩

end PL.K57

set_option Elab.async false
set_option linter.all false
set_option autoImplicit false
set_option maxRecDepth 100000
set_option maxHeartbeats 1000000
namespace PL.K57
open PySem PySem.Spec PyProof.Rows L2
local macro_rules | `(tactic| walk_at "y") => `(tactic| conv => whnf)
/-! ### _law_refused -/
theorem cut_sub {α : Type} {xs : List α} {lo hi : Option Int} : (∀ x ∈ cutD xs lo hi, x ∈ xs) ∧ (cutD xs lo hi).length ≤ xs.length := by
  unfold cutD
  refine ⟨fun x hx => List.mem_of_mem_drop (List.mem_of_mem_take hx), ?_⟩
  rw [List.length_take, List.length_drop]
  omega
/-- no part -/
def NotPart (d : D) : Prop := regT d = true ∧ isPartB d = false
def wrongL : List D := [.tup [.int 1, .int (-1), .int 0, .non], .tup [.int 1, .int 1, .int 2, .int 1], .lst [.int 1, .int 1, .int 0, .non], .tup [.int 1, .int 1, .int 0], .tup [.bl true, .int 1, .int 0, .non], .tup [.int 1, .int 1, .non, .non], .tup [.int 1, .int 1, .int 0, .str ("2" : Str)], .non, .int 7, .tup [.int 1, .bl false, .int 0, .int 3]]
theorem wrong_all : ∀ d ∈ wrongL, NotPart d := by
  intro d hd
  simp only [wrongL, List.mem_cons, List.not_mem_nil, or_false] at hd
  rcases hd with rfl | rfl | rfl | rfl | rfl | rfl | rfl | rfl | rfl | rfl <;> exact ⟨rfl, rfl⟩
theorem wrong_in {ps : List Pt} {d r : D} {a b : List D} (ha : ∀ x ∈ a, x ∈ ps.map ptD) (hb : ∀ x ∈ b, x ∈ ps.map ptD) (h : NotPart d) : regP (.lst (a ++ [d] ++ b)) = true ∧ okB (.lst (a ++ [d] ++ b)) r = false := by
  have rp : ∀ x ∈ ps.map ptD, regT x = true := fun x hx => by
    obtain ⟨p, _, rfl⟩ := List.mem_map.mp hx
    exact regT_pt p
  refine ⟨List.all_eq_true.mpr fun x hx => ?_, ?_⟩
  · rcases List.mem_append.mp hx with hx | hx
    · rcases List.mem_append.mp hx with hx | hx
      · exact rp x (ha x hx)
      · rw [List.mem_singleton.mp hx]; exact h.1
    · exact rp x (hb x hx)
  · show ((decide _ && (a ++ [d] ++ b).all isPartB) && isWholeB r) = false
    have : (a ++ [d] ++ b).all isPartB = false := List.all_eq_false.mpr ⟨d, by simp, by rw [h.2]; decide⟩
    rw [this, Bool.and_false, Bool.false_and]
theorem long_no {n : Nat} (hn : 200 < n) {ps : List Pt} (hl : ps.length = n) (r : D) : okB (ptsD ps) r = false := by
  show ((decide ((ps.map ptD).length ≤ 200) && (ps.map ptD).all isPartB) && isWholeB r) = false
  rw [decide_eq_false (by rw [List.length_map]; omega)]
  rfl
def zeroP : Pt := ⟨0, 0, some 0, some 0⟩
theorem zero_D (n : Nat) : ptsD (List.replicate n zeroP) = .lst (List.replicate n (.tup [.int 0, .int 0, .int 0, .int 0])) := by
  show D.lst ((List.replicate n zeroP).map ptD) = _
  rw [List.map_replicate]
  rfl
theorem zero_I (n : Nat) : intsD (List.replicate n 0) = .lst (List.replicate n (.int 0)) := by
  show D.lst ((List.replicate n (0 : Int)).map D.int) = _
  rw [List.map_replicate]
theorem zero_full : PB zeroP ∧ Full zeroP := ⟨⟨Bn.zero, Bn.zero, fun _ z => by cases z; exact Bn.zero, fun _ z => by cases z; exact Bn.zero⟩, ⟨by decide, fun _ _ z y => by cases z; cases y; exact Int.le_refl _⟩, 0, rfl⟩
theorem zero_in {n : Nat} (hn : n ≤ 200) : InF (List.replicate n zeroP) 0 := by
  have h : ∀ p ∈ List.replicate n zeroP, p = zeroP := fun p hp => (List.mem_replicate.mp hp).2
  exact inF_of' (fun p hp => by rw [h p hp]; exact zero_full.1) (fun p hp => by rw [h p hp]; exact zero_full.2) Bn.zero (by rw [List.length_replicate]; exact hn)
theorem zero_tops (n : Nat) : topsI (List.replicate n zeroP) (0, 1) = List.replicate n 0 := by
  unfold topsI
  rw [List.map_replicate]
  rfl
theorem zero_whole : ∀ n : Nat, wholesI 1 0 (List.replicate n 0) = List.replicate n 0
  | 0 => rfl
  | n + 1 => by
    rw [List.replicate_succ]
    show (((0 : Int) + 0) / 1 - 0 / 1) :: wholesI 1 (0 + 0) (List.replicate n 0) = _
    rw [show ((0 : Int) + 0) = 0 from rfl, zero_whole n]
    rfl
theorem zero_sum : ∀ n : Nat, (List.replicate n (0 : Int)).sum = 0
  | 0 => rfl
  | n + 1 => by rw [List.replicate_succ, List.sum_cons, zero_sum n]; rfl
theorem zero_right (n : Nat) : rightB (List.replicate n zeroP) 0 (ratD (some (0, 1))) = true := right_of (by decide) (by decide) (by
  show (topsI (List.replicate n zeroP) (0, 1)).sum = 0 * 1
  rw [zero_tops, zero_sum]
  rfl)
theorem out4_ev {Ξ : Xi} {r1 r2 r3 r4 : PTE} {ε : PEnv} {d r s v : D} (h1 : Ev r1 ε d) (h2 : Ev r2 ε r) (h3 : Ev r3 ε s) (h4 : Ev r4 ε v) (a : regP d = true) (b : regB r = true) (c : okB d r = false) : Ev (yCall φ_law_outcome Ξ (ylCons r1 (ylCons r2 (ylCons r3 (ylCons r4 ylNil))))) ε (.bl true) := fun Q q => call4_of h1 h2 h3 h4 ⟨d, r, s, v, rfl, a, b, c, q⟩
def φ_law_refused : Spec := fun ds Q _ => ∃ ps room, ds = [.pool, ptsD ps, .int room] ∧ InH ps room ∧ Q (.bl true)
abbrev N_law_refused : List Str := ["pool", "parts", "room", "sizes", "wrong", "one", "at", "ratio", "strange"]
def r_law_refused (Ξ : Xi) : PTS :=
  (ysSeq (ysAsg (yCall φ_law_share Ξ (ylCons (yVar 1) (ylCons (yVar 2) ylNil))) 3)
  (ysSeq (ysAsg (yNew (ynLst (ylCons (yTup (ylCons (yC (.int 1)) (ylCons (yNeg (yC (.int 1))) (ylCons (yC (.int 0)) (ylCons (yC .non) ylNil))))) (ylCons (yTup (ylCons (yC (.int 1)) (ylCons (yC (.int 1)) (ylCons (yC (.int 2)) (ylCons (yC (.int 1)) ylNil))))) (ylCons (yNew (ynLst (ylCons (yC (.int 1)) (ylCons (yC (.int 1)) (ylCons (yC (.int 0)) (ylCons (yC .non) ylNil)))))) (ylCons (yTup (ylCons (yC (.int 1)) (ylCons (yC (.int 1)) (ylCons (yC (.int 0)) ylNil)))) (ylCons (yTup (ylCons (yC (.bl true)) (ylCons (yC (.int 1)) (ylCons (yC (.int 0)) (ylCons (yC .non) ylNil))))) (ylCons (yTup (ylCons (yC (.int 1)) (ylCons (yC (.int 1)) (ylCons (yC .non) (ylCons (yC .non) ylNil))))) (ylCons (yTup (ylCons (yC (.int 1)) (ylCons (yC (.int 1)) (ylCons (yC (.int 0)) (ylCons (yC (.str ("2" : Str))) ylNil))))) (ylCons (yC .non) (ylCons (yC (.int 7)) (ylCons (yTup (ylCons (yC (.int 1)) (ylCons (yC (.bl false)) (ylCons (yC (.int 0)) (ylCons (yC (.int 3)) ylNil))))) ylNil)))))))))))) 4)
  (ysSeq (ysPar 5 6 (yxE (yIx (yVar 4) (yCall φ_law_pick Ξ (ylCons (yVar 0) (ylCons (yC (.int 10)) ylNil))))) (yxE (yBin oMod (yCB oInt (ylCons (yCall φ_law_pick Ξ (ylCons (yVar 0) (ylCons (yC (.int 60)) ylNil))) ylNil)) (yBin oAdd (yCB oLen (ylCons (yVar 1) ylNil)) (yC (.int 1))))))
  (ysSeq (ysAsg (yIx (yNew (ynLst (ylCons (yC .non) (ylCons (yTup (ylCons (yC (.int 0)) (ylCons (yC (.int 1)) ylNil))) (ylCons (yTup (ylCons (yC (.int 1)) (ylCons (yC (.int 2)) ylNil))) (ylCons (yC (.str ("t" : Str))) (ylCons (yC (.int 5)) ylNil))))))) (yCall φ_law_pick Ξ (ylCons (yVar 0) (ylCons (yC (.int 5)) ylNil)))) 7)
  (ysSeq (ysIf (yOr (yNot (yTru (yCall φ_law_outcome Ξ (ylCons (yBin oAdd (yBin oAdd (yNew (ynSl (yVar 1) yoNone (yoSome (yVar 6)))) (yNew (ynLst (ylCons (yVar 5) ylNil)))) (yNew (ynSl (yVar 1) (yoSome (yVar 6)) yoNone))) (ylCons (yVar 2) (ylCons (yVar 3) (ylCons (yVar 7) ylNil))))))) (yNot (yTru (yCall φ_law_outcome Ξ (ylCons (yCB oTupleOf (ylCons (yVar 1) ylNil)) (ylCons (yVar 2) (ylCons (yVar 3) (ylCons (yVar 7) ylNil))))))))
  (ysRet (yC (.bl false)))
  ysNext)
  (ysSeq (ysIf (yOr (yNot (yTru (yCall φ_law_outcome Ξ (ylCons (yBin oMulA (yNew (ynLst (ylCons (yTup (ylCons (yC (.int 0)) (ylCons (yC (.int 0)) (ylCons (yC (.int 0)) (ylCons (yC (.int 0)) ylNil))))) ylNil))) (yC (.int 201))) (ylCons (yC (.int 0)) (ylCons (yBin oMulA (yNew (ynLst (ylCons (yC (.int 0)) ylNil))) (yC (.int 201))) (ylCons (yTup (ylCons (yC (.int 0)) (ylCons (yC (.int 1)) ylNil))) ylNil))))))) (yNot (yTru (yCall φ_law_is_yes Ξ (ylCons (yCall φ_is_share Ξ (ylCons (yBin oMulA (yNew (ynLst (ylCons (yTup (ylCons (yC (.int 0)) (ylCons (yC (.int 0)) (ylCons (yC (.int 0)) (ylCons (yC (.int 0)) ylNil))))) ylNil))) (yC (.int 200))) (ylCons (yC (.int 0)) (ylCons (yBin oMulA (yNew (ynLst (ylCons (yC (.int 0)) ylNil))) (yC (.int 200))) (ylCons (yTup (ylCons (yC (.int 0)) (ylCons (yC (.int 1)) ylNil))) ylNil))))) (ylCons (yC (.bl true)) ylNil))))))
  (ysRet (yC (.bl false)))
  ysNext)
  (ysRet (yCB oAll (ylCons (yNew (ynLc (yiSeq (yNew (ynLst (ylCons (yC .non) (ylCons (yC (.bl true)) (ylCons (yCB oStrA (ylCons (yVar 2) ylNil)) (ylCons (yTup (ylCons (yVar 2) ylNil)) ylNil))))))) (gN 8) yYes (yCall φ_law_outcome Ξ0 (ylCons (yVar 1) (ylCons (yVar 8) (ylCons (yVar 3) (ylCons (yVar 7) ylNil))))) [8])) ylNil)))))))))
theorem vc_law_refused (ds : List D) (Q' : D → Prop) (E' : Nat → Prop) (h : φ_law_refused ds Q' E') : r_law_refused (fun c _ => E' c) { nx := fun _ => Q' .non, rt := fun d _ => Q' d } (startE N_law_refused ds) := by
  obtain ⟨ps, room, rfl, ih, h⟩ := h
  have hi := ih.g.f'
  let V (x : D) : Option S := some (.v x)
  let L := lawShare ps room
  let X : Option S := none
  have lm : (ps.map ptD).length = ps.length := List.length_map ..
  have hl := ih.l
  let e (si wr on a ra st : Option S) : PEnv := [V .pool, V (ptsD ps), V (.int room), si, wr, on, a, ra, st]
  refine seq_step (e (V (intsD L)) X X X X X) (fun K k => ⟨ps, room, rfl, hi, k⟩) ?_
  refine seq_step (e (V (intsD L)) (V (.lst wrongL)) X X X X) (fun K k => k) ?_
  refine seq_post (fun ε => ∃ (d : D) (a : Int), NotPart d ∧ ε = e (V (intsD L)) (V (.lst wrongL)) (V d) (V (.int a)) X X) (fun K kk => ?_) ?_
  · intro i i0 i1
    refine pick_of (xs := wrongL) i0 i1 fun d hd => ?_
    intro j j0 j1
    exact gd_of (show (0 : Int) < (((ps.map ptD).length : Nat) : Int) + 1 by omega) (kk _ ⟨d, _, wrong_all d hd, rfl⟩)
  rintro _ ⟨d, a, hd, rfl⟩
  refine seq_post (fun ε => ∃ r : D, ε = e (V (intsD L)) (V (.lst wrongL)) (V d) (V (.int a)) (V r) X) (fun K kk => ?_) ?_
  · intro i i0 i1
    refine pick_of (xs := [.non, .tup [.int 0, .int 1], .tup [.int 1, .int 2], .str ("t" : Str), .int 5]) i0 i1 fun d hd => ?_
    exact kk _ ⟨d, rfl⟩
  rintro _ ⟨r, rfl⟩
  let ε := e (V (intsD L)) (V (.lst wrongL)) (V d) (V (.int a)) (V r) X
  obtain ⟨c1, c2⟩ := cut_sub (xs := ps.map ptD) (lo := none) (hi := some a)
  obtain ⟨c3, c4⟩ := cut_sub (xs := ps.map ptD) (lo := some a) (hi := none)
  obtain ⟨w1, w2⟩ := wrong_in (r := .int room) c1 c3 hd
  have t1 : Ev (yNew (ynSl (yVar 1) yoNone (yoSome (yVar 6)))) ε (.lst (cutD (ps.map ptD) none (some a))) := sl_ev (Ev.var rfl) on_ev (os_ev (Ev.var rfl))
  have t2 : Ev (yNew (ynSl (yVar 1) (yoSome (yVar 6)) yoNone)) ε (.lst (cutD (ps.map ptD) (some a) none)) := sl_ev (Ev.var rfl) (os_ev (Ev.var rfl)) on_ev
  have t3 : Ev (yBin oAdd (yBin oAdd (yNew (ynSl (yVar 1) yoNone (yoSome (yVar 6)))) (yNew (ynLst (ylCons (yVar 5) ylNil)))) (yNew (ynSl (yVar 1) (yoSome (yVar 6)) yoNone))) ε (.lst (cutD (ps.map ptD) none (some a) ++ [d] ++ cutD (ps.map ptD) (some a) none)) := Ev.add (Ev.add t1 (lst1_ev (Ev.var (i := 5) rfl)) (by show _ + 1 ≤ _; omega)) t2 (by rw [List.length_append]; show _ + 1 + _ ≤ _; omega)
  have t4 : Ev (yCB oTupleOf (ylCons (yVar 1) ylNil)) ε (.tup (ps.map ptD)) := fun Q q => q
  refine seq_step ε (fun K k => ifnn (out4_ev t3 (Ev.var (i := 2) rfl) (Ev.var (i := 3) rfl) (Ev.var (i := 7) rfl) w1 rfl w2) (out4_ev t4 (Ev.var (i := 2) rfl) (Ev.var (i := 3) rfl) (Ev.var (i := 7) rfl) rfl rfl rfl) k) ?_
  have n201 : Ev (yC (.int 201)) ε (.int ((201 : Nat) : Int)) := Ev.c
  have n200 : Ev (yC (.int 200)) ε (.int ((200 : Nat) : Int)) := Ev.c
  have z4 : Ev (yTup (ylCons (yC (.int 0)) (ylCons (yC (.int 0)) (ylCons (yC (.int 0)) (ylCons (yC (.int 0)) ylNil))))) ε (.tup [.int 0, .int 0, .int 0, .int 0]) := fun Q q => q
  have p201 := Ev.rep z4 n201 (by decide)
  rw [← zero_D] at p201
  have p200 := Ev.rep z4 n200 (by decide)
  rw [← zero_D] at p200
  have s200 := Ev.rep (Ev.c (ε := ε) (d := .int 0)) n200 (by decide)
  rw [← zero_I] at s200
  have s201 := Ev.rep (Ev.c (ε := ε) (d := .int 0)) n201 (by decide)
  have one : Ev (yTup (ylCons (yC (.int 0)) (ylCons (yC (.int 1)) ylNil))) ε (ratD (some (0, 1))) := fun Q q => q
  have zi := zero_in (n := 200) (Nat.le_refl _)
  have zr := zero_right 200
  have zl : (List.replicate 200 zeroP).length ≤ 200 := by rw [List.length_replicate]; exact Nat.le_refl _
  have zs : lawShare (List.replicate 200 zeroP) 0 = List.replicate 200 0 := by
    rw [← share_at (r := (0, 1)) zi.f (by decide) (right_some zr).2.2, zero_tops, zero_whole]
  have o201 : okB (ptsD (List.replicate 201 zeroP)) (.int 0) = false := long_no (n := 201) (by decide) (by rw [List.length_replicate]) _
  refine seq_step ε (fun K k => ifnn (out4_ev p201 Ev.c s201 one (regP_pts _) rfl o201) (true_ev (r := some (0, 1)) p200 Ev.c s200 one zi zl ⟨zr, fun k z => by cases z; exact ⟨by decide, by decide, Bn.zero, Bn.one (by decide)⟩⟩ zs) k) ?_
  have rb : regP (ptsD ps) = true := regP_pts ps
  have bad : ∀ s : D, isWholeB s = false → okB (ptsD ps) s = false := fun s hs => by
    show (_ && isWholeB s) = false
    rw [hs, Bool.and_false]
  refine gd_of (log_of ((ih.r).mono (by decide))) fun x => ?_
  refine ⟨⟨trivial, trivial⟩, by show 4 ≤ _; decide, lc_map (ds := [.non, .bl true, .str x, .tup [.int room]]) (fun _ => .bl true) (fun i s hs K N hk => ?_) ?_⟩
  · have hm := List.mem_of_getElem? hs
    refine gn_of ?_
    have hw : regB s = true ∧ isWholeB s = false := by
      simp only [List.mem_cons, List.not_mem_nil, or_false] at hm
      rcases hm with rfl | rfl | rfl | rfl <;> exact ⟨rfl, rfl⟩
    let E2 : PEnv := [V .pool, V (ptsD ps), V (.int room), V (intsD L), V (.lst wrongL), V d, V (.int a), V r, V s]
    refine (?_ : yYes E2 _)
    exact yes_ev (d := .bl true) (out4_ev (Ev.var (i := 1) rfl) (Ev.var (i := 8) rfl) (Ev.var (i := 3) rfl) (Ev.var (i := 7) rfl) rb hw.1 (bad s hw.2)) ⟨rfl, hk⟩
  · exact h

end PL.K57

set_option Elab.async false
set_option linter.all false
set_option autoImplicit false
set_option maxRecDepth 100000
set_option maxHeartbeats 1000000
namespace PL.K57
open PySem PySem.Spec PyProof.Rows L2
local macro_rules | `(tactic| walk_at "y") => `(tactic| conv => whnf)
/-! ### law -/
theorem P86.ps {p : Pt} (h : P86 p) : PS p := ⟨h.b.mono (by decide), h.w.mono (by decide), fun l e => (h.lo l e).mono (by decide), fun l e => (h.hi l e).mono (by decide)⟩
theorem nat_one (a : Nat) : Nat.gcd a 1 = 1 := Nat.gcd_one_right a
theorem low_between {a z n d : Int} (hd : 0 < d) (h1 : a * d ≤ n) (h2 : n ≤ z * d) : (a : Rat) ≤ rat (lowI n d) ∧ rat (lowI n d) ≤ (z : Rat) := by
  obtain ⟨_, _, er⟩ := low_rat (n := n) hd
  have p := pos_q hd
  have e : (d : Rat) * rat (lowI n d) = (n : Rat) := lowI_rat hd
  have c1 : ((a * d : Int) : Rat) ≤ (n : Rat) := Rat.intCast_le_intCast.mpr h1
  have c2 : (n : Rat) ≤ ((z * d : Int) : Rat) := Rat.intCast_le_intCast.mpr h2
  rw [Rat.intCast_mul] at c1 c2
  constructor
  · refine (mul_le_q p).mp ?_
    rw [e]
    grind
  · refine (mul_le_q p).mp ?_
    rw [e]
    grind
def stillL (a z : Int) : List (Int × Int) := [(a, 1), (z, 1), lowI (a + z) 2, lowI (a * 2 + z) 3]
theorem still_right {ps : List Pt} {a z : Int} (h : ∀ p ∈ ps, StP a z p) (az : a ≤ z) (ha : Bn 10 a) (hz : Bn 10 z) : ∀ k ∈ stillL a z, Right ps (sumI ps a 1) (some k) := by
  intro k hk
  have e : ∀ {k : Int × Int}, RtP k → (a : Rat) ≤ rat k → rat k ≤ (z : Rat) → Right ps (sumI ps a 1) (some k) := fun {k} r l1 l2 => ⟨right_still h r.low r.gcd l1 l2, fun q y => by cases y; exact r⟩
  have az' : (a : Rat) ≤ (z : Rat) := Rat.intCast_le_intCast.mpr az
  have b2 : Bn 250 (2 : Int) := Bn.nn (a := 250) (n := 3) (by decide) (by decide) (by decide)
  have b3 : Bn 250 (3 : Int) := Bn.nn (a := 250) (n := 4) (by decide) (by decide) (by decide)
  have a1 : a.natAbs < 1024 := ha
  have z1 : z.natAbs < 1024 := hz
  simp only [stillL, List.mem_cons, List.not_mem_nil, or_false] at hk
  rcases hk with rfl | rfl | rfl | rfl
  · exact e ⟨show (0 : Int) < 1 by decide, nat_one _, ha.mono (by decide), Bn.one (by decide)⟩ (by rw [rat_one]; exact Rat.le_refl) (by rw [rat_one]; exact az')
  · exact e ⟨show (0 : Int) < 1 by decide, nat_one _, hz.mono (by decide), Bn.one (by decide)⟩ (by rw [rat_one]; exact az') (by rw [rat_one]; exact Rat.le_refl)
  · have b := low_between (a := a) (z := z) (n := a + z) (d := 2) (by decide) (by omega) (by omega)
    exact e (rt_low (by decide) (Bn.mono (a := 12) (by show (a + z).natAbs < 4096; omega) (by decide)) b2) b.1 b.2
  · have b := low_between (a := a) (z := z) (n := a * 2 + z) (d := 3) (by decide) (by omega) (by omega)
    exact e (rt_low (by decide) (Bn.mono (a := 12) (by show (a * 2 + z).natAbs < 4096; omega) (by decide)) b3) b.1 b.2
def r_law_turn (Ξ : Xi) : PTS :=
  (ysSeq (ysAsgG (yCall φ_law_still Ξ (ylCons (yVar 1) ylNil)) (gTupY 4 [(gN 3), (gN 4), (gN 5), (gN 6)]))
  (ysSeq (ysAsg (yCall φ_law_share Ξ (ylCons (yVar 3) (ylCons (yVar 4) ylNil))) 7)
  (ysSeq (ysFor (yiSeq (yNew (ynLst (ylCons (yTup (ylCons (yVar 5) (ylCons (yC (.int 1)) ylNil))) (ylCons (yTup (ylCons (yVar 6) (ylCons (yC (.int 1)) ylNil))) (ylCons (yCall φ_law_lowest Ξ (ylCons (yBin oAdd (yVar 5) (yVar 6)) (ylCons (yC (.int 2)) ylNil))) (ylCons (yCall φ_law_lowest Ξ (ylCons (yBin oAdd (yBin oMulA (yVar 5) (yC (.int 2))) (yVar 6)) (ylCons (yC (.int 3)) ylNil))) ylNil))))))) (gN 8)
  (ysIf (yNot (yTru (yCall φ_law_is_yes Ξ (ylCons (yCall φ_is_share Ξ (ylCons (yNew (ynCB oListOf (ylCons (yVar 3) ylNil))) (ylCons (yVar 4) (ylCons (yNew (ynCB oListOf (ylCons (yVar 7) ylNil))) (ylCons (yVar 8) ylNil))))) (ylCons (yC (.bl true)) ylNil)))))
  (ysRet (yC (.bl false)))
  ysNext))
  (ysSeq (ysIf (yOr (yNot (yTru (yCall φ_law_all_said Ξ (ylCons (yVar 1) (ylCons (yVar 3) (ylCons (yVar 4) ylNil)))))) (yNot (yTru (yCall φ_law_moved Ξ (ylCons (yVar 1) (ylCons (yVar 3) (ylCons (yVar 4) ylNil)))))))
  (ysRet (yC (.bl false)))
  ysNext)
  (ysSeq (ysAsg (yIx (yNew (ynLst (ylCons (yC (.int 1)) (ylCons (yC (.int 1)) (ylCons (yC (.int 7)) (ylCons (yBin oPow (yC (.int 10)) (yC (.int 18))) ylNil)))))) (yCall φ_law_pick Ξ (ylCons (yVar 1) (ylCons (yC (.int 4)) ylNil)))) 9)
  (ysSeq (ysAsg (yNew (ynLc (yiRg1 (ylCons (yCall φ_law_pick Ξ (ylCons (yVar 1) (ylCons (yC (.int 8)) ylNil))) ylNil)) (gN 11) yYes (yCall φ_law_part Ξ0 (ylCons (yVar 1) (ylCons (yVar 9) ylNil))) [11])) 3)
  (ysSeq (ysAsg (yCB oSum (ylCons (yNew (ynLc (yiSeq (yVar 3)) (gTupY 4 [(gN 12), (gN 13), (gN 14), (gN 15)]) yYes (yCall φ_law_cut Ξ0 (ylCons (yVar 12) (ylCons (yVar 14) (ylCons (yVar 15) ylNil)))) [12, 13, 14, 15])) ylNil)) 10)
  (ysSeq (ysAsg (yBin oAdd (yBin oAdd (yVar 10) (yBin oMulA (yBin oMulA (yVar 9) (yBin oSub (yCall φ_law_pick Ξ (ylCons (yVar 1) (ylCons (yC (.int 60)) ylNil))) (yC (.int 30)))) (yCall φ_law_pick Ξ (ylCons (yVar 1) (ylCons (yC (.int 3)) ylNil))))) (yCall φ_law_pick Ξ (ylCons (yVar 1) (ylCons (yC (.int 3)) ylNil)))) 4)
  (ysIf (yOr (yNot (yTru (yCall φ_law_all_said Ξ (ylCons (yVar 1) (ylCons (yVar 3) (ylCons (yVar 4) ylNil)))))) (yOr (yNot (yTru (yCall φ_law_moved Ξ (ylCons (yVar 1) (ylCons (yVar 3) (ylCons (yVar 4) ylNil)))))) (yNot (yTru (yCall φ_law_refused Ξ (ylCons (yVar 1) (ylCons (yVar 3) (ylCons (yVar 4) ylNil))))))))
  (ysRet (yC (.bl false)))
  ysNext)))))))))
theorem law_turn {E' : Nat → Prop} {Δ : PEnds} {sc tu pa ro fi la si ra un no : Option S} {ba we lo hi : Option D}
    (kk : ∀ (pa ro fi la si ra un no : Option S) (ba we lo hi : Option D), Δ.nx [sc, some (.v .pool), tu, pa, ro, fi, la, si, ra, un, no, none, ba.map S.v, we.map S.v, lo.map S.v, hi.map S.v]) :
    r_law_turn (fun c _ => E' c) Δ [sc, some (.v .pool), tu, pa, ro, fi, la, si, ra, un, no, none, ba.map S.v, we.map S.v, lo.map S.v, hi.map S.v] := by
  let V (x : D) : Option S := some (.v x)
  let I (i : Int) : Option S := V (.int i)
  let e (pa ro fi la si ra un no : Option S) : PEnv := [sc, V .pool, tu, pa, ro, fi, la, si, ra, un, no, none, ba.map S.v, we.map S.v, lo.map S.v, hi.map S.v]
  refine seq_post (fun ε => ∃ (ps : List Pt) (a z : Int), ((∀ p ∈ ps, StP a z p) ∧ InH ps (sumI ps a 1) ∧ a ≤ z ∧ Bn 10 a ∧ Bn 10 z) ∧ ε = e (V (ptsD ps)) (I (sumI ps a 1)) (I a) (I z) si ra un no) (fun K kk => ⟨rfl, fun ps a z h1 _ h3 h4 h5 => gtup4 (kk _ ⟨ps, a, z, ⟨h1, h3, h4, h5.1, h5.2⟩, rfl⟩)⟩) ?_
  rintro _ ⟨ps, a, z, ⟨hs, ih, az, ba_, bz⟩, rfl⟩
  have sr := still_right hs az ba_ bz
  obtain ⟨room, er⟩ : ∃ room, room = sumI ps a 1 := ⟨_, rfl⟩
  rw [← er] at sr ih
  rw [← er]
  have hF := ih.g.f'
  let L := lawShare ps room
  refine seq_step (e (V (ptsD ps)) (I room) (I a) (I z) (V (intsD L)) ra un no) (fun K k => ⟨ps, room, rfl, hF, k⟩) ?_
  refine seq_post (fun ε => ∃ ra, ε = e (V (ptsD ps)) (I room) (I a) (I z) (V (intsD L)) ra un no) (fun K kk => ?_) ?_
  · have az1 : a.natAbs < 1024 := ba_
    have zz1 : z.natAbs < 1024 := bz
    refine ⟨_, _, rfl, by decide, Bn.nn (a := 260) (n := 3) (by decide) (by decide) (by decide), ?_⟩
    have g2 : (-18446744073709551616 < a ∧ a < 18446744073709551616) ∨ ((-18446744073709551616 : Int) < 2 ∧ (2 : Int) < 18446744073709551616) := .inr (by decide)
    refine gd_of g2 ?_
    refine ⟨_, _, rfl, by decide, Bn.nn (a := 260) (n := 4) (by decide) (by decide) (by decide), ?_⟩
    refine for_list (S := stillL a z) (m := pairD) (fun i ε => ∃ ra, ε = e (V (ptsD ps)) (I room) (I a) (I z) (V (intsD L)) ra un no) ⟨ra, rfl⟩ (fun i hj ε w => ?_) fun ε w => kk ε w
    obtain ⟨ra, rfl⟩ := w
    have rk := sr _ (List.getElem_mem hj)
    generalize (stillL a z)[i] = q at rk
    refine gn_of ?_
    exact ifn (true_ev (r := some q) (L := L) (lof_ev (Ev.var (i := 3) rfl)) (Ev.var (i := 4) rfl) (lof_ev (xs := L.map D.int) (Ev.var (i := 7) rfl)) (Ev.var (i := 8) rfl) hF ih.l rk rfl) ⟨_, rfl⟩
  rintro _ ⟨ra, rfl⟩
  refine seq_step (e (V (ptsD ps)) (I room) (I a) (I z) (V (intsD L)) ra un no) (fun K k => ifnn (call_ev3 (Ev.var (i := 1) rfl) (Ev.var (i := 3) rfl) (Ev.var (i := 4) rfl) fun K E k => ⟨ps, room, rfl, ih.g, k⟩) (call_ev3 (Ev.var (i := 1) rfl) (Ev.var (i := 3) rfl) (Ev.var (i := 4) rfl) fun K E k => ⟨ps, room, rfl, ih, k⟩) k) ?_
  -- any parts
  refine seq_post (fun ε => ∃ u : Int, (0 ≤ u ∧ u ≤ 1000000000000000000) ∧ ε = e (V (ptsD ps)) (I room) (I a) (I z) (V (intsD L)) ra (I u) no) (fun K kk => ?_) ?_
  · intro i i0 i1
    refine pickI (ns := [1, 1, 7, 10 ^ Int.toNat 18]) (P := fun n => 0 ≤ n ∧ n ≤ 1000000000000000000) (all_of (p := fun n => decide (0 ≤ n) && decide (n ≤ 1000000000000000000)) (by decide) fun n z => ⟨of_decide_eq_true (Bool.and_eq_true_iff.mp z).1, of_decide_eq_true (Bool.and_eq_true_iff.mp z).2⟩) i0 i1 fun n hn => ?_
    exact kk _ ⟨n, hn, rfl⟩
  rintro _ ⟨u, hu, rfl⟩
  refine seq_post (fun ε => ∃ qs : List Pt, ((∀ p ∈ qs, P86 p ∧ Full p) ∧ qs.length ≤ 7) ∧ ε = e (V (ptsD qs)) (I room) (I a) (I z) (V (intsD L)) ra (I u) no) (fun K kk => ?_) ?_
  · intro n n0 n1
    refine gd_of (small_by (by omega) (by omega)) ?_
    refine ⟨⟨trivial, trivial⟩, by rw [rangeD_len]; omega, fun i acc => ∃ qs : List Pt, acc = qs.map ptD ∧ qs.length = i ∧ ∀ p ∈ qs, P86 p ∧ Full p, ⟨[], rfl, rfl, fun p hp => by cases hp⟩, fun i d acc hi hd hl w => ?_, fun acc hl w => ?_⟩
    · obtain ⟨qs, rfl, el, hq⟩ := w
      refine ⟨hu, fun p h1 h2 => ⟨rfl, qs ++ [p], by rw [List.map_append]; rfl, by rw [List.length_append]; show qs.length + 1 = _; omega, all_snoc hq ⟨h1, h2⟩⟩⟩
    · obtain ⟨qs, rfl, el, hq⟩ := w
      rw [rangeD_len] at el
      exact kk _ ⟨qs, ⟨hq, by omega⟩, rfl⟩
  rintro _ ⟨qs, ⟨hq, ql⟩, rfl⟩
  refine seq_post (fun ε => ∃ n : Int, Bn 89 n ∧ ε = e (V (ptsD qs)) (I room) (I a) (I z) (V (intsD L)) ra (I u) (I n)) (fun K kk => ?_) ?_
  · refine ⟨?_, by rw [List.length_map]; omega, lc_list (S := qs) (m := ptD) (f := fun p => .int (cutI p.b p.lo p.hi)) (fun p hp K N k => ?_) ?_⟩
    · cases ba <;> cases we <;> cases lo <;> cases hi <;> exact ⟨trivial, trivial, trivial, trivial, trivial⟩
    · obtain ⟨ok, l, el⟩ := (hq p hp).2
      refine gtup4 ?_
      rw [el] at k
      rw [el]
      exact ⟨p.b, l, p.hi, rfl, _, lc_cut fun h e => ok.le l h el e, rfl, k⟩
    · have em : (qs.map fun p => D.int (cutI p.b p.lo p.hi)) = (qs.map fun p => cutI p.b p.lo p.hi).map D.int := by rw [List.map_map]; rfl
      rw [em]
      refine opt_of (toInts_map _) ?_
      refine kk _ ⟨_, ?_, rfl⟩
      refine Bn.sum (a := 86) (c := 3) (fun x hx => ?_) (by rw [List.length_map]; omega)
      obtain ⟨p, hp, rfl⟩ := List.mem_map.mp hx
      have s := (hq p hp).1
      exact cut_b s.b s.lo s.hi
  rintro _ ⟨n, hn, rfl⟩
  refine seq_post (fun ε => ∃ r2 : Int, Bn 90 r2 ∧ ε = e (V (ptsD qs)) (I r2) (I a) (I z) (V (intsD L)) ra (I u) (I n)) (fun K kk => ?_) ?_
  · intro i i0 i1
    have gu : (-18446744073709551616 < u ∧ u < 18446744073709551616) ∨ (-18446744073709551616 < (i - 30) ∧ (i - 30) < 18446744073709551616) := .inl ⟨by omega, by omega⟩
    refine gd_of gu ?_
    intro j j0 j1
    have gj : (-18446744073709551616 < (u * (i - 30)) ∧ (u * (i - 30)) < 18446744073709551616) ∨ (-18446744073709551616 < j ∧ j < 18446744073709551616) := .inr ⟨by omega, by omega⟩
    refine gd_of gj ?_
    intro k k0 k1
    have ub : Bn 60 u := Bn.nn hu.1 (show u < 1000000000000000001 by omega)
    have ib : Bn 6 (i - 30) := by show (i - 30).natAbs < 64; omega
    have jb : Bn 2 j := by show j.natAbs < 4; omega
    have kb : Bn 2 k := by show k.natAbs < 4; omega
    have m := (ub.mul ib).mul jb
    refine kk _ ⟨n + u * (i - 30) * j + k, ?_, rfl⟩
    have hn2 : n.natAbs < 2 ^ 89 := hn
    have m2 : (u * (i - 30) * j).natAbs < 2 ^ 68 := m
    have k2 : k.natAbs < 4 := kb
    show (n + u * (i - 30) * j + k).natAbs < 2 ^ 90
    have p1 : (2 : Nat) ^ 68 = 295147905179352825856 := by decide
    have p2 : (2 : Nat) ^ 89 = 618970019642690137449562112 := by decide
    have p3 : (2 : Nat) ^ 90 = 1237940039285380274899124224 := by decide
    rw [p2] at hn2
    rw [p1] at m2
    rw [p3]
    generalize u * (i - 30) * j = y at m2
    omega
  rintro _ ⟨r2, hr2, rfl⟩
  have ih2 : InH qs r2 := ⟨fun p hp => (hq p hp).1.ps, fun p hp => (hq p hp).2, hr2, by omega⟩
  let ε := e (V (ptsD qs)) (I r2) (I a) (I z) (V (intsD L)) ra (I u) (I n)
  refine if_no (EvT.or (a := false) (b := false) (EvT.not (a := true) (EvT.truB (b := true) (call_ev3 (ε := ε) (φ := φ_law_all_said) (Ev.var (i := 1) rfl) (Ev.var (i := 3) rfl) (Ev.var (i := 4) rfl) fun K E k => ⟨qs, r2, rfl, ih2.g, k⟩))) (EvT.or (a := false) (b := false) (EvT.not (a := true) (EvT.truB (b := true) (call_ev3 (φ := φ_law_moved) (Ev.var (i := 1) rfl) (Ev.var (i := 3) rfl) (Ev.var (i := 4) rfl) fun K E k => ⟨qs, r2, rfl, ih2, k⟩))) (EvT.not (a := true) (EvT.truB (b := true) (call_ev3 (φ := φ_law_refused) (Ev.var (i := 1) rfl) (Ev.var (i := 3) rfl) (Ev.var (i := 4) rfl) fun K E k => ⟨qs, r2, rfl, ih2, k⟩))))) ?_
  exact kk _ _ _ _ _ _ _ _ ba we lo hi
theorem len_law_still (ds : List D) (Q : D → Prop) (E : Nat → Prop) (h : φ_law_still ds Q E) : ds.length = 1 := by
  obtain ⟨rfl, _⟩ := h
  rfl
def φ_law : Spec := φLaw
abbrev N_law : List Str := ["script", "pool", "turn", "parts", "room", "first", "last", "sizes", "ratio", "unit", "now", "k", "base", "weight", "lo", "hi"]
def r_law (Ξ : Xi) : PTS :=
  (ysSeq (ysAsg (yCall φ_law_stream Ξ (ylCons (yVar 0) ylNil)) 1)
  (ysSeq (ysFor (yiRg1 (ylCons (yC (.int 2)) ylNil)) (gN 2)
  (ysSeq (ysAsgG (yCall φ_law_still Ξ (ylCons (yVar 1) ylNil)) (gTupY 4 [(gN 3), (gN 4), (gN 5), (gN 6)]))
  (ysSeq (ysAsg (yCall φ_law_share Ξ (ylCons (yVar 3) (ylCons (yVar 4) ylNil))) 7)
  (ysSeq (ysFor (yiSeq (yNew (ynLst (ylCons (yTup (ylCons (yVar 5) (ylCons (yC (.int 1)) ylNil))) (ylCons (yTup (ylCons (yVar 6) (ylCons (yC (.int 1)) ylNil))) (ylCons (yCall φ_law_lowest Ξ (ylCons (yBin oAdd (yVar 5) (yVar 6)) (ylCons (yC (.int 2)) ylNil))) (ylCons (yCall φ_law_lowest Ξ (ylCons (yBin oAdd (yBin oMulA (yVar 5) (yC (.int 2))) (yVar 6)) (ylCons (yC (.int 3)) ylNil))) ylNil))))))) (gN 8)
  (ysIf (yNot (yTru (yCall φ_law_is_yes Ξ (ylCons (yCall φ_is_share Ξ (ylCons (yNew (ynCB oListOf (ylCons (yVar 3) ylNil))) (ylCons (yVar 4) (ylCons (yNew (ynCB oListOf (ylCons (yVar 7) ylNil))) (ylCons (yVar 8) ylNil))))) (ylCons (yC (.bl true)) ylNil)))))
  (ysRet (yC (.bl false)))
  ysNext))
  (ysSeq (ysIf (yOr (yNot (yTru (yCall φ_law_all_said Ξ (ylCons (yVar 1) (ylCons (yVar 3) (ylCons (yVar 4) ylNil)))))) (yNot (yTru (yCall φ_law_moved Ξ (ylCons (yVar 1) (ylCons (yVar 3) (ylCons (yVar 4) ylNil)))))))
  (ysRet (yC (.bl false)))
  ysNext)
  (ysSeq (ysAsg (yIx (yNew (ynLst (ylCons (yC (.int 1)) (ylCons (yC (.int 1)) (ylCons (yC (.int 7)) (ylCons (yBin oPow (yC (.int 10)) (yC (.int 18))) ylNil)))))) (yCall φ_law_pick Ξ (ylCons (yVar 1) (ylCons (yC (.int 4)) ylNil)))) 9)
  (ysSeq (ysAsg (yNew (ynLc (yiRg1 (ylCons (yCall φ_law_pick Ξ (ylCons (yVar 1) (ylCons (yC (.int 8)) ylNil))) ylNil)) (gN 11) yYes (yCall φ_law_part Ξ0 (ylCons (yVar 1) (ylCons (yVar 9) ylNil))) [11])) 3)
  (ysSeq (ysAsg (yCB oSum (ylCons (yNew (ynLc (yiSeq (yVar 3)) (gTupY 4 [(gN 12), (gN 13), (gN 14), (gN 15)]) yYes (yCall φ_law_cut Ξ0 (ylCons (yVar 12) (ylCons (yVar 14) (ylCons (yVar 15) ylNil)))) [12, 13, 14, 15])) ylNil)) 10)
  (ysSeq (ysAsg (yBin oAdd (yBin oAdd (yVar 10) (yBin oMulA (yBin oMulA (yVar 9) (yBin oSub (yCall φ_law_pick Ξ (ylCons (yVar 1) (ylCons (yC (.int 60)) ylNil))) (yC (.int 30)))) (yCall φ_law_pick Ξ (ylCons (yVar 1) (ylCons (yC (.int 3)) ylNil))))) (yCall φ_law_pick Ξ (ylCons (yVar 1) (ylCons (yC (.int 3)) ylNil)))) 4)
  (ysIf (yOr (yNot (yTru (yCall φ_law_all_said Ξ (ylCons (yVar 1) (ylCons (yVar 3) (ylCons (yVar 4) ylNil)))))) (yOr (yNot (yTru (yCall φ_law_moved Ξ (ylCons (yVar 1) (ylCons (yVar 3) (ylCons (yVar 4) ylNil)))))) (yNot (yTru (yCall φ_law_refused Ξ (ylCons (yVar 1) (ylCons (yVar 3) (ylCons (yVar 4) ylNil))))))))
  (ysRet (yC (.bl false)))
  ysNext))))))))))
  (ysRet (yC (.bl true)))))
theorem vc_law (ds : List D) (Q' : D → Prop) (E' : Nat → Prop) (h : φ_law ds Q' E') : r_law (fun c _ => E' c) { nx := fun _ => Q' .non, rt := fun d _ => Q' d } (startE N_law ds) := by
  unfold φ_law φLaw at h
  split at h
  · obtain ⟨xs, rfl, hx, h⟩ := h
    let V (x : D) : Option S := some (.v x)
    let X : Option S := none
    let e (tu pa ro fi la si ra un no : Option S) (ba we lo hi : Option D) : PEnv := [V (.frl (xs.map D.int)), V .pool, tu, pa, ro, fi, la, si, ra, un, no, none, ba.map S.v, we.map S.v, lo.map S.v, hi.map S.v]
    refine seq_step (e X X X X X X X X X none none none none) (fun K k => ⟨⟨xs, rfl, hx⟩, k⟩) ?_
    refine seq_post (fun _ => True) (fun K kk => ⟨fun i ε => ∃ tu pa ro fi la si ra un no ba we lo hi, ε = e tu pa ro fi la si ra un no ba we lo hi, ⟨X, X, X, X, X, X, X, X, X, none, none, none, none, rfl⟩, fun i d ε hj hd w => ?_, fun ε w => kk ε trivial⟩) fun ε _ => h
    obtain ⟨tu, pa, ro, fi, la, si, ra, un, no, ba, we, lo, hi, rfl⟩ := w
    obtain ⟨_, ed⟩ := rangeD_get hd
    rw [ed]
    generalize (0 + (i : Int)) = z
    refine gn_of ?_
    exact law_turn fun pa ro fi la si ra un no ba we lo hi => ⟨_, pa, ro, fi, la, si, ra, un, no, ba, we, lo, hi, rfl⟩
  · exact h.elim

end PL.K57

set_option Elab.async false
set_option linter.all false
set_option autoImplicit false
set_option maxRecDepth 100000
set_option maxHeartbeats 2000000
namespace PL.K57
open PySem PySem.Spec PyProof.Rows L2
def topS (i : Nat) : Stmt := PySem.Challenge.pw_pageseen_k57_whole_judge_of_shares.main.body.getD i (.Pass ⟨0, 0, 0, 0⟩)
abbrev s_is_whole : Stmt := topS 7
abbrev s_is_part : Stmt := topS 8
abbrev s_check_parts : Stmt := topS 9
abbrev s_cut : Stmt := topS 10
abbrev s_times : Stmt := topS 11
abbrev s_tops_at : Stmt := topS 12
abbrev s_knots_of : Stmt := topS 13
abbrev s_gain_behind : Stmt := topS 14
abbrev s_lowest : Stmt := topS 15
abbrev s_least_ratio : Stmt := topS 16
abbrev s_mirrored : Stmt := topS 17
abbrev s_ratio_of : Stmt := topS 18
abbrev s_ends_of : Stmt := topS 19
abbrev s_whole_sizes : Stmt := topS 20
abbrev s_sizes_at : Stmt := topS 21
abbrev s_shares : Stmt := topS 22
abbrev s_is_right_ratio : Stmt := topS 23
abbrev s_is_share : Stmt := topS 24
abbrev s_law_pool : Stmt := topS 26
abbrev s_law_stream : Stmt := topS 27
abbrev s_law_pick : Stmt := topS 28
abbrev s_law_part : Stmt := topS 29
abbrev s_law_cut : Stmt := topS 30
abbrev s_law_tops : Stmt := topS 31
abbrev s_law_wholes : Stmt := topS 32
abbrev s_law_share : Stmt := topS 33
abbrev s_law_ends : Stmt := topS 34
abbrev s_law_has : Stmt := topS 35
abbrev s_law_lowest : Stmt := topS 36
abbrev s_law_is_yes : Stmt := topS 37
abbrev s_law_still : Stmt := topS 38
abbrev s_law_papers : Stmt := topS 39
abbrev s_law_spoilt : Stmt := topS 40
abbrev s_law_all_said : Stmt := topS 41
abbrev s_law_moved : Stmt := topS 42
abbrev s_law_outcome : Stmt := topS 43
abbrev s_law_refused : Stmt := topS 44
abbrev s_law : Stmt := topS 45
/-- what the head tells -/
structure Txt (K : PySem.W.Frag) (mg : Str → Option Value) : Prop where
  g_is_whole : mg "is_whole" = some (.ref (He.ga K "is_whole"))
  d_is_whole : ∃ fd, FunD K "is_whole" "is_whole" (defArgs s_is_whole) (defBody s_is_whole) (defScope s_is_whole) [] [] (He.ga K "is_whole") fd
  g_is_part : mg "is_part" = some (.ref (He.ga K "is_part"))
  d_is_part : ∃ fd, FunD K "is_part" "is_part" (defArgs s_is_part) (defBody s_is_part) (defScope s_is_part) [] [] (He.ga K "is_part") fd
  g_check_parts : mg "check_parts" = some (.ref (He.ga K "check_parts"))
  d_check_parts : ∃ fd, FunD K "check_parts" "check_parts" (defArgs s_check_parts) (defBody s_check_parts) (defScope s_check_parts) [] [] (He.ga K "check_parts") fd
  g_cut : mg "cut" = some (.ref (He.ga K "cut"))
  d_cut : ∃ fd, FunD K "cut" "cut" (defArgs s_cut) (defBody s_cut) (defScope s_cut) [] [] (He.ga K "cut") fd
  g_times : mg "times" = some (.ref (He.ga K "times"))
  d_times : ∃ fd, FunD K "times" "times" (defArgs s_times) (defBody s_times) (defScope s_times) [] [] (He.ga K "times") fd
  g_tops_at : mg "tops_at" = some (.ref (He.ga K "tops_at"))
  d_tops_at : ∃ fd, FunD K "tops_at" "tops_at" (defArgs s_tops_at) (defBody s_tops_at) (defScope s_tops_at) [] [] (He.ga K "tops_at") fd
  g_knots_of : mg "knots_of" = some (.ref (He.ga K "knots_of"))
  d_knots_of : ∃ fd, FunD K "knots_of" "knots_of" (defArgs s_knots_of) (defBody s_knots_of) (defScope s_knots_of) [] [] (He.ga K "knots_of") fd
  g_gain_behind : mg "gain_behind" = some (.ref (He.ga K "gain_behind"))
  d_gain_behind : ∃ fd, FunD K "gain_behind" "gain_behind" (defArgs s_gain_behind) (defBody s_gain_behind) (defScope s_gain_behind) [] [] (He.ga K "gain_behind") fd
  g_lowest : mg "lowest" = some (.ref (He.ga K "lowest"))
  d_lowest : ∃ fd, FunD K "lowest" "lowest" (defArgs s_lowest) (defBody s_lowest) (defScope s_lowest) [] [] (He.ga K "lowest") fd
  g_least_ratio : mg "least_ratio" = some (.ref (He.ga K "least_ratio"))
  d_least_ratio : ∃ fd, FunD K "least_ratio" "least_ratio" (defArgs s_least_ratio) (defBody s_least_ratio) (defScope s_least_ratio) [] [] (He.ga K "least_ratio") fd
  g_mirrored : mg "mirrored" = some (.ref (He.ga K "mirrored"))
  d_mirrored : ∃ fd, FunD K "mirrored" "mirrored" (defArgs s_mirrored) (defBody s_mirrored) (defScope s_mirrored) [] [] (He.ga K "mirrored") fd
  g_ratio_of : mg "ratio_of" = some (.ref (He.ga K "ratio_of"))
  d_ratio_of : ∃ fd, FunD K "ratio_of" "ratio_of" (defArgs s_ratio_of) (defBody s_ratio_of) (defScope s_ratio_of) [] [] (He.ga K "ratio_of") fd
  g_ends_of : mg "ends_of" = some (.ref (He.ga K "ends_of"))
  d_ends_of : ∃ fd, FunD K "ends_of" "ends_of" (defArgs s_ends_of) (defBody s_ends_of) (defScope s_ends_of) [] [] (He.ga K "ends_of") fd
  g_whole_sizes : mg "whole_sizes" = some (.ref (He.ga K "whole_sizes"))
  d_whole_sizes : ∃ fd, FunD K "whole_sizes" "whole_sizes" (defArgs s_whole_sizes) (defBody s_whole_sizes) (defScope s_whole_sizes) [] [] (He.ga K "whole_sizes") fd
  g_sizes_at : mg "sizes_at" = some (.ref (He.ga K "sizes_at"))
  d_sizes_at : ∃ fd, FunD K "sizes_at" "sizes_at" (defArgs s_sizes_at) (defBody s_sizes_at) (defScope s_sizes_at) [] [] (He.ga K "sizes_at") fd
  g_shares : mg "shares" = some (.ref (He.ga K "shares"))
  d_shares : ∃ fd, FunD K "shares" "shares" (defArgs s_shares) (defBody s_shares) (defScope s_shares) [] [] (He.ga K "shares") fd
  g_is_right_ratio : mg "is_right_ratio" = some (.ref (He.ga K "is_right_ratio"))
  d_is_right_ratio : ∃ fd, FunD K "is_right_ratio" "is_right_ratio" (defArgs s_is_right_ratio) (defBody s_is_right_ratio) (defScope s_is_right_ratio) [] [] (He.ga K "is_right_ratio") fd
  g_is_share : mg "is_share" = some (.ref (He.ga K "is_share"))
  d_is_share : ∃ fd, FunD K "is_share" "is_share" (defArgs s_is_share) (defBody s_is_share) (defScope s_is_share) [] [] (He.ga K "is_share") fd
  g_law_pool : mg "_law_pool" = some (.ref (He.ga K "_law_pool"))
  d_law_pool : ∃ fd, FunD K "_law_pool" "_law_pool" (defArgs s_law_pool) (defBody s_law_pool) (defScope s_law_pool) [] [] (He.ga K "_law_pool") fd
  g_law_stream : mg "_law_stream" = some (.ref (He.ga K "_law_stream"))
  d_law_stream : ∃ fd, FunD K "_law_stream" "_law_stream" (defArgs s_law_stream) (defBody s_law_stream) (defScope s_law_stream) [] [] (He.ga K "_law_stream") fd
  g_law_pick : mg "_law_pick" = some (.ref (He.ga K "_law_pick"))
  d_law_pick : ∃ fd, FunD K "_law_pick" "_law_pick" (defArgs s_law_pick) (defBody s_law_pick) (defScope s_law_pick) [] [] (He.ga K "_law_pick") fd
  g_law_part : mg "_law_part" = some (.ref (He.ga K "_law_part"))
  d_law_part : ∃ fd, FunD K "_law_part" "_law_part" (defArgs s_law_part) (defBody s_law_part) (defScope s_law_part) [] [] (He.ga K "_law_part") fd
  g_law_cut : mg "_law_cut" = some (.ref (He.ga K "_law_cut"))
  d_law_cut : ∃ fd, FunD K "_law_cut" "_law_cut" (defArgs s_law_cut) (defBody s_law_cut) (defScope s_law_cut) [] [] (He.ga K "_law_cut") fd
  g_law_tops : mg "_law_tops" = some (.ref (He.ga K "_law_tops"))
  d_law_tops : ∃ fd, FunD K "_law_tops" "_law_tops" (defArgs s_law_tops) (defBody s_law_tops) (defScope s_law_tops) [] [] (He.ga K "_law_tops") fd
  g_law_wholes : mg "_law_wholes" = some (.ref (He.ga K "_law_wholes"))
  d_law_wholes : ∃ fd, FunD K "_law_wholes" "_law_wholes" (defArgs s_law_wholes) (defBody s_law_wholes) (defScope s_law_wholes) [] [] (He.ga K "_law_wholes") fd
  g_law_share : mg "_law_share" = some (.ref (He.ga K "_law_share"))
  d_law_share : ∃ fd, FunD K "_law_share" "_law_share" (defArgs s_law_share) (defBody s_law_share) (defScope s_law_share) [] [] (He.ga K "_law_share") fd
  g_law_ends : mg "_law_ends" = some (.ref (He.ga K "_law_ends"))
  d_law_ends : ∃ fd, FunD K "_law_ends" "_law_ends" (defArgs s_law_ends) (defBody s_law_ends) (defScope s_law_ends) [] [] (He.ga K "_law_ends") fd
  g_law_has : mg "_law_has" = some (.ref (He.ga K "_law_has"))
  d_law_has : ∃ fd, FunD K "_law_has" "_law_has" (defArgs s_law_has) (defBody s_law_has) (defScope s_law_has) [] [] (He.ga K "_law_has") fd
  g_law_lowest : mg "_law_lowest" = some (.ref (He.ga K "_law_lowest"))
  d_law_lowest : ∃ fd, FunD K "_law_lowest" "_law_lowest" (defArgs s_law_lowest) (defBody s_law_lowest) (defScope s_law_lowest) [] [] (He.ga K "_law_lowest") fd
  g_law_is_yes : mg "_law_is_yes" = some (.ref (He.ga K "_law_is_yes"))
  d_law_is_yes : ∃ fd, FunD K "_law_is_yes" "_law_is_yes" (defArgs s_law_is_yes) (defBody s_law_is_yes) (defScope s_law_is_yes) [] [] (He.ga K "_law_is_yes") fd
  g_law_still : mg "_law_still" = some (.ref (He.ga K "_law_still"))
  d_law_still : ∃ fd, FunD K "_law_still" "_law_still" (defArgs s_law_still) (defBody s_law_still) (defScope s_law_still) [] [] (He.ga K "_law_still") fd
  g_law_papers : mg "_law_papers" = some (.ref (He.ga K "_law_papers"))
  d_law_papers : ∃ fd, FunD K "_law_papers" "_law_papers" (defArgs s_law_papers) (defBody s_law_papers) (defScope s_law_papers) [] [] (He.ga K "_law_papers") fd
  g_law_spoilt : mg "_law_spoilt" = some (.ref (He.ga K "_law_spoilt"))
  d_law_spoilt : ∃ fd, FunD K "_law_spoilt" "_law_spoilt" (defArgs s_law_spoilt) (defBody s_law_spoilt) (defScope s_law_spoilt) [] [] (He.ga K "_law_spoilt") fd
  g_law_all_said : mg "_law_all_said" = some (.ref (He.ga K "_law_all_said"))
  d_law_all_said : ∃ fd, FunD K "_law_all_said" "_law_all_said" (defArgs s_law_all_said) (defBody s_law_all_said) (defScope s_law_all_said) [] [] (He.ga K "_law_all_said") fd
  g_law_moved : mg "_law_moved" = some (.ref (He.ga K "_law_moved"))
  d_law_moved : ∃ fd, FunD K "_law_moved" "_law_moved" (defArgs s_law_moved) (defBody s_law_moved) (defScope s_law_moved) [] [] (He.ga K "_law_moved") fd
  g_law_outcome : mg "_law_outcome" = some (.ref (He.ga K "_law_outcome"))
  d_law_outcome : ∃ fd, FunD K "_law_outcome" "_law_outcome" (defArgs s_law_outcome) (defBody s_law_outcome) (defScope s_law_outcome) [] [] (He.ga K "_law_outcome") fd
  g_law_refused : mg "_law_refused" = some (.ref (He.ga K "_law_refused"))
  d_law_refused : ∃ fd, FunD K "_law_refused" "_law_refused" (defArgs s_law_refused) (defBody s_law_refused) (defScope s_law_refused) [] [] (He.ga K "_law_refused") fd
  g_law : mg "law" = some (.ref (He.ga K "law"))
  d_law : ∃ fd, FunD K "law" "law" (defArgs s_law) (defBody s_law) (defScope s_law) [] [] (He.ga K "law") fd
  n_abs : mg "abs" = none
  n_all : mg "all" = none
  n_any : mg "any" = none
  n_bool : mg "bool" = none
  n_int : mg "int" = none
  n_isinstance : mg "isinstance" = none
  n_len : mg "len" = none
  n_list : mg "list" = none
  n_max : mg "max" = none
  n_range : mg "range" = none
  n_reversed : mg "reversed" = none
  n_str : mg "str" = none
  n_sum : mg "sum" = none
  n_tuple : mg "tuple" = none
  c_MOST_PARTS : GlI mg "MOST_PARTS" 200
  b_gcd : mg "gcd" = some (.builtin "math.gcd")
  g_PageError : mg "PageError" = some (.ref (He.ga K "PageError"))
  g_BadList : mg "BadList" = some (.ref (He.ga K "BadList"))
  g_BadParts : mg "BadParts" = some (.ref (He.ga K "BadParts"))
  x_PageError : PySem.W.excIn K (He.ga K "PageError") exBase "Exception.__new__" = true
  k_PageError : PySem.W.keepIn K (.ref (He.ga K "PageError")) = true
  s_PageError : PySem.W.subIn K (.ref (He.ga K "PageError")) (.type "BaseException") = some true
  t_PageError : PySem.W.typeIn K (.ref (He.ga K "PageError")) = some (.type "type")
  x_BadList : PySem.W.excIn K (He.ga K "BadList") exBase "Exception.__new__" = true
  k_BadList : PySem.W.keepIn K (.ref (He.ga K "BadList")) = true
  s_BadList : PySem.W.subIn K (.ref (He.ga K "BadList")) (.type "BaseException") = some true
  t_BadList : PySem.W.typeIn K (.ref (He.ga K "BadList")) = some (.type "type")
  x_BadParts : PySem.W.excIn K (He.ga K "BadParts") exBase "Exception.__new__" = true
  k_BadParts : PySem.W.keepIn K (.ref (He.ga K "BadParts")) = true
  s_BadParts : PySem.W.subIn K (.ref (He.ga K "BadParts")) (.type "BaseException") = some true
  t_BadParts : PySem.W.typeIn K (.ref (He.ga K "BadParts")) = some (.type "type")
  xk : ExK K exCs

section
variable {P : Program} {w : World} {K : PySem.W.Frag} {mg : Str → Option Value} {base : Heap}
abbrev N_law_pick : List Str := ["pool", "many", "place"]
abbrev P_law_pick : List Str := ["pool", "many"]
theorem sc_law_pick : FnScope N_law_pick P_law_pick (defScope s_law_pick) := ⟨rfl, rfl, rfl, by decide +kernel, rfl, by decide +kernel, by decide +kernel⟩
theorem ok_law_pick (T : Txt K mg) : CallOk P w K mg base 1 "_law_pick" P_law_pick φ_law_pick := by
  obtain ⟨fd, F⟩ := T.d_law_pick
  refine ⟨⟨fd, pick_close (F.ok sc_law_pick (fun vs H Q E h => ?_) (fun cdv A outer s H vs Q E hr h => ?_)), funLook F, F.bindsA fun _ _ _ _ _ _ us hl => match us, hl with | [_, _], _ => rfl⟩, F.kp, T.g_law_pick⟩
  · obtain ⟨p, n, ns, rfl, _⟩ := h
    rfl
  · refine ⟨_, PSs.nox (pss_cons (ps_set (i := 2) sc_law_pick.nd rfl (Or.inl rfl) (pe_ix ix_list (pv 0) pe_int (fun _ _ => rfl)))
      (pss_cons (ps_asg (pe_op op_add (pv 2) pe_int) (pg_sub (pv 0) pe_int set_list))
      (pss_cons (ps_if (pt_cmpR op_eq (pe_ix ix_list (pv 0) pe_int (fun _ _ => rfl)) (pe_callB call_len rfl T.n_len PySem.boot_len (pa_cons (pv 0) pa_nil)) (nomark _))
        (pss_one (ps_asg pe_int (pg_sub (pv 0) pe_int set_list))) pss_nil)
      (pss_one (ps_ret (pe_op op_mod (pe_callTy call_int1 rfl T.n_int boot_int (pa_cons (pe_ix ix_list (pv 0) (pv 2) (fun _ _ => rfl)) pa_nil)) (pv 1))))))), ?_⟩
    exact pick_pure h

abbrev P_is_whole : List Str := ["value"]
theorem sc_is_whole : FnScope N_is_whole P_is_whole (defScope s_is_whole) := ⟨rfl, rfl, rfl, by decide +kernel, rfl, by decide +kernel, by decide +kernel⟩
theorem ok_is_whole (T : Txt K mg) (vc : ∀ (ds : List D) (Q' : D → Prop) (E' : Nat → Prop), φ_is_whole ds Q' E' → r_is_whole (fun c _ => E' c) { nx := fun _ => Q' .non, rt := fun d _ => Q' d } (startE N_is_whole ds)) (len : ∀ ds Q E, φ_is_whole ds Q E → ds.length = 1) :
    CallOk P w K mg base 1 "is_whole" P_is_whole φ_is_whole := by
  obtain ⟨fd, F⟩ := T.d_is_whole
  refine ⟨⟨fd, fun_ok F sc_is_whole len r_is_whole (fun cdv A outer s H E Ξ hr => ?_) vc, funLook F, F.bindsA fun _ _ _ _ _ _ us hl => match us, hl with | [_], _ => rfl⟩, F.kp, T.g_is_whole⟩
  exact (yss_one (ys_ret (ye_and (ye_isA .int (ye_var 0) (peTy T.n_int boot_int) (by rfl) T.n_isinstance) (ye_one (ye_not (ye_isA .bool (ye_var 0) (peTy T.n_bool boot_bool) (by rfl) T.n_isinstance))))))
abbrev P_is_part : List Str := ["value"]
theorem sc_is_part : FnScope N_is_part P_is_part (defScope s_is_part) := ⟨rfl, rfl, rfl, by decide +kernel, rfl, by decide +kernel, by decide +kernel⟩
theorem ok_is_part (T : Txt K mg) (C_is_whole : CallOk P w K mg base 1 "is_whole" P_is_whole φ_is_whole) (vc : ∀ (ds : List D) (Q' : D → Prop) (E' : Nat → Prop), φ_is_part ds Q' E' → r_is_part (fun c _ => E' c) { nx := fun _ => Q' .non, rt := fun d _ => Q' d } (startE N_is_part ds)) (len : ∀ ds Q E, φ_is_part ds Q E → ds.length = 1) :
    CallOk P w K mg base 2 "is_part" P_is_part φ_is_part := by
  obtain ⟨fd, F⟩ := T.d_is_part
  refine ⟨⟨fd, fun_ok F sc_is_part len r_is_part (fun cdv A outer s H E Ξ hr => ?_) vc, funLook F, F.bindsA fun _ _ _ _ _ _ us hl => match us, hl with | [_], _ => rfl⟩, F.kp, T.g_is_part⟩
  exact (yss_cons (ys_if (YW.yt (yw_or (yt_not (yt_tru (ye_isA .tuple (ye_var 0) (peTy T.n_tuple boot_tuple) (by rfl) T.n_isinstance))) (yw_or1 (yt_cmp (oy_ne hr.units) (ye_callB cy_len (by rfl) T.n_len PySem.boot_len (yl_cons (ye_var 0) yl_nil)) ye_int))))
  (yss_one (ys_ret ye_bl))
  yss_nil)
  (yss_cons (ys_asg (ye_var 0) (yg_tup rfl (ygs_cons (ygN 1 sc_is_part.nd) (ygs_cons (ygN 2 sc_is_part.nd) (ygs_cons (ygN 3 sc_is_part.nd) (ygs_cons (ygN 4 sc_is_part.nd) ygs_nil))))))
  (yss_cons (ys_if (YW.yt (yw_or (yt_not (yt_tru (yeCall C_is_whole (takes_of rfl rfl rfl rfl) (hr.mono (by decide)) (yl_cons (ye_var 1) yl_nil)))) (yw_or (yt_not (yt_tru (yeCall C_is_whole (takes_of rfl rfl rfl rfl) (hr.mono (by decide)) (yl_cons (ye_var 2) yl_nil)))) (yw_or (yt_not (yt_tru (yeCall C_is_whole (takes_of rfl rfl rfl rfl) (hr.mono (by decide)) (yl_cons (ye_var 3) yl_nil)))) (yw_or1 (yt_cmp oy_lt (ye_var 2) ye_int))))))
  (yss_one (ys_ret ye_bl))
  yss_nil)
  (yss_one (ys_ret (ye_or (ye_cmp oy_isN (ye_var 4) ye_non) (ye_one (ye_and (yeCall C_is_whole (takes_of rfl rfl rfl rfl) (hr.mono (by decide)) (yl_cons (ye_var 4) yl_nil)) (ye_one (ye_cmp oy_leA (ye_var 3) (ye_var 4)))))))))))
abbrev P_check_parts : List Str := ["parts", "room"]
theorem sc_check_parts : FnScope N_check_parts P_check_parts (defScope s_check_parts) := ⟨rfl, rfl, rfl, by decide +kernel, rfl, by decide +kernel, by decide +kernel⟩
theorem ok_check_parts (T : Txt K mg) (C_is_whole : CallOk P w K mg base 1 "is_whole" P_is_whole φ_is_whole) (C_is_part : CallOk P w K mg base 2 "is_part" P_is_part φ_is_part) (vc : ∀ (ds : List D) (Q' : D → Prop) (E' : Nat → Prop), φ_check_parts ds Q' E' → r_check_parts (fun c _ => E' c) { nx := fun _ => Q' .non, rt := fun d _ => Q' d } (startE N_check_parts ds)) (len : ∀ ds Q E, φ_check_parts ds Q E → ds.length = 2) :
    CallOk P w K mg base 3 "check_parts" P_check_parts φ_check_parts := by
  obtain ⟨fd, F⟩ := T.d_check_parts
  refine ⟨⟨fd, fun_ok F sc_check_parts len r_check_parts (fun cdv A outer s H E Ξ hr => ?_) vc, funLook F, F.bindsA fun _ _ _ _ _ _ us hl => match us, hl with | [_, _], _ => rfl⟩, F.kp, T.g_check_parts⟩
  exact (yss_cons (ys_if (YW.yt (yw_or (yt_not (yt_tru (ye_isA .list (ye_var 0) (peTy T.n_list boot_list) (by rfl) T.n_isinstance))) (yw_or (yt_cmp oy_gt (ye_callB cy_len (by rfl) T.n_len PySem.boot_len (yl_cons (ye_var 0) yl_nil)) (yeGlI T.c_MOST_PARTS)) (yw_or1 (yt_not (yt_tru (yeCall C_is_whole (takes_of rfl rfl rfl rfl) (hr.mono (by decide)) (yl_cons (ye_var 1) yl_nil))))))))
  (yss_one (ys_raise 12 rfl (takes_of rfl rfl rfl rfl) PySem.F.excBase_Exception T.x_BadParts T.g_BadParts T.k_BadParts (raises_own T.s_BadParts T.t_BadParts) rfl (by rfl)))
  yss_nil)
  (yss_one (ys_if (yt_not (yt_tru (ye_callB (cy_all rfl) (by rfl) T.n_all boot_all (yl_cons (yn_lc (own := [(("part" : Str), 2)]) rfl sc_check_parts.nd (yi_seq (ye_var 0)) (blkOk_by (by rfl)) (fun _ _ _ _ _ => (ygN 2 sc_check_parts.nd)) (fun _ _ _ _ _ => yts_nil) (fun _ _ _ _ _ => (yeCall C_is_part takes0 (hr.mono (by decide)) (yl_cons (ye_var 2) yl_nil)))).ye yl_nil))))
  (yss_one (ys_raise 12 rfl (takes_of rfl rfl rfl rfl) PySem.F.excBase_Exception T.x_BadParts T.g_BadParts T.k_BadParts (raises_own T.s_BadParts T.t_BadParts) rfl (by rfl)))
  yss_nil)))
abbrev P_cut : List Str := ["number", "lo", "hi"]
theorem sc_cut : FnScope N_cut P_cut (defScope s_cut) := ⟨rfl, rfl, rfl, by decide +kernel, rfl, by decide +kernel, by decide +kernel⟩
theorem ok_cut (T : Txt K mg) (vc : ∀ (ds : List D) (Q' : D → Prop) (E' : Nat → Prop), φ_cut ds Q' E' → r_cut (fun c _ => E' c) { nx := fun _ => Q' .non, rt := fun d _ => Q' d } (startE N_cut ds)) (len : ∀ ds Q E, φ_cut ds Q E → ds.length = 3) :
    CallOk P w K mg base 1 "cut" P_cut φ_cut := by
  obtain ⟨fd, F⟩ := T.d_cut
  refine ⟨⟨fd, fun_ok F sc_cut len r_cut (fun cdv A outer s H E Ξ hr => ?_) vc, funLook F, F.bindsA fun _ _ _ _ _ _ us hl => match us, hl with | [_, _, _], _ => rfl⟩, F.kp, T.g_cut⟩
  exact (yss_cons (ys_if (YW.yt (yw_and (yt_cmp oy_notN (ye_var 2) ye_non) (yw_and1 (yt_cmp oy_gt (ye_var 0) (ye_var 2)))))
  (yss_one (ysSet 0 sc_cut.nd (ye_var 2)))
  yss_nil)
  (yss_cons (ys_if (YW.yt (yw_and (yt_cmp oy_notN (ye_var 1) ye_non) (yw_and1 (yt_cmp oy_lt (ye_var 0) (ye_var 1)))))
  (yss_one (ysSet 0 sc_cut.nd (ye_var 1)))
  yss_nil)
  (yss_one (ys_ret (ye_var 0)))))
abbrev P_times : List Str := ["number", "many"]
theorem sc_times : FnScope N_times P_times (defScope s_times) := ⟨rfl, rfl, rfl, by decide +kernel, rfl, by decide +kernel, by decide +kernel⟩
theorem ok_times (T : Txt K mg) (vc : ∀ (ds : List D) (Q' : D → Prop) (E' : Nat → Prop), φ_times ds Q' E' → r_times (fun c _ => E' c) { nx := fun _ => Q' .non, rt := fun d _ => Q' d } (startE N_times ds)) (len : ∀ ds Q E, φ_times ds Q E → ds.length = 2) :
    CallOk P w K mg base 1 "times" P_times φ_times := by
  obtain ⟨fd, F⟩ := T.d_times
  refine ⟨⟨fd, fun_ok F sc_times len r_times (fun cdv A outer s H E Ξ hr => ?_) vc, funLook F, F.bindsA fun _ _ _ _ _ _ us hl => match us, hl with | [_, _], _ => rfl⟩, F.kp, T.g_times⟩
  exact (yss_one (ys_ret (ye_if (yt_cmp oy_isN (ye_var 0) ye_non) ye_non (ye_bin oy_mulW (ye_var 0) (ye_var 1)))))
abbrev P_tops_at : List Str := ["parts", "top", "low"]
theorem sc_tops_at : FnScope N_tops_at P_tops_at (defScope s_tops_at) := ⟨rfl, rfl, rfl, by decide +kernel, rfl, by decide +kernel, by decide +kernel⟩
theorem ok_tops_at (T : Txt K mg) (C_cut : CallOk P w K mg base 1 "cut" P_cut φ_cut) (C_times : CallOk P w K mg base 1 "times" P_times φ_times) (vc : ∀ (ds : List D) (Q' : D → Prop) (E' : Nat → Prop), φ_tops_at ds Q' E' → r_tops_at (fun c _ => E' c) { nx := fun _ => Q' .non, rt := fun d _ => Q' d } (startE N_tops_at ds)) (len : ∀ ds Q E, φ_tops_at ds Q E → ds.length = 3) :
    CallOk P w K mg base 2 "tops_at" P_tops_at φ_tops_at := by
  obtain ⟨fd, F⟩ := T.d_tops_at
  refine ⟨⟨fd, fun_ok F sc_tops_at len r_tops_at (fun cdv A outer s H E Ξ hr => ?_) vc, funLook F, F.bindsA fun _ _ _ _ _ _ us hl => match us, hl with | [_, _, _], _ => rfl⟩, F.kp, T.g_tops_at⟩
  exact (yss_cons (ysSetO 3 sc_tops_at.nd (yn_lst yl_nil))
  (yss_cons (ys_for (passes_of rfl) rfl (yi_seq (ye_var 0)) (yg_tup rfl (ygs_cons (ygN 4 sc_tops_at.nd) (ygs_cons (ygN 5 sc_tops_at.nd) (ygs_cons (ygN 6 sc_tops_at.nd) (ygs_cons (ygN 7 sc_tops_at.nd) ygs_nil)))))
  (yss_one (ysApp' 3 (yeCall C_cut (takes_of rfl rfl rfl rfl) (hr.mono (by decide)) (yl_cons (ye_bin oy_add (ye_bin oy_mulW (ye_var 4) (ye_var 2)) (ye_bin oy_mulW (ye_var 5) (ye_var 1))) (yl_cons (yeCall C_times (takes_of rfl rfl rfl rfl) (hr.mono (by decide)) (yl_cons (ye_var 6) (yl_cons (ye_var 2) yl_nil))) (yl_cons (yeCall C_times (takes_of rfl rfl rfl rfl) (hr.mono (by decide)) (yl_cons (ye_var 7) (yl_cons (ye_var 2) yl_nil))) yl_nil)))))))
  (yss_one (ys_ret (ye_var 3)))))
abbrev P_knots_of : List Str := ["parts"]
theorem sc_knots_of : FnScope N_knots_of P_knots_of (defScope s_knots_of) := ⟨rfl, rfl, rfl, by decide +kernel, rfl, by decide +kernel, by decide +kernel⟩
theorem ok_knots_of (T : Txt K mg) (vc : ∀ (ds : List D) (Q' : D → Prop) (E' : Nat → Prop), φ_knots_of ds Q' E' → r_knots_of (fun c _ => E' c) { nx := fun _ => Q' .non, rt := fun d _ => Q' d } (startE N_knots_of ds)) (len : ∀ ds Q E, φ_knots_of ds Q E → ds.length = 1) :
    CallOk P w K mg base 1 "knots_of" P_knots_of φ_knots_of := by
  obtain ⟨fd, F⟩ := T.d_knots_of
  refine ⟨⟨fd, fun_ok F sc_knots_of len r_knots_of (fun cdv A outer s H E Ξ hr => ?_) vc, funLook F, F.bindsA fun _ _ _ _ _ _ us hl => match us, hl with | [_], _ => rfl⟩, F.kp, T.g_knots_of⟩
  exact (yss_cons (ysSetO 1 sc_knots_of.nd (yn_lst yl_nil))
  (yss_cons (ys_for (passes_of rfl) rfl (yi_seq (ye_var 0)) (yg_tup rfl (ygs_cons (ygN 2 sc_knots_of.nd) (ygs_cons (ygN 3 sc_knots_of.nd) (ygs_cons (ygN 4 sc_knots_of.nd) (ygs_cons (ygN 5 sc_knots_of.nd) ygs_nil)))))
  (yss_one (ys_for (passes_of rfl) rfl (yi_seq (ye_tup (yl_cons (ye_var 4) (yl_cons (ye_var 5) yl_nil)))) (ygN 6 sc_knots_of.nd)
  (yss_one (ys_if (YW.yt (yw_and (yt_cmp oy_gt (ye_var 3) ye_int) (yw_and (yt_cmp oy_notN (ye_var 6) ye_non) (yw_and1 (yt_cmp oy_gt (ye_var 6) (ye_var 2))))))
  (yss_one (ysApp' 1 (ye_tup (yl_cons (ye_bin oy_sub (ye_var 6) (ye_var 2)) (yl_cons (ye_var 3) yl_nil)))))
  yss_nil)))))
  (yss_one (ys_ret (ye_var 1)))))
abbrev P_gain_behind : List Str := ["parts", "top", "low"]
theorem sc_gain_behind : FnScope N_gain_behind P_gain_behind (defScope s_gain_behind) := ⟨rfl, rfl, rfl, by decide +kernel, rfl, by decide +kernel, by decide +kernel⟩
theorem ok_gain_behind (T : Txt K mg) (vc : ∀ (ds : List D) (Q' : D → Prop) (E' : Nat → Prop), φ_gain_behind ds Q' E' → r_gain_behind (fun c _ => E' c) { nx := fun _ => Q' .non, rt := fun d _ => Q' d } (startE N_gain_behind ds)) (len : ∀ ds Q E, φ_gain_behind ds Q E → ds.length = 3) :
    CallOk P w K mg base 1 "gain_behind" P_gain_behind φ_gain_behind := by
  obtain ⟨fd, F⟩ := T.d_gain_behind
  refine ⟨⟨fd, fun_ok F sc_gain_behind len r_gain_behind (fun cdv A outer s H E Ξ hr => ?_) vc, funLook F, F.bindsA fun _ _ _ _ _ _ us hl => match us, hl with | [_, _, _], _ => rfl⟩, F.kp, T.g_gain_behind⟩
  exact (yss_cons (ysSet 3 sc_gain_behind.nd ye_int)
  (yss_cons (ys_for (passes_of rfl) rfl (yi_seq (ye_var 0)) (yg_tup rfl (ygs_cons (ygN 4 sc_gain_behind.nd) (ygs_cons (ygN 5 sc_gain_behind.nd) (ygs_cons (ygN 6 sc_gain_behind.nd) (ygs_cons (ygN 7 sc_gain_behind.nd) ygs_nil)))))
  (yss_cons (ysSet 8 sc_gain_behind.nd (ye_bin oy_add (ye_bin oy_mulW (ye_var 4) (ye_var 2)) (ye_bin oy_mulW (ye_var 5) (ye_var 1))))
  (yss_one (ys_if (YW.yt (yw_and (YW.yt (yw_or (yt_cmp oy_isN (ye_var 6) ye_non) (yw_or1 (yt_cmp oy_ge (ye_var 8) (ye_bin oy_mulW (ye_var 6) (ye_var 2)))))) (yw_and1 (YW.yt (yw_or (yt_cmp oy_isN (ye_var 7) ye_non) (yw_or1 (yt_cmp oy_lt (ye_var 8) (ye_bin oy_mulW (ye_var 7) (ye_var 2)))))))))
  (yss_one (ysSet 3 sc_gain_behind.nd (ye_bin oy_add (ye_var 3) (ye_var 5))))
  yss_nil))))
  (yss_one (ys_ret (ye_var 3)))))
abbrev P_lowest : List Str := ["top", "low"]
theorem sc_lowest : FnScope N_lowest P_lowest (defScope s_lowest) := ⟨rfl, rfl, rfl, by decide +kernel, rfl, by decide +kernel, by decide +kernel⟩
theorem ok_lowest (T : Txt K mg) (vc : ∀ (ds : List D) (Q' : D → Prop) (E' : Nat → Prop), φ_lowest ds Q' E' → r_lowest (fun c _ => E' c) { nx := fun _ => Q' .non, rt := fun d _ => Q' d } (startE N_lowest ds)) (len : ∀ ds Q E, φ_lowest ds Q E → ds.length = 2) :
    CallOk P w K mg base 1 "lowest" P_lowest φ_lowest := by
  obtain ⟨fd, F⟩ := T.d_lowest
  refine ⟨⟨fd, fun_ok F sc_lowest len r_lowest (fun cdv A outer s H E Ξ hr => ?_) vc, funLook F, F.bindsA fun _ _ _ _ _ _ us hl => match us, hl with | [_, _], _ => rfl⟩, F.kp, T.g_lowest⟩
  exact (yss_cons (ysSet 2 sc_lowest.nd (ye_callBf cy_gcd (by rfl) T.b_gcd (yl_cons (ye_var 0) (yl_cons (ye_var 1) yl_nil))))
  (yss_one (ys_ret (ye_tup (yl_cons (ye_bin oy_fdivW (ye_var 0) (ye_var 2)) (yl_cons (ye_bin oy_fdivW (ye_var 1) (ye_var 2)) yl_nil))))))
abbrev P_least_ratio : List Str := ["parts", "room"]
theorem sc_least_ratio : FnScope N_least_ratio P_least_ratio (defScope s_least_ratio) := ⟨rfl, rfl, rfl, by decide +kernel, rfl, by decide +kernel, by decide +kernel⟩
theorem ok_least_ratio (T : Txt K mg) (C_knots_of : CallOk P w K mg base 1 "knots_of" P_knots_of φ_knots_of) (C_tops_at : CallOk P w K mg base 2 "tops_at" P_tops_at φ_tops_at) (C_gain_behind : CallOk P w K mg base 1 "gain_behind" P_gain_behind φ_gain_behind) (C_lowest : CallOk P w K mg base 1 "lowest" P_lowest φ_lowest) (vc : ∀ (ds : List D) (Q' : D → Prop) (E' : Nat → Prop), φ_least_ratio ds Q' E' → r_least_ratio (fun c _ => E' c) { nx := fun _ => Q' .non, rt := fun d _ => Q' d } (startE N_least_ratio ds)) (len : ∀ ds Q E, φ_least_ratio ds Q E → ds.length = 2) :
    CallOk P w K mg base 3 "least_ratio" P_least_ratio φ_least_ratio := by
  obtain ⟨fd, F⟩ := T.d_least_ratio
  refine ⟨⟨fd, fun_ok F sc_least_ratio len r_least_ratio (fun cdv A outer s H E Ξ hr => ?_) vc, funLook F, F.bindsA fun _ _ _ _ _ _ us hl => match us, hl with | [_, _], _ => rfl⟩, F.kp, T.g_least_ratio⟩
  exact (yss_cons (ys_asg (ye_tup (yl_cons ye_int (yl_cons ye_int yl_nil))) (yg_tup rfl (ygs_cons (ygN 2 sc_least_ratio.nd) (ygs_cons (ygN 3 sc_least_ratio.nd) ygs_nil))))
  (yss_cons (ys_for (passes_of rfl) rfl (yi_seq (yeCall C_knots_of (takes_of rfl rfl rfl rfl) (hr.mono (by decide)) (yl_cons (ye_var 0) yl_nil))) (yg_tup rfl (ygs_cons (ygN 4 sc_least_ratio.nd) (ygs_cons (ygN 5 sc_least_ratio.nd) ygs_nil)))
  (yss_one (ys_if (YW.yt (yw_and (yt_cmp oy_gt (ye_bin oy_mulW (ye_var 4) (ye_var 3)) (ye_bin oy_mulW (ye_var 2) (ye_var 5))) (yw_and1 (yt_cmp oy_lt (ye_callB (cy_sum rfl) (by rfl) T.n_sum boot_sum (yl_cons (yeCall C_tops_at (takes_of rfl rfl rfl rfl) (hr.mono (by decide)) (yl_cons (ye_var 0) (yl_cons (ye_var 4) (yl_cons (ye_var 5) yl_nil)))) yl_nil)) (ye_bin oy_mulW (ye_var 1) (ye_var 5))))))
  (yss_one (ys_par 2 3 rfl sc_least_ratio.nd (by rfl) (by rfl) (by decide) rfl rfl (yx_e (ye_var 4)) (yx_e (ye_var 5))))
  yss_nil)))
  (yss_cons (ysSet 6 sc_least_ratio.nd (yeCall C_gain_behind (takes_of rfl rfl rfl rfl) (hr.mono (by decide)) (yl_cons (ye_var 0) (yl_cons (ye_var 2) (yl_cons (ye_var 3) yl_nil)))))
  (yss_cons (ys_if (yt_cmp (oy_eq hr.units) (ye_var 6) ye_int)
  (yss_one (ys_ret ye_non))
  yss_nil)
  (yss_one (ys_ret (yeCall C_lowest (takes_of rfl rfl rfl rfl) (hr.mono (by decide)) (yl_cons (ye_bin oy_sub (ye_bin oy_add (ye_bin oy_mulW (ye_var 2) (ye_var 6)) (ye_bin oy_mulW (ye_var 1) (ye_var 3))) (ye_callB (cy_sum rfl) (by rfl) T.n_sum boot_sum (yl_cons (yeCall C_tops_at (takes_of rfl rfl rfl rfl) (hr.mono (by decide)) (yl_cons (ye_var 0) (yl_cons (ye_var 2) (yl_cons (ye_var 3) yl_nil)))) yl_nil))) (yl_cons (ye_bin oy_mulW (ye_var 3) (ye_var 6)) yl_nil)))))))))
abbrev P_mirrored : List Str := ["parts"]
theorem sc_mirrored : FnScope N_mirrored P_mirrored (defScope s_mirrored) := ⟨rfl, rfl, rfl, by decide +kernel, rfl, by decide +kernel, by decide +kernel⟩
theorem ok_mirrored (T : Txt K mg) (C_times : CallOk P w K mg base 1 "times" P_times φ_times) (vc : ∀ (ds : List D) (Q' : D → Prop) (E' : Nat → Prop), φ_mirrored ds Q' E' → r_mirrored (fun c _ => E' c) { nx := fun _ => Q' .non, rt := fun d _ => Q' d } (startE N_mirrored ds)) (len : ∀ ds Q E, φ_mirrored ds Q E → ds.length = 1) :
    CallOk P w K mg base 2 "mirrored" P_mirrored φ_mirrored := by
  obtain ⟨fd, F⟩ := T.d_mirrored
  refine ⟨⟨fd, fun_ok F sc_mirrored len r_mirrored (fun cdv A outer s H E Ξ hr => ?_) vc, funLook F, F.bindsA fun _ _ _ _ _ _ us hl => match us, hl with | [_], _ => rfl⟩, F.kp, T.g_mirrored⟩
  exact (yss_one (ys_ret (yn_lc (own := [(("base" : Str), 1), (("weight" : Str), 2), (("lo" : Str), 3), (("hi" : Str), 4)]) rfl sc_mirrored.nd (yi_seq (ye_var 0)) (blkOk_by (by rfl)) (fun _ _ _ _ _ => (yg_tup rfl (ygs_cons (ygN 1 sc_mirrored.nd) (ygs_cons (ygN 2 sc_mirrored.nd) (ygs_cons (ygN 3 sc_mirrored.nd) (ygs_cons (ygN 4 sc_mirrored.nd) ygs_nil)))))) (fun _ _ _ _ _ => yts_nil) (fun _ _ _ _ _ => (ye_tup (yl_cons (ye_neg (ye_var 1)) (yl_cons (ye_var 2) (yl_cons (yeCall C_times takes0 (hr.mono (by decide)) (yl_cons (ye_var 4) (yl_cons (ye_neg ye_int) yl_nil))) (yl_cons (ye_neg (ye_var 3)) yl_nil))))))).ye))
abbrev P_ratio_of : List Str := ["parts", "room"]
theorem sc_ratio_of : FnScope N_ratio_of P_ratio_of (defScope s_ratio_of) := ⟨rfl, rfl, rfl, by decide +kernel, rfl, by decide +kernel, by decide +kernel⟩
theorem ok_ratio_of (T : Txt K mg) (C_tops_at : CallOk P w K mg base 2 "tops_at" P_tops_at φ_tops_at) (C_least_ratio : CallOk P w K mg base 3 "least_ratio" P_least_ratio φ_least_ratio) (C_mirrored : CallOk P w K mg base 2 "mirrored" P_mirrored φ_mirrored) (vc : ∀ (ds : List D) (Q' : D → Prop) (E' : Nat → Prop), φ_ratio_of ds Q' E' → r_ratio_of (fun c _ => E' c) { nx := fun _ => Q' .non, rt := fun d _ => Q' d } (startE N_ratio_of ds)) (len : ∀ ds Q E, φ_ratio_of ds Q E → ds.length = 2) :
    CallOk P w K mg base 4 "ratio_of" P_ratio_of φ_ratio_of := by
  obtain ⟨fd, F⟩ := T.d_ratio_of
  refine ⟨⟨fd, fun_ok F sc_ratio_of len r_ratio_of (fun cdv A outer s H E Ξ hr => ?_) vc, funLook F, F.bindsA fun _ _ _ _ _ _ us hl => match us, hl with | [_, _], _ => rfl⟩, F.kp, T.g_ratio_of⟩
  exact (yss_cons (ysSet 2 sc_ratio_of.nd (ye_callB (cy_sum rfl) (by rfl) T.n_sum boot_sum (yl_cons (yeCall C_tops_at (takes_of rfl rfl rfl rfl) (hr.mono (by decide)) (yl_cons (ye_var 0) (yl_cons ye_int (yl_cons ye_int yl_nil)))) yl_nil)))
  (yss_cons (ys_if (yt_cmp (oy_eq hr.units) (ye_var 2) (ye_var 1))
  (yss_one (ys_ret (ye_tup (yl_cons ye_int (yl_cons ye_int yl_nil)))))
  yss_nil)
  (yss_cons (ys_if (yt_cmp oy_lt (ye_var 2) (ye_var 1))
  (yss_one (ys_ret (yeCall C_least_ratio (takes_of rfl rfl rfl rfl) (hr.mono (by decide)) (yl_cons (ye_var 0) (yl_cons (ye_var 1) yl_nil)))))
  yss_nil)
  (yss_cons (ysSet 3 sc_ratio_of.nd (yeCall C_least_ratio (takes_of rfl rfl rfl rfl) (hr.mono (by decide)) (yl_cons (yeCall C_mirrored (takes_of rfl rfl rfl rfl) (hr.mono (by decide)) (yl_cons (ye_var 0) yl_nil)) (yl_cons (ye_neg (ye_var 1)) yl_nil))))
  (yss_one (ys_ret (ye_if (yt_cmp oy_isN (ye_var 3) ye_non) ye_non (ye_tup (yl_cons (ye_neg (ye_ix (ye_var 3) ye_int)) (yl_cons (ye_ix (ye_var 3) ye_int) yl_nil))))))))))
abbrev P_ends_of : List Str := ["parts", "room"]
theorem sc_ends_of : FnScope N_ends_of P_ends_of (defScope s_ends_of) := ⟨rfl, rfl, rfl, by decide +kernel, rfl, by decide +kernel, by decide +kernel⟩
theorem ok_ends_of (T : Txt K mg) (C_tops_at : CallOk P w K mg base 2 "tops_at" P_tops_at φ_tops_at) (C_cut : CallOk P w K mg base 1 "cut" P_cut φ_cut) (vc : ∀ (ds : List D) (Q' : D → Prop) (E' : Nat → Prop), φ_ends_of ds Q' E' → r_ends_of (fun c _ => E' c) { nx := fun _ => Q' .non, rt := fun d _ => Q' d } (startE N_ends_of ds)) (len : ∀ ds Q E, φ_ends_of ds Q E → ds.length = 2) :
    CallOk P w K mg base 3 "ends_of" P_ends_of φ_ends_of := by
  obtain ⟨fd, F⟩ := T.d_ends_of
  refine ⟨⟨fd, fun_ok F sc_ends_of len r_ends_of (fun cdv A outer s H E Ξ hr => ?_) vc, funLook F, F.bindsA fun _ _ _ _ _ _ us hl => match us, hl with | [_, _], _ => rfl⟩, F.kp, T.g_ends_of⟩
  exact (yss_cons (ys_if (yt_cmp oy_lt (ye_callB (cy_sum rfl) (by rfl) T.n_sum boot_sum (yl_cons (yeCall C_tops_at (takes_of rfl rfl rfl rfl) (hr.mono (by decide)) (yl_cons (ye_var 0) (yl_cons ye_int (yl_cons ye_int yl_nil)))) yl_nil)) (ye_var 1))
  (yss_one (ys_ret (yn_lc (own := [(("base" : Str), 2), (("weight" : Str), 3), (("lo" : Str), 4), (("hi" : Str), 5)]) rfl sc_ends_of.nd (yi_seq (ye_var 0)) (blkOk_by (by rfl)) (fun _ _ _ _ _ => (yg_tup rfl (ygs_cons (ygN 2 sc_ends_of.nd) (ygs_cons (ygN 3 sc_ends_of.nd) (ygs_cons (ygN 4 sc_ends_of.nd) (ygs_cons (ygN 5 sc_ends_of.nd) ygs_nil)))))) (fun _ _ _ _ _ => yts_nil) (fun _ _ _ _ _ => (ye_if (yt_cmp oy_gt (ye_var 3) ye_int) (ye_var 5) (yeCall C_cut takes0 (hr.mono (by decide)) (yl_cons (ye_var 2) (yl_cons (ye_var 4) (yl_cons (ye_var 5) yl_nil))))))).ye))
  yss_nil)
  (yss_one (ys_ret (yn_lc (own := [(("base" : Str), 2), (("weight" : Str), 3), (("lo" : Str), 4), (("hi" : Str), 5)]) rfl sc_ends_of.nd (yi_seq (ye_var 0)) (blkOk_by (by rfl)) (fun _ _ _ _ _ => (yg_tup rfl (ygs_cons (ygN 2 sc_ends_of.nd) (ygs_cons (ygN 3 sc_ends_of.nd) (ygs_cons (ygN 4 sc_ends_of.nd) (ygs_cons (ygN 5 sc_ends_of.nd) ygs_nil)))))) (fun _ _ _ _ _ => yts_nil) (fun _ _ _ _ _ => (ye_if (yt_cmp oy_gt (ye_var 3) ye_int) (ye_var 4) (yeCall C_cut takes0 (hr.mono (by decide)) (yl_cons (ye_var 2) (yl_cons (ye_var 4) (yl_cons (ye_var 5) yl_nil))))))).ye)))
abbrev P_whole_sizes : List Str := ["tops", "low"]
theorem sc_whole_sizes : FnScope N_whole_sizes P_whole_sizes (defScope s_whole_sizes) := ⟨rfl, rfl, rfl, by decide +kernel, rfl, by decide +kernel, by decide +kernel⟩
theorem ok_whole_sizes (T : Txt K mg) (vc : ∀ (ds : List D) (Q' : D → Prop) (E' : Nat → Prop), φ_whole_sizes ds Q' E' → r_whole_sizes (fun c _ => E' c) { nx := fun _ => Q' .non, rt := fun d _ => Q' d } (startE N_whole_sizes ds)) (len : ∀ ds Q E, φ_whole_sizes ds Q E → ds.length = 2) :
    CallOk P w K mg base 1 "whole_sizes" P_whole_sizes φ_whole_sizes := by
  obtain ⟨fd, F⟩ := T.d_whole_sizes
  refine ⟨⟨fd, fun_ok F sc_whole_sizes len r_whole_sizes (fun cdv A outer s H E Ξ hr => ?_) vc, funLook F, F.bindsA fun _ _ _ _ _ _ us hl => match us, hl with | [_, _], _ => rfl⟩, F.kp, T.g_whole_sizes⟩
  exact (yss_cons (ysSetO 2 sc_whole_sizes.nd (yn_lst yl_nil))
  (yss_cons (ysSet 3 sc_whole_sizes.nd ye_int)
  (yss_cons (ys_for (passes_of rfl) rfl (yi_seq (ye_var 0)) (ygN 4 sc_whole_sizes.nd)
  (yss_cons (ysApp' 2 (ye_bin oy_sub (ye_bin oy_fdivW (ye_bin oy_add (ye_var 3) (ye_var 4)) (ye_var 1)) (ye_bin oy_fdivW (ye_var 3) (ye_var 1))))
  (yss_one (ysSet 3 sc_whole_sizes.nd (ye_bin oy_add (ye_var 3) (ye_var 4))))))
  (yss_one (ys_ret (ye_var 2))))))
abbrev P_sizes_at : List Str := ["parts", "room", "ratio"]
theorem sc_sizes_at : FnScope N_sizes_at P_sizes_at (defScope s_sizes_at) := ⟨rfl, rfl, rfl, by decide +kernel, rfl, by decide +kernel, by decide +kernel⟩
theorem ok_sizes_at (T : Txt K mg) (C_ends_of : CallOk P w K mg base 3 "ends_of" P_ends_of φ_ends_of) (C_whole_sizes : CallOk P w K mg base 1 "whole_sizes" P_whole_sizes φ_whole_sizes) (C_tops_at : CallOk P w K mg base 2 "tops_at" P_tops_at φ_tops_at) (vc : ∀ (ds : List D) (Q' : D → Prop) (E' : Nat → Prop), φ_sizes_at ds Q' E' → r_sizes_at (fun c _ => E' c) { nx := fun _ => Q' .non, rt := fun d _ => Q' d } (startE N_sizes_at ds)) (len : ∀ ds Q E, φ_sizes_at ds Q E → ds.length = 3) :
    CallOk P w K mg base 4 "sizes_at" P_sizes_at φ_sizes_at := by
  obtain ⟨fd, F⟩ := T.d_sizes_at
  refine ⟨⟨fd, fun_ok F sc_sizes_at len r_sizes_at (fun cdv A outer s H E Ξ hr => ?_) vc, funLook F, F.bindsA fun _ _ _ _ _ _ us hl => match us, hl with | [_, _, _], _ => rfl⟩, F.kp, T.g_sizes_at⟩
  exact (yss_cons (ys_if (yt_cmp oy_isN (ye_var 2) ye_non)
  (yss_one (ys_ret (yeCall C_ends_of (takes_of rfl rfl rfl rfl) (hr.mono (by decide)) (yl_cons (ye_var 0) (yl_cons (ye_var 1) yl_nil)))))
  yss_nil)
  (yss_one (ys_ret (yeCall C_whole_sizes (takes_of rfl rfl rfl rfl) (hr.mono (by decide)) (yl_cons (yeCall C_tops_at (takes_of rfl rfl rfl rfl) (hr.mono (by decide)) (yl_cons (ye_var 0) (yl_cons (ye_ix (ye_var 2) ye_int) (yl_cons (ye_ix (ye_var 2) ye_int) yl_nil)))) (yl_cons (ye_ix (ye_var 2) ye_int) yl_nil))))))
abbrev P_shares : List Str := ["parts", "room"]
theorem sc_shares : FnScope N_shares P_shares (defScope s_shares) := ⟨rfl, rfl, rfl, by decide +kernel, rfl, by decide +kernel, by decide +kernel⟩
theorem ok_shares (T : Txt K mg) (C_check_parts : CallOk P w K mg base 3 "check_parts" P_check_parts φ_check_parts) (C_ratio_of : CallOk P w K mg base 4 "ratio_of" P_ratio_of φ_ratio_of) (C_sizes_at : CallOk P w K mg base 4 "sizes_at" P_sizes_at φ_sizes_at) (vc : ∀ (ds : List D) (Q' : D → Prop) (E' : Nat → Prop), φ_shares ds Q' E' → r_shares (fun c _ => E' c) { nx := fun _ => Q' .non, rt := fun d _ => Q' d } (startE N_shares ds)) (len : ∀ ds Q E, φ_shares ds Q E → ds.length = 2) :
    CallOk P w K mg base 5 "shares" P_shares φ_shares := by
  obtain ⟨fd, F⟩ := T.d_shares
  refine ⟨⟨fd, fun_ok F sc_shares len r_shares (fun cdv A outer s H E Ξ hr => ?_) vc, funLook F, F.bindsA fun _ _ _ _ _ _ us hl => match us, hl with | [_, _], _ => rfl⟩, F.kp, T.g_shares⟩
  exact (yss_cons (ys_expr (yeCall C_check_parts (takes_of rfl rfl rfl rfl) (hr.mono (by decide)) (yl_cons (ye_var 0) (yl_cons (ye_var 1) yl_nil))))
  (yss_cons (ysSet 2 sc_shares.nd (yeCall C_ratio_of (takes_of rfl rfl rfl rfl) (hr.mono (by decide)) (yl_cons (ye_var 0) (yl_cons (ye_var 1) yl_nil))))
  (yss_one (ys_ret (ye_tup (yl_cons (yeCall C_sizes_at (takes_of rfl rfl rfl rfl) (hr.mono (by decide)) (yl_cons (ye_var 0) (yl_cons (ye_var 1) (yl_cons (ye_var 2) yl_nil)))) (yl_cons (ye_var 2) yl_nil)))))))
abbrev P_is_right_ratio : List Str := ["parts", "room", "value"]
theorem sc_is_right_ratio : FnScope N_is_right_ratio P_is_right_ratio (defScope s_is_right_ratio) := ⟨rfl, rfl, rfl, by decide +kernel, rfl, by decide +kernel, by decide +kernel⟩
theorem ok_is_right_ratio (T : Txt K mg) (C_ratio_of : CallOk P w K mg base 4 "ratio_of" P_ratio_of φ_ratio_of) (C_is_whole : CallOk P w K mg base 1 "is_whole" P_is_whole φ_is_whole) (C_tops_at : CallOk P w K mg base 2 "tops_at" P_tops_at φ_tops_at) (vc : ∀ (ds : List D) (Q' : D → Prop) (E' : Nat → Prop), φ_is_right_ratio ds Q' E' → r_is_right_ratio (fun c _ => E' c) { nx := fun _ => Q' .non, rt := fun d _ => Q' d } (startE N_is_right_ratio ds)) (len : ∀ ds Q E, φ_is_right_ratio ds Q E → ds.length = 3) :
    CallOk P w K mg base 5 "is_right_ratio" P_is_right_ratio φ_is_right_ratio := by
  obtain ⟨fd, F⟩ := T.d_is_right_ratio
  refine ⟨⟨fd, fun_ok F sc_is_right_ratio len r_is_right_ratio (fun cdv A outer s H E Ξ hr => ?_) vc, funLook F, F.bindsA fun _ _ _ _ _ _ us hl => match us, hl with | [_, _, _], _ => rfl⟩, F.kp, T.g_is_right_ratio⟩
  exact (yss_cons (ys_if (yt_cmp oy_isN (ye_var 2) ye_non)
  (yss_one (ys_ret (ye_cmp oy_isN (yeCall C_ratio_of (takes_of rfl rfl rfl rfl) (hr.mono (by decide)) (yl_cons (ye_var 0) (yl_cons (ye_var 1) yl_nil))) ye_non)))
  yss_nil)
  (yss_cons (ys_if (YW.yt (yw_or (yt_not (yt_tru (ye_isA .tuple (ye_var 2) (peTy T.n_tuple boot_tuple) (by rfl) T.n_isinstance))) (yw_or (yt_cmp (oy_ne hr.units) (ye_callB cy_len (by rfl) T.n_len PySem.boot_len (yl_cons (ye_var 2) yl_nil)) ye_int) (yw_or (yt_not (yt_tru (yeCall C_is_whole (takes_of rfl rfl rfl rfl) (hr.mono (by decide)) (yl_cons (ye_ix (ye_var 2) ye_int) yl_nil)))) (yw_or1 (yt_not (yt_tru (yeCall C_is_whole (takes_of rfl rfl rfl rfl) (hr.mono (by decide)) (yl_cons (ye_ix (ye_var 2) ye_int) yl_nil)))))))))
  (yss_one (ys_ret ye_bl))
  yss_nil)
  (yss_cons (ys_asg (ye_var 2) (yg_tup rfl (ygs_cons (ygN 3 sc_is_right_ratio.nd) (ygs_cons (ygN 4 sc_is_right_ratio.nd) ygs_nil))))
  (yss_cons (ys_if (YW.yt (yw_or (yt_cmp oy_lt (ye_var 4) ye_int) (yw_or1 (yt_cmp (oy_ne hr.units) (ye_callBf cy_gcd (by rfl) T.b_gcd (yl_cons (ye_var 3) (yl_cons (ye_var 4) yl_nil))) ye_int))))
  (yss_one (ys_ret ye_bl))
  yss_nil)
  (yss_one (ys_ret (ye_cmp (oy_eq hr.units) (ye_callB (cy_sum rfl) (by rfl) T.n_sum boot_sum (yl_cons (yeCall C_tops_at (takes_of rfl rfl rfl rfl) (hr.mono (by decide)) (yl_cons (ye_var 0) (yl_cons (ye_var 3) (yl_cons (ye_var 4) yl_nil)))) yl_nil)) (ye_bin oy_mulW (ye_var 1) (ye_var 4)))))))))
abbrev P_is_share : List Str := ["parts", "room", "sizes", "t"]
theorem sc_is_share : FnScope N_is_share P_is_share (defScope s_is_share) := ⟨rfl, rfl, rfl, by decide +kernel, rfl, by decide +kernel, by decide +kernel⟩
theorem ok_is_share (T : Txt K mg) (C_check_parts : CallOk P w K mg base 3 "check_parts" P_check_parts φ_check_parts) (C_is_right_ratio : CallOk P w K mg base 5 "is_right_ratio" P_is_right_ratio φ_is_right_ratio) (C_is_whole : CallOk P w K mg base 1 "is_whole" P_is_whole φ_is_whole) (C_sizes_at : CallOk P w K mg base 4 "sizes_at" P_sizes_at φ_sizes_at) (vc : ∀ (ds : List D) (Q' : D → Prop) (E' : Nat → Prop), φ_is_share ds Q' E' → r_is_share (fun c _ => E' c) { nx := fun _ => Q' .non, rt := fun d _ => Q' d } (startE N_is_share ds)) (len : ∀ ds Q E, φ_is_share ds Q E → ds.length = 4) :
    CallOk P w K mg base 6 "is_share" P_is_share φ_is_share := by
  obtain ⟨fd, F⟩ := T.d_is_share
  refine ⟨⟨fd, fun_ok F sc_is_share len r_is_share (fun cdv A outer s H E Ξ hr => ?_) vc, funLook F, F.bindsA fun _ _ _ _ _ _ us hl => match us, hl with | [_, _, _, _], _ => rfl⟩, F.kp, T.g_is_share⟩
  exact (yss_cons (ys_expr (yeCall C_check_parts (takes_of rfl rfl rfl rfl) (hr.mono (by decide)) (yl_cons (ye_var 0) (yl_cons (ye_var 1) yl_nil))))
  (yss_cons (ys_if (YW.yt (yw_or (yt_not (yt_tru (yeCall C_is_right_ratio (takes_of rfl rfl rfl rfl) (hr.mono (by decide)) (yl_cons (ye_var 0) (yl_cons (ye_var 1) (yl_cons (ye_var 3) yl_nil)))))) (yw_or1 (yt_not (yt_tru (ye_isA .list (ye_var 2) (peTy T.n_list boot_list) (by rfl) T.n_isinstance))))))
  (yss_one (ys_ret ye_bl))
  yss_nil)
  (yss_cons (ys_if (yt_not (yt_tru (ye_callB (cy_all rfl) (by rfl) T.n_all boot_all (yl_cons (yn_lc (own := [(("size" : Str), 4)]) rfl sc_is_share.nd (yi_seq (ye_var 2)) (blkOk_by (by rfl)) (fun _ _ _ _ _ => (ygN 4 sc_is_share.nd)) (fun _ _ _ _ _ => yts_nil) (fun _ _ _ _ _ => (yeCall C_is_whole takes0 (hr.mono (by decide)) (yl_cons (ye_var 4) yl_nil)))).ye yl_nil))))
  (yss_one (ys_ret ye_bl))
  yss_nil)
  (yss_one (ys_ret (ye_cmp (oy_eq hr.units) (ye_var 2) (yeCall C_sizes_at (takes_of rfl rfl rfl rfl) (hr.mono (by decide)) (yl_cons (ye_var 0) (yl_cons (ye_var 1) (yl_cons (ye_var 3) yl_nil))))))))))
abbrev P_law_pool : List Str := ["script"]
theorem sc_law_pool : FnScope N_law_pool P_law_pool (defScope s_law_pool) := ⟨rfl, rfl, rfl, by decide +kernel, rfl, by decide +kernel, by decide +kernel⟩
theorem ok_law_pool (T : Txt K mg) (vc : ∀ (ds : List D) (Q' : D → Prop) (E' : Nat → Prop), φ_law_pool ds Q' E' → r_law_pool (fun c _ => E' c) { nx := fun _ => Q' .non, rt := fun d _ => Q' d } (startE N_law_pool ds)) (len : ∀ ds Q E, φ_law_pool ds Q E → ds.length = 1) :
    CallOk P w K mg base 1 "_law_pool" P_law_pool φ_law_pool := by
  obtain ⟨fd, F⟩ := T.d_law_pool
  refine ⟨⟨fd, fun_ok F sc_law_pool len r_law_pool (fun cdv A outer s H E Ξ hr => ?_) vc, funLook F, F.bindsA fun _ _ _ _ _ _ us hl => match us, hl with | [_], _ => rfl⟩, F.kp, T.g_law_pool⟩
  exact (yss_cons (ysSetO 1 sc_law_pool.nd (yn_lst yl_nil))
  (yss_cons (ys_for (passes_of rfl) rfl (yi_frl (ye_var 0)) (ygN 2 sc_law_pool.nd)
  (yss_cons (ysSet 3 sc_law_pool.nd (ye_bin oy_mod (ye_callTy cy_int (by rfl) T.n_int boot_int (yl_cons (ye_var 2) yl_nil)) (ye_bin oy_pow ye_int ye_int)))
  (yss_one (ys_if (yt_cmp oy_ge (ye_var 3) (ye_bin oy_pow ye_int ye_int))
  (yss_one (ys_for (passes_of rfl) rfl (yi_range1 (by rfl) T.n_range (yl_cons ye_int yl_nil)) (ygN 4 sc_law_pool.nd)
  (yss_cons (ysApp' 1 (ye_bin oy_mod (ye_callTy cy_int (by rfl) T.n_int boot_int (yl_cons (ye_var 3) yl_nil)) ye_int))
  (yss_cons (ysSet 3 sc_law_pool.nd (ye_callTy cy_int (by rfl) T.n_int boot_int (yl_cons (ye_bin oy_fdiv (ye_var 3) ye_int) yl_nil)))
  (yss_one (ys_if (yt_cmp (oy_eq hr.units) (ye_var 3) ye_int)
  (yss_one ys_break)
  yss_nil))))))
  (yss_one (ysSetO 1 sc_law_pool.nd (yn_add (ye_var 1) (yn_lst (yl_cons (ye_bin oy_mod (ye_callTy cy_int (by rfl) T.n_int boot_int (yl_cons (ye_var 3) yl_nil)) ye_int) (yl_cons (ye_bin oy_mod (ye_callTy cy_int (by rfl) T.n_int boot_int (yl_cons (ye_bin oy_fdiv (ye_var 3) ye_int) yl_nil)) ye_int) yl_nil))).ye)))))))
  (yss_cons (ysSet 5 sc_law_pool.nd ye_int)
  (yss_cons (ys_for (passes_of rfl) rfl (yi_frl (ye_var 0)) (ygN 2 sc_law_pool.nd)
  (yss_one (ysSet 5 sc_law_pool.nd (ye_bin oy_mod (ye_bin oy_add (ye_bin oy_mulA (ye_var 5) ye_int) (ye_callTy cy_int (by rfl) T.n_int boot_int (yl_cons (ye_var 2) yl_nil))) ye_int))))
  (yss_cons (ys_for (passes_of rfl) rfl (yi_range1 (by rfl) T.n_range (yl_cons ye_int yl_nil)) (ygN 4 sc_law_pool.nd)
  (yss_cons (ysSet 5 sc_law_pool.nd (ye_bin oy_mod (ye_bin oy_add (ye_bin oy_mulA (ye_var 5) ye_int) ye_int) ye_int))
  (yss_one (ysApp' 1 (ye_bin oy_mod (ye_callTy cy_int (by rfl) T.n_int boot_int (yl_cons (ye_bin oy_fdiv (ye_var 5) ye_int) yl_nil)) ye_int)))))
  (yss_one (ys_ret (ye_var 1))))))))
abbrev P_law_stream : List Str := ["script"]
theorem sc_law_stream : FnScope N_law_stream P_law_stream (defScope s_law_stream) := ⟨rfl, rfl, rfl, by decide +kernel, rfl, by decide +kernel, by decide +kernel⟩
theorem ok_law_stream (T : Txt K mg) (C_law_pool : CallOk P w K mg base 1 "_law_pool" P_law_pool φ_law_pool) (vc : ∀ (ds : List D) (Q' : D → Prop) (E' : Nat → Prop), φList ds Q' E' → r_law_stream (fun c _ => E' c) { nx := fun _ => Q' .non, rt := fun d _ => Q' d } (startE N_law_stream ds)) (len : ∀ ds Q E, φList ds Q E → ds.length = 1) :
    CallOk P w K mg base 2 "_law_stream" P_law_stream φList := by
  obtain ⟨fd, F⟩ := T.d_law_stream
  refine ⟨⟨fd, fun_ok F sc_law_stream len r_law_stream (fun cdv A outer s H E Ξ hr => ?_) vc, funLook F, F.bindsA fun _ _ _ _ _ _ us hl => match us, hl with | [_], _ => rfl⟩, F.kp, T.g_law_stream⟩
  exact (yss_one (ys_ret (ye_bin oy_add (yn_lst (yl_cons ye_int yl_nil)).ye (yeCall C_law_pool (takes_of rfl rfl rfl rfl) (hr.mono (by decide)) (yl_cons (ye_var 0) yl_nil)))))
abbrev P_law_part : List Str := ["pool", "unit"]
theorem sc_law_part : FnScope N_law_part P_law_part (defScope s_law_part) := ⟨rfl, rfl, rfl, by decide +kernel, rfl, by decide +kernel, by decide +kernel⟩
theorem ok_law_part (T : Txt K mg) (C_law_pick : CallOk P w K mg base 1 "_law_pick" P_law_pick φ_law_pick) (vc : ∀ (ds : List D) (Q' : D → Prop) (E' : Nat → Prop), φ_law_part ds Q' E' → r_law_part (fun c _ => E' c) { nx := fun _ => Q' .non, rt := fun d _ => Q' d } (startE N_law_part ds)) (len : ∀ ds Q E, φ_law_part ds Q E → ds.length = 2) :
    CallOk P w K mg base 2 "_law_part" P_law_part φ_law_part := by
  obtain ⟨fd, F⟩ := T.d_law_part
  refine ⟨⟨fd, fun_ok F sc_law_part len r_law_part (fun cdv A outer s H E Ξ hr => ?_) vc, funLook F, F.bindsA fun _ _ _ _ _ _ us hl => match us, hl with | [_, _], _ => rfl⟩, F.kp, T.g_law_part⟩
  exact (yss_cons (ysSet 2 sc_law_part.nd (ye_bin oy_add (ye_bin oy_mulA (ye_var 1) (ye_bin oy_sub (yeCall C_law_pick (takes_of rfl rfl rfl rfl) (hr.mono (by decide)) (yl_cons (ye_var 0) (yl_cons ye_int yl_nil))) (ye_ix (yn_lst (yl_cons ye_int (yl_cons ye_int (yl_cons ye_int (yl_cons ye_int yl_nil))))).ye (yeCall C_law_pick (takes_of rfl rfl rfl rfl) (hr.mono (by decide)) (yl_cons (ye_var 0) (yl_cons ye_int yl_nil)))))) (yeCall C_law_pick (takes_of rfl rfl rfl rfl) (hr.mono (by decide)) (yl_cons (ye_var 0) (yl_cons ye_int yl_nil)))))
  (yss_cons (ysSet 3 sc_law_part.nd (ye_ix (yn_lst (yl_cons ye_int (yl_cons ye_int (yl_cons ye_int (yl_cons ye_int (yl_cons ye_int (yl_cons ye_int (yl_cons ye_int (yl_cons ye_int (yl_cons (ye_bin oy_pow ye_int ye_int) (yl_cons ye_int yl_nil))))))))))).ye (yeCall C_law_pick (takes_of rfl rfl rfl rfl) (hr.mono (by decide)) (yl_cons (ye_var 0) (yl_cons ye_int yl_nil)))))
  (yss_cons (ysSet 4 sc_law_part.nd (ye_bin oy_add (ye_bin oy_add (ye_var 2) (ye_bin oy_mulA (ye_var 1) (ye_ix (yn_lst (yl_cons ye_int (yl_cons (ye_neg ye_int) (yl_cons (ye_neg ye_int) (yl_cons (ye_neg ye_int) (yl_cons (ye_neg ye_int) (yl_cons ye_int (yl_cons ye_int (yl_cons (ye_neg ye_int) yl_nil))))))))).ye (yeCall C_law_pick (takes_of rfl rfl rfl rfl) (hr.mono (by decide)) (yl_cons (ye_var 0) (yl_cons ye_int yl_nil)))))) (ye_ix (yn_lst (yl_cons ye_int (yl_cons ye_int (yl_cons ye_int yl_nil)))).ye (yeCall C_law_pick (takes_of rfl rfl rfl rfl) (hr.mono (by decide)) (yl_cons (ye_var 0) (yl_cons ye_int yl_nil))))))
  (yss_cons (ysSet 5 sc_law_part.nd (yeCall C_law_pick (takes_of rfl rfl rfl rfl) (hr.mono (by decide)) (yl_cons (ye_var 0) (yl_cons ye_int yl_nil))))
  (yss_cons (ys_if (yt_cmp oy_gt (ye_var 5) ye_int)
  (yss_one (ys_ret (ye_tup (yl_cons (ye_var 2) (yl_cons (ye_var 3) (yl_cons (ye_var 4) (yl_cons ye_non yl_nil)))))))
  yss_nil)
  (yss_one (ys_ret (ye_tup (yl_cons (ye_var 2) (yl_cons (ye_var 3) (yl_cons (ye_var 4) (yl_cons (ye_bin oy_add (ye_bin oy_add (ye_var 4) (ye_bin oy_mulA (ye_var 1) (ye_ix (yn_lst (yl_cons ye_int (yl_cons ye_int (yl_cons ye_int (yl_cons ye_int (yl_cons ye_int yl_nil)))))).ye (ye_var 5)))) (yeCall C_law_pick (takes_of rfl rfl rfl rfl) (hr.mono (by decide)) (yl_cons (ye_var 0) (yl_cons ye_int yl_nil)))) yl_nil))))))))))))
abbrev P_law_cut : List Str := ["number", "lo", "hi"]
theorem sc_law_cut : FnScope N_law_cut P_law_cut (defScope s_law_cut) := ⟨rfl, rfl, rfl, by decide +kernel, rfl, by decide +kernel, by decide +kernel⟩
theorem ok_law_cut (T : Txt K mg) (vc : ∀ (ds : List D) (Q' : D → Prop) (E' : Nat → Prop), φ_law_cut ds Q' E' → r_law_cut (fun c _ => E' c) { nx := fun _ => Q' .non, rt := fun d _ => Q' d } (startE N_law_cut ds)) (len : ∀ ds Q E, φ_law_cut ds Q E → ds.length = 3) :
    CallOk P w K mg base 1 "_law_cut" P_law_cut φ_law_cut := by
  obtain ⟨fd, F⟩ := T.d_law_cut
  refine ⟨⟨fd, fun_ok F sc_law_cut len r_law_cut (fun cdv A outer s H E Ξ hr => ?_) vc, funLook F, F.bindsA fun _ _ _ _ _ _ us hl => match us, hl with | [_, _, _], _ => rfl⟩, F.kp, T.g_law_cut⟩
  exact (yss_cons (ys_if (YW.yt (yw_and (yt_cmp oy_notN (ye_var 2) ye_non) (yw_and1 (yt_cmp oy_gt (ye_var 0) (ye_var 2)))))
  (yss_one (ys_ret (ye_var 2)))
  yss_nil)
  (yss_one (ys_ret (ye_callB (cy_max2 rfl) (by rfl) T.n_max boot_max (yl_cons (ye_var 0) (yl_cons (ye_var 1) yl_nil))))))
abbrev P_law_tops : List Str := ["parts", "top", "low"]
theorem sc_law_tops : FnScope N_law_tops P_law_tops (defScope s_law_tops) := ⟨rfl, rfl, rfl, by decide +kernel, rfl, by decide +kernel, by decide +kernel⟩
theorem ok_law_tops (T : Txt K mg) (C_law_cut : CallOk P w K mg base 1 "_law_cut" P_law_cut φ_law_cut) (vc : ∀ (ds : List D) (Q' : D → Prop) (E' : Nat → Prop), φ_law_tops ds Q' E' → r_law_tops (fun c _ => E' c) { nx := fun _ => Q' .non, rt := fun d _ => Q' d } (startE N_law_tops ds)) (len : ∀ ds Q E, φ_law_tops ds Q E → ds.length = 3) :
    CallOk P w K mg base 2 "_law_tops" P_law_tops φ_law_tops := by
  obtain ⟨fd, F⟩ := T.d_law_tops
  refine ⟨⟨fd, fun_ok F sc_law_tops len r_law_tops (fun cdv A outer s H E Ξ hr => ?_) vc, funLook F, F.bindsA fun _ _ _ _ _ _ us hl => match us, hl with | [_, _, _], _ => rfl⟩, F.kp, T.g_law_tops⟩
  exact (yss_cons (ysSetO 3 sc_law_tops.nd (yn_lst yl_nil))
  (yss_cons (ys_for (passes_of rfl) rfl (yi_seq (ye_var 0)) (yg_tup rfl (ygs_cons (ygN 4 sc_law_tops.nd) (ygs_cons (ygN 5 sc_law_tops.nd) (ygs_cons (ygN 6 sc_law_tops.nd) (ygs_cons (ygN 7 sc_law_tops.nd) ygs_nil)))))
  (yss_cons (ysSet 8 sc_law_tops.nd ye_non)
  (yss_cons (ys_if (yt_cmp oy_notN (ye_var 7) ye_non)
  (yss_one (ysSet 8 sc_law_tops.nd (ye_bin oy_mulW (ye_var 7) (ye_var 2))))
  yss_nil)
  (yss_one (ysApp' 3 (yeCall C_law_cut (takes_of rfl rfl rfl rfl) (hr.mono (by decide)) (yl_cons (ye_bin oy_add (ye_bin oy_mulW (ye_var 4) (ye_var 2)) (ye_bin oy_mulW (ye_var 5) (ye_var 1))) (yl_cons (ye_bin oy_mulW (ye_var 6) (ye_var 2)) (yl_cons (ye_var 8) yl_nil)))))))))
  (yss_one (ys_ret (ye_var 3)))))
abbrev P_law_wholes : List Str := ["tops", "low"]
theorem sc_law_wholes : FnScope N_law_wholes P_law_wholes (defScope s_law_wholes) := ⟨rfl, rfl, rfl, by decide +kernel, rfl, by decide +kernel, by decide +kernel⟩
theorem ok_law_wholes (T : Txt K mg) (vc : ∀ (ds : List D) (Q' : D → Prop) (E' : Nat → Prop), φ_law_wholes ds Q' E' → r_law_wholes (fun c _ => E' c) { nx := fun _ => Q' .non, rt := fun d _ => Q' d } (startE N_law_wholes ds)) (len : ∀ ds Q E, φ_law_wholes ds Q E → ds.length = 2) :
    CallOk P w K mg base 1 "_law_wholes" P_law_wholes φ_law_wholes := by
  obtain ⟨fd, F⟩ := T.d_law_wholes
  refine ⟨⟨fd, fun_ok F sc_law_wholes len r_law_wholes (fun cdv A outer s H E Ξ hr => ?_) vc, funLook F, F.bindsA fun _ _ _ _ _ _ us hl => match us, hl with | [_, _], _ => rfl⟩, F.kp, T.g_law_wholes⟩
  exact (yss_cons (ys_par 2 3 rfl sc_law_wholes.nd (by rfl) (by rfl) (by decide) rfl rfl (yx_n (yn_lst yl_nil)) (yx_e ye_int))
  (yss_cons (ys_for (passes_of rfl) rfl (yi_seq (ye_var 0)) (ygN 4 sc_law_wholes.nd)
  (yss_cons (ysApp' 2 (ye_callTy cy_int (by rfl) T.n_int boot_int (yl_cons (ye_bin oy_sub (ye_bin oy_fdivW (ye_bin oy_add (ye_var 3) (ye_var 4)) (ye_var 1)) (ye_bin oy_fdivW (ye_var 3) (ye_var 1))) yl_nil)))
  (yss_one (ysSet 3 sc_law_wholes.nd (ye_bin oy_add (ye_var 3) (ye_var 4))))))
  (yss_one (ys_ret (ye_var 2)))))
abbrev P_law_share : List Str := ["parts", "room"]
theorem sc_law_share : FnScope N_law_share P_law_share (defScope s_law_share) := ⟨rfl, rfl, rfl, by decide +kernel, rfl, by decide +kernel, by decide +kernel⟩
theorem ok_law_share (T : Txt K mg) (C_law_tops : CallOk P w K mg base 2 "_law_tops" P_law_tops φ_law_tops) (C_law_cut : CallOk P w K mg base 1 "_law_cut" P_law_cut φ_law_cut) (C_law_wholes : CallOk P w K mg base 1 "_law_wholes" P_law_wholes φ_law_wholes) (vc : ∀ (ds : List D) (Q' : D → Prop) (E' : Nat → Prop), φ_law_share ds Q' E' → r_law_share (fun c _ => E' c) { nx := fun _ => Q' .non, rt := fun d _ => Q' d } (startE N_law_share ds)) (len : ∀ ds Q E, φ_law_share ds Q E → ds.length = 2) :
    CallOk P w K mg base 3 "_law_share" P_law_share φ_law_share := by
  obtain ⟨fd, F⟩ := T.d_law_share
  refine ⟨⟨fd, fun_ok F sc_law_share len r_law_share (fun cdv A outer s H E Ξ hr => ?_) vc, funLook F, F.bindsA fun _ _ _ _ _ _ us hl => match us, hl with | [_, _], _ => rfl⟩, F.kp, T.g_law_share⟩
  exact (yss_cons (ysSet 2 sc_law_share.nd ye_non)
  (yss_cons (ys_for (passes_of rfl) rfl (yi_seq (ye_var 0)) (yg_tup rfl (ygs_cons (ygN 3 sc_law_share.nd) (ygs_cons (ygN 4 sc_law_share.nd) (ygs_cons (ygN 5 sc_law_share.nd) (ygs_cons (ygN 6 sc_law_share.nd) ygs_nil)))))
  (yss_one (ys_for (passes_of rfl) rfl (yi_seq (yn_lst (yl_cons (ye_var 5) (yl_cons (ye_var 6) yl_nil))).ye) (ygN 7 sc_law_share.nd)
  (yss_one (ys_if (YW.yt (yw_and (yt_cmp oy_gt (ye_var 4) ye_int) (yw_and (yt_cmp oy_notN (ye_var 7) ye_non) (yw_and1 (YW.yt (yw_or (yt_cmp oy_isN (ye_var 2) ye_non) (yw_or1 (yt_cmp oy_gt (ye_bin oy_mulW (ye_bin oy_sub (ye_var 7) (ye_var 3)) (ye_ix (ye_var 2) ye_int)) (ye_bin oy_mulW (ye_ix (ye_var 2) ye_int) (ye_var 4))))))))))
  (yss_one (ys_if (yt_cmp oy_leA (ye_callB (cy_sum rfl) (by rfl) T.n_sum boot_sum (yl_cons (yeCall C_law_tops (takes_of rfl rfl rfl rfl) (hr.mono (by decide)) (yl_cons (ye_var 0) (yl_cons (ye_bin oy_sub (ye_var 7) (ye_var 3)) (yl_cons (ye_var 4) yl_nil)))) yl_nil)) (ye_bin oy_mulW (ye_var 1) (ye_var 4)))
  (yss_one (ysSet 2 sc_law_share.nd (ye_tup (yl_cons (ye_bin oy_sub (ye_var 7) (ye_var 3)) (yl_cons (ye_var 4) yl_nil)))))
  yss_nil))
  yss_nil)))))
  (yss_cons (ys_if (yt_cmp oy_isN (ye_var 2) ye_non)
  (yss_one (ys_ret (yn_lc (own := [(("base" : Str), 3), (("weight" : Str), 4), (("lo" : Str), 5), (("hi" : Str), 6)]) rfl sc_law_share.nd (yi_seq (ye_var 0)) (blkOk_by (by rfl)) (fun _ _ _ _ _ => (yg_tup rfl (ygs_cons (ygN 3 sc_law_share.nd) (ygs_cons (ygN 4 sc_law_share.nd) (ygs_cons (ygN 5 sc_law_share.nd) (ygs_cons (ygN 6 sc_law_share.nd) ygs_nil)))))) (fun _ _ _ _ _ => yts_nil) (fun _ _ _ _ _ => (ye_ix (yn_lst (yl_cons (yeCall C_law_cut takes0 (hr.mono (by decide)) (yl_cons (ye_var 3) (yl_cons (ye_var 5) (yl_cons (ye_var 6) yl_nil)))) (yl_cons (ye_var 5) yl_nil))).ye (ye_callTy cy_int (by rfl) T.n_int boot_int (yl_cons (ye_cmp oy_gt (ye_var 4) ye_int) yl_nil))))).ye))
  yss_nil)
  (yss_cons (ys_asg (ye_var 2) (yg_tup rfl (ygs_cons (ygN 8 sc_law_share.nd) (ygs_cons (ygN 9 sc_law_share.nd) ygs_nil))))
  (yss_cons (ysSet 10 sc_law_share.nd (ye_callB (cy_sum rfl) (by rfl) T.n_sum boot_sum (yl_cons (yn_lc (own := [(("base" : Str), 3), (("weight" : Str), 4), (("lo" : Str), 5), (("hi" : Str), 6)]) rfl sc_law_share.nd (yi_seq (ye_var 0)) (blkOk_by (by rfl)) (fun _ _ _ _ _ => (yg_tup rfl (ygs_cons (ygN 3 sc_law_share.nd) (ygs_cons (ygN 4 sc_law_share.nd) (ygs_cons (ygN 5 sc_law_share.nd) (ygs_cons (ygN 6 sc_law_share.nd) ygs_nil)))))) (fun _ _ _ _ _ => (yts_one (YW.yt (yw_and (yt_cmp oy_ge (ye_bin oy_add (ye_bin oy_mulW (ye_var 3) (ye_var 9)) (ye_bin oy_mulW (ye_var 4) (ye_var 8))) (ye_bin oy_mulW (ye_var 5) (ye_var 9))) (yw_and1 (YW.yt (yw_or (yt_cmp oy_isN (ye_var 6) ye_non) (yw_or1 (yt_cmp oy_lt (ye_bin oy_add (ye_bin oy_mulW (ye_var 3) (ye_var 9)) (ye_bin oy_mulW (ye_var 4) (ye_var 8))) (ye_bin oy_mulW (ye_var 6) (ye_var 9))))))))))) (fun _ _ _ _ _ => (ye_var 4))).ye yl_nil)))
  (yss_cons (ysSet 11 sc_law_share.nd (ye_bin oy_sub (ye_bin oy_mulW (ye_var 1) (ye_var 9)) (ye_callB (cy_sum rfl) (by rfl) T.n_sum boot_sum (yl_cons (yeCall C_law_tops (takes_of rfl rfl rfl rfl) (hr.mono (by decide)) (yl_cons (ye_var 0) (yl_cons (ye_var 8) (yl_cons (ye_var 9) yl_nil)))) yl_nil))))
  (yss_cons (ys_if (yt_cmp oy_gt (ye_var 10) ye_int)
  (yss_one (ys_asg (ye_tup (yl_cons (ye_bin oy_add (ye_bin oy_mulW (ye_var 8) (ye_var 10)) (ye_var 11)) (yl_cons (ye_bin oy_mulW (ye_var 9) (ye_var 10)) yl_nil))) (yg_tup rfl (ygs_cons (ygN 8 sc_law_share.nd) (ygs_cons (ygN 9 sc_law_share.nd) ygs_nil)))))
  yss_nil)
  (yss_one (ys_ret (yeCall C_law_wholes (takes_of rfl rfl rfl rfl) (hr.mono (by decide)) (yl_cons (yeCall C_law_tops (takes_of rfl rfl rfl rfl) (hr.mono (by decide)) (yl_cons (ye_var 0) (yl_cons (ye_var 8) (yl_cons (ye_var 9) yl_nil)))) (yl_cons (ye_var 9) yl_nil))))))))))))
abbrev P_law_ends : List Str := ["parts"]
theorem sc_law_ends : FnScope N_law_ends P_law_ends (defScope s_law_ends) := ⟨rfl, rfl, rfl, by decide +kernel, rfl, by decide +kernel, by decide +kernel⟩
theorem ok_law_ends (T : Txt K mg) (C_law_cut : CallOk P w K mg base 1 "_law_cut" P_law_cut φ_law_cut) (vc : ∀ (ds : List D) (Q' : D → Prop) (E' : Nat → Prop), φ_law_ends ds Q' E' → r_law_ends (fun c _ => E' c) { nx := fun _ => Q' .non, rt := fun d _ => Q' d } (startE N_law_ends ds)) (len : ∀ ds Q E, φ_law_ends ds Q E → ds.length = 1) :
    CallOk P w K mg base 2 "_law_ends" P_law_ends φ_law_ends := by
  obtain ⟨fd, F⟩ := T.d_law_ends
  refine ⟨⟨fd, fun_ok F sc_law_ends len r_law_ends (fun cdv A outer s H E Ξ hr => ?_) vc, funLook F, F.bindsA fun _ _ _ _ _ _ us hl => match us, hl with | [_], _ => rfl⟩, F.kp, T.g_law_ends⟩
  exact (yss_cons (ysSet 1 sc_law_ends.nd (ye_callB (cy_sum rfl) (by rfl) T.n_sum boot_sum (yl_cons (yn_lc (own := [(("base" : Str), 2), (("weight" : Str), 3), (("lo" : Str), 4), (("hi" : Str), 5)]) rfl sc_law_ends.nd (yi_seq (ye_var 0)) (blkOk_by (by rfl)) (fun _ _ _ _ _ => (yg_tup rfl (ygs_cons (ygN 2 sc_law_ends.nd) (ygs_cons (ygN 3 sc_law_ends.nd) (ygs_cons (ygN 4 sc_law_ends.nd) (ygs_cons (ygN 5 sc_law_ends.nd) ygs_nil)))))) (fun _ _ _ _ _ => yts_nil) (fun _ _ _ _ _ => (ye_ix (yn_lst (yl_cons (yeCall C_law_cut takes0 (hr.mono (by decide)) (yl_cons (ye_var 2) (yl_cons (ye_var 4) (yl_cons (ye_var 5) yl_nil)))) (yl_cons (ye_var 4) yl_nil))).ye (ye_callTy cy_int (by rfl) T.n_int boot_int (yl_cons (ye_cmp oy_gt (ye_var 3) ye_int) yl_nil))))).ye yl_nil)))
  (yss_cons (ys_if (yt_tru (ye_callB (cy_any rfl) (by rfl) T.n_any boot_any (yl_cons (yn_lc (own := [(("base" : Str), 2), (("weight" : Str), 3), (("lo" : Str), 4), (("hi" : Str), 5)]) rfl sc_law_ends.nd (yi_seq (ye_var 0)) (blkOk_by (by rfl)) (fun _ _ _ _ _ => (yg_tup rfl (ygs_cons (ygN 2 sc_law_ends.nd) (ygs_cons (ygN 3 sc_law_ends.nd) (ygs_cons (ygN 4 sc_law_ends.nd) (ygs_cons (ygN 5 sc_law_ends.nd) ygs_nil)))))) (fun _ _ _ _ _ => yts_nil) (fun _ _ _ _ _ => (ye_and (ye_cmp oy_gt (ye_var 3) ye_int) (ye_one (ye_cmp oy_isN (ye_var 5) ye_non))))).ye yl_nil)))
  (yss_one (ys_ret (ye_tup (yl_cons (ye_var 1) (yl_cons ye_non yl_nil)))))
  yss_nil)
  (yss_one (ys_ret (ye_tup (yl_cons (ye_var 1) (yl_cons (ye_callB (cy_sum rfl) (by rfl) T.n_sum boot_sum (yl_cons (yn_lc (own := [(("base" : Str), 2), (("weight" : Str), 3), (("lo" : Str), 4), (("hi" : Str), 5)]) rfl sc_law_ends.nd (yi_seq (ye_var 0)) (blkOk_by (by rfl)) (fun _ _ _ _ _ => (yg_tup rfl (ygs_cons (ygN 2 sc_law_ends.nd) (ygs_cons (ygN 3 sc_law_ends.nd) (ygs_cons (ygN 4 sc_law_ends.nd) (ygs_cons (ygN 5 sc_law_ends.nd) ygs_nil)))))) (fun _ _ _ _ _ => yts_nil) (fun _ _ _ _ _ => (ye_ix (yn_lst (yl_cons (yeCall C_law_cut takes0 (hr.mono (by decide)) (yl_cons (ye_var 2) (yl_cons (ye_var 4) (yl_cons (ye_var 5) yl_nil)))) (yl_cons (ye_var 5) yl_nil))).ye (ye_callTy cy_int (by rfl) T.n_int boot_int (yl_cons (ye_cmp oy_gt (ye_var 3) ye_int) yl_nil))))).ye yl_nil)) yl_nil)))))))
abbrev P_law_has : List Str := ["parts", "room"]
theorem sc_law_has : FnScope N_law_has P_law_has (defScope s_law_has) := ⟨rfl, rfl, rfl, by decide +kernel, rfl, by decide +kernel, by decide +kernel⟩
theorem ok_law_has (T : Txt K mg) (C_law_ends : CallOk P w K mg base 2 "_law_ends" P_law_ends φ_law_ends) (vc : ∀ (ds : List D) (Q' : D → Prop) (E' : Nat → Prop), φ_law_has ds Q' E' → r_law_has (fun c _ => E' c) { nx := fun _ => Q' .non, rt := fun d _ => Q' d } (startE N_law_has ds)) (len : ∀ ds Q E, φ_law_has ds Q E → ds.length = 2) :
    CallOk P w K mg base 3 "_law_has" P_law_has φ_law_has := by
  obtain ⟨fd, F⟩ := T.d_law_has
  refine ⟨⟨fd, fun_ok F sc_law_has len r_law_has (fun cdv A outer s H E Ξ hr => ?_) vc, funLook F, F.bindsA fun _ _ _ _ _ _ us hl => match us, hl with | [_, _], _ => rfl⟩, F.kp, T.g_law_has⟩
  exact (yss_cons (ys_asg (yeCall C_law_ends (takes_of rfl rfl rfl rfl) (hr.mono (by decide)) (yl_cons (ye_var 0) yl_nil)) (yg_tup rfl (ygs_cons (ygN 2 sc_law_has.nd) (ygs_cons (ygN 3 sc_law_has.nd) ygs_nil))))
  (yss_one (ys_ret (ye_and (ye_cmp oy_leA (ye_var 2) (ye_var 1)) (ye_one (ye_or (ye_cmp oy_isN (ye_var 3) ye_non) (ye_one (ye_cmp oy_leA (ye_var 1) (ye_var 3)))))))))
abbrev P_law_lowest : List Str := ["top", "low"]
theorem sc_law_lowest : FnScope N_law_lowest P_law_lowest (defScope s_law_lowest) := ⟨rfl, rfl, rfl, by decide +kernel, rfl, by decide +kernel, by decide +kernel⟩
theorem ok_law_lowest (T : Txt K mg) (vc : ∀ (ds : List D) (Q' : D → Prop) (E' : Nat → Prop), φ_law_lowest ds Q' E' → r_law_lowest (fun c _ => E' c) { nx := fun _ => Q' .non, rt := fun d _ => Q' d } (startE N_law_lowest ds)) (len : ∀ ds Q E, φ_law_lowest ds Q E → ds.length = 2) :
    CallOk P w K mg base 1 "_law_lowest" P_law_lowest φ_law_lowest := by
  obtain ⟨fd, F⟩ := T.d_law_lowest
  refine ⟨⟨fd, fun_ok F sc_law_lowest len r_law_lowest (fun cdv A outer s H E Ξ hr => ?_) vc, funLook F, F.bindsA fun _ _ _ _ _ _ us hl => match us, hl with | [_, _], _ => rfl⟩, F.kp, T.g_law_lowest⟩
  exact (yss_cons (ys_par 2 3 rfl sc_law_lowest.nd (by rfl) (by rfl) (by decide) rfl rfl (yx_e (ye_callB cy_abs (by rfl) T.n_abs boot_abs (yl_cons (ye_var 0) yl_nil))) (yx_e (ye_var 1)))
  (yss_cons (ys_for (passes_of rfl) rfl (yi_range1 (by rfl) T.n_range (yl_cons ye_int yl_nil)) (ygN 4 sc_law_lowest.nd)
  (yss_cons (ys_if (yt_cmp (oy_eq hr.units) (ye_var 3) ye_int)
  (yss_one ys_break)
  yss_nil)
  (yss_one (ys_par 2 3 rfl sc_law_lowest.nd (by rfl) (by rfl) (by decide) rfl rfl (yx_e (ye_var 3)) (yx_e (ye_bin oy_mod (ye_callTy cy_int (by rfl) T.n_int boot_int (yl_cons (ye_var 2) yl_nil)) (ye_var 3)))))))
  (yss_one (ys_ret (ye_tup (yl_cons (ye_callTy cy_int (by rfl) T.n_int boot_int (yl_cons (ye_bin oy_fdivW (ye_var 0) (ye_var 2)) yl_nil)) (yl_cons (ye_callTy cy_int (by rfl) T.n_int boot_int (yl_cons (ye_bin oy_fdivW (ye_var 1) (ye_var 2)) yl_nil)) yl_nil)))))))
abbrev P_law_is_yes : List Str := ["value", "due"]
theorem sc_law_is_yes : FnScope N_law_is_yes P_law_is_yes (defScope s_law_is_yes) := ⟨rfl, rfl, rfl, by decide +kernel, rfl, by decide +kernel, by decide +kernel⟩
theorem ok_law_is_yes (T : Txt K mg) (vc : ∀ (ds : List D) (Q' : D → Prop) (E' : Nat → Prop), φ_law_is_yes ds Q' E' → r_law_is_yes (fun c _ => E' c) { nx := fun _ => Q' .non, rt := fun d _ => Q' d } (startE N_law_is_yes ds)) (len : ∀ ds Q E, φ_law_is_yes ds Q E → ds.length = 2) :
    CallOk P w K mg base 1 "_law_is_yes" P_law_is_yes φ_law_is_yes := by
  obtain ⟨fd, F⟩ := T.d_law_is_yes
  refine ⟨⟨fd, fun_ok F sc_law_is_yes len r_law_is_yes (fun cdv A outer s H E Ξ hr => ?_) vc, funLook F, F.bindsA fun _ _ _ _ _ _ us hl => match us, hl with | [_, _], _ => rfl⟩, F.kp, T.g_law_is_yes⟩
  exact (yss_one (ys_ret (ye_and (ye_isA .bool (ye_var 0) (peTy T.n_bool boot_bool) (by rfl) T.n_isinstance) (ye_one (ye_cmp (oy_eq hr.units) (ye_var 0) (ye_var 1))))))
abbrev P_law_still : List Str := ["pool"]
theorem sc_law_still : FnScope N_law_still P_law_still (defScope s_law_still) := ⟨rfl, rfl, rfl, by decide +kernel, rfl, by decide +kernel, by decide +kernel⟩
theorem ok_law_still (T : Txt K mg) (C_law_pick : CallOk P w K mg base 1 "_law_pick" P_law_pick φ_law_pick) (C_law_tops : CallOk P w K mg base 2 "_law_tops" P_law_tops φ_law_tops) (vc : ∀ (ds : List D) (Q' : D → Prop) (E' : Nat → Prop), φ_law_still ds Q' E' → r_law_still (fun c _ => E' c) { nx := fun _ => Q' .non, rt := fun d _ => Q' d } (startE N_law_still ds)) (len : ∀ ds Q E, φ_law_still ds Q E → ds.length = 1) :
    CallOk P w K mg base 3 "_law_still" P_law_still φ_law_still := by
  obtain ⟨fd, F⟩ := T.d_law_still
  refine ⟨⟨fd, fun_ok F sc_law_still len r_law_still (fun cdv A outer s H E Ξ hr => ?_) vc, funLook F, F.bindsA fun _ _ _ _ _ _ us hl => match us, hl with | [_], _ => rfl⟩, F.kp, T.g_law_still⟩
  exact (yss_cons (ys_par3 1 2 3 rfl sc_law_still.nd (by rfl) (by rfl) (by rfl) (by decide) (by decide) (by decide) rfl rfl rfl (yl_cons (ye_bin oy_sub (yeCall C_law_pick (takes_of rfl rfl rfl rfl) (hr.mono (by decide)) (yl_cons (ye_var 0) (yl_cons ye_int yl_nil))) ye_int) (yl_cons (yeCall C_law_pick (takes_of rfl rfl rfl rfl) (hr.mono (by decide)) (yl_cons (ye_var 0) (yl_cons ye_int yl_nil))) (yl_cons (ye_bin oy_add ye_int (yeCall C_law_pick (takes_of rfl rfl rfl rfl) (hr.mono (by decide)) (yl_cons (ye_var 0) (yl_cons ye_int yl_nil)))) yl_nil))))
  (yss_cons (ysSetO 4 sc_law_still.nd (yn_lst yl_nil))
  (yss_cons (ys_for (passes_of rfl) rfl (yi_range1 (by rfl) T.n_range (yl_cons (ye_var 3) yl_nil)) (ygN 5 sc_law_still.nd)
  (yss_cons (ys_par 6 7 rfl sc_law_still.nd (by rfl) (by rfl) (by decide) rfl rfl (yx_e (ye_bin oy_add ye_int (yeCall C_law_pick (takes_of rfl rfl rfl rfl) (hr.mono (by decide)) (yl_cons (ye_var 0) (yl_cons ye_int yl_nil))))) (yx_e (yeCall C_law_pick (takes_of rfl rfl rfl rfl) (hr.mono (by decide)) (yl_cons (ye_var 0) (yl_cons ye_int yl_nil)))))
  (yss_one (ysApp' 4 (ye_tup (yl_cons (ye_bin oy_sub (ye_var 7) (ye_bin oy_mulA (ye_var 6) (ye_var 1))) (yl_cons (ye_var 6) (yl_cons (ye_bin oy_sub (ye_var 7) (yeCall C_law_pick (takes_of rfl rfl rfl rfl) (hr.mono (by decide)) (yl_cons (ye_var 0) (yl_cons ye_int yl_nil)))) (yl_cons (ye_var 7) yl_nil)))))))))
  (yss_cons (ys_for (passes_of rfl) rfl (yi_range1 (by rfl) T.n_range (yl_cons (yeCall C_law_pick (takes_of rfl rfl rfl rfl) (hr.mono (by decide)) (yl_cons (ye_var 0) (yl_cons ye_int yl_nil))) yl_nil)) (ygN 5 sc_law_still.nd)
  (yss_cons (ys_par 6 8 rfl sc_law_still.nd (by rfl) (by rfl) (by decide) rfl rfl (yx_e (ye_bin oy_add ye_int (yeCall C_law_pick (takes_of rfl rfl rfl rfl) (hr.mono (by decide)) (yl_cons (ye_var 0) (yl_cons ye_int yl_nil))))) (yx_e (yeCall C_law_pick (takes_of rfl rfl rfl rfl) (hr.mono (by decide)) (yl_cons (ye_var 0) (yl_cons ye_int yl_nil)))))
  (yss_one (ysApp' 4 (ye_tup (yl_cons (ye_bin oy_sub (ye_var 8) (ye_bin oy_mulA (ye_var 6) (ye_bin oy_add (ye_var 1) (ye_var 2)))) (yl_cons (ye_var 6) (yl_cons (ye_var 8) (yl_cons (ye_ix (yn_lst (yl_cons ye_non (yl_cons (ye_bin oy_add (ye_var 8) (yeCall C_law_pick (takes_of rfl rfl rfl rfl) (hr.mono (by decide)) (yl_cons (ye_var 0) (yl_cons ye_int yl_nil)))) yl_nil))).ye (yeCall C_law_pick (takes_of rfl rfl rfl rfl) (hr.mono (by decide)) (yl_cons (ye_var 0) (yl_cons ye_int yl_nil)))) yl_nil)))))))))
  (yss_cons (ys_if (yt_cmp (oy_eq hr.units) (yeCall C_law_pick (takes_of rfl rfl rfl rfl) (hr.mono (by decide)) (yl_cons (ye_var 0) (yl_cons ye_int yl_nil))) ye_int)
  (yss_cons (ysSet 9 sc_law_still.nd (yeCall C_law_pick (takes_of rfl rfl rfl rfl) (hr.mono (by decide)) (yl_cons (ye_var 0) (yl_cons ye_int yl_nil))))
  (yss_one (ysApp' 4 (ye_tup (yl_cons (ye_bin oy_sub (yeCall C_law_pick (takes_of rfl rfl rfl rfl) (hr.mono (by decide)) (yl_cons (ye_var 0) (yl_cons ye_int yl_nil))) ye_int) (yl_cons (yeCall C_law_pick (takes_of rfl rfl rfl rfl) (hr.mono (by decide)) (yl_cons (ye_var 0) (yl_cons ye_int yl_nil))) (yl_cons (ye_var 9) (yl_cons (ye_var 9) yl_nil))))))))
  yss_nil)
  (yss_cons (ys_if (yt_cmp (oy_eq hr.units) (yeCall C_law_pick (takes_of rfl rfl rfl rfl) (hr.mono (by decide)) (yl_cons (ye_var 0) (yl_cons ye_int yl_nil))) ye_int)
  (yss_one (ysApp' 4 (ye_tup (yl_cons (yeCall C_law_pick (takes_of rfl rfl rfl rfl) (hr.mono (by decide)) (yl_cons (ye_var 0) (yl_cons ye_int yl_nil))) (yl_cons ye_int (yl_cons (yeCall C_law_pick (takes_of rfl rfl rfl rfl) (hr.mono (by decide)) (yl_cons (ye_var 0) (yl_cons ye_int yl_nil))) (yl_cons ye_non yl_nil)))))))
  yss_nil)
  (yss_cons (ysSet 10 sc_law_still.nd (ye_bin oy_mod (ye_callTy cy_int (by rfl) T.n_int boot_int (yl_cons (yeCall C_law_pick (takes_of rfl rfl rfl rfl) (hr.mono (by decide)) (yl_cons (ye_var 0) (yl_cons ye_int yl_nil))) yl_nil)) (ye_callB cy_len (by rfl) T.n_len PySem.boot_len (yl_cons (ye_var 4) yl_nil))))
  (yss_cons (ysSetO 4 sc_law_still.nd (yn_add (yn_sl (ye_var 4) (yo_some (ye_var 10)) yo_none).ye (yn_sl (ye_var 4) yo_none (yo_some (ye_var 10))).ye))
  (yss_one (ys_ret (ye_tup (yl_cons (ye_var 4) (yl_cons (ye_callB (cy_sum rfl) (by rfl) T.n_sum boot_sum (yl_cons (yeCall C_law_tops (takes_of rfl rfl rfl rfl) (hr.mono (by decide)) (yl_cons (ye_var 4) (yl_cons (ye_var 1) (yl_cons ye_int yl_nil)))) yl_nil)) (yl_cons (ye_var 1) (yl_cons (ye_bin oy_add (ye_var 1) (ye_var 2)) yl_nil)))))))))))))))
abbrev P_law_papers : List Str := ["pool", "parts", "room", "sizes"]
theorem sc_law_papers : FnScope N_law_papers P_law_papers (defScope s_law_papers) := ⟨rfl, rfl, rfl, by decide +kernel, rfl, by decide +kernel, by decide +kernel⟩
theorem ok_law_papers (T : Txt K mg) (C_law_lowest : CallOk P w K mg base 1 "_law_lowest" P_law_lowest φ_law_lowest) (C_law_pick : CallOk P w K mg base 1 "_law_pick" P_law_pick φ_law_pick) (C_law_tops : CallOk P w K mg base 2 "_law_tops" P_law_tops φ_law_tops) (C_law_has : CallOk P w K mg base 3 "_law_has" P_law_has φ_law_has) (vc : ∀ (ds : List D) (Q' : D → Prop) (E' : Nat → Prop), φ_law_papers ds Q' E' → r_law_papers (fun c _ => E' c) { nx := fun _ => Q' .non, rt := fun d _ => Q' d } (startE N_law_papers ds)) (len : ∀ ds Q E, φ_law_papers ds Q E → ds.length = 4) :
    CallOk P w K mg base 4 "_law_papers" P_law_papers φ_law_papers := by
  obtain ⟨fd, F⟩ := T.d_law_papers
  refine ⟨⟨fd, fun_ok F sc_law_papers len r_law_papers (fun cdv A outer s H E Ξ hr => ?_) vc, funLook F, F.bindsA fun _ _ _ _ _ _ us hl => match us, hl with | [_, _, _, _], _ => rfl⟩, F.kp, T.g_law_papers⟩
  exact (yss_cons (ysSetO 4 sc_law_papers.nd (yn_lst (yl_cons (ye_tup (yl_cons ye_int (yl_cons ye_int yl_nil))) (yl_cons (ye_tup (yl_cons ye_int (yl_cons ye_int yl_nil))) (yl_cons (ye_tup (yl_cons (ye_neg ye_int) (yl_cons ye_int yl_nil))) (yl_cons (yeCall C_law_lowest (takes_of rfl rfl rfl rfl) (hr.mono (by decide)) (yl_cons (ye_bin oy_sub (yeCall C_law_pick (takes_of rfl rfl rfl rfl) (hr.mono (by decide)) (yl_cons (ye_var 0) (yl_cons ye_int yl_nil))) ye_int) (yl_cons (ye_bin oy_add ye_int (yeCall C_law_pick (takes_of rfl rfl rfl rfl) (hr.mono (by decide)) (yl_cons (ye_var 0) (yl_cons ye_int yl_nil)))) yl_nil))) yl_nil))))))
  (yss_cons (ys_for (passes_of rfl) rfl (yi_seq (ye_var 1)) (yg_tup rfl (ygs_cons (ygN 5 sc_law_papers.nd) (ygs_cons (ygN 6 sc_law_papers.nd) (ygs_cons (ygN 7 sc_law_papers.nd) (ygs_cons (ygN 8 sc_law_papers.nd) ygs_nil)))))
  (yss_one (ys_for (passes_of rfl) rfl (yi_seq (yn_lst (yl_cons (ye_var 7) (yl_cons (ye_var 8) yl_nil))).ye) (ygN 9 sc_law_papers.nd)
  (yss_one (ys_if (YW.yt (yw_and (yt_cmp oy_gt (ye_var 6) ye_int) (yw_and1 (yt_cmp oy_notN (ye_var 9) ye_non))))
  (yss_cons (ysApp' 4 (yeCall C_law_lowest (takes_of rfl rfl rfl rfl) (hr.mono (by decide)) (yl_cons (ye_bin oy_sub (ye_var 9) (ye_var 5)) (yl_cons (ye_var 6) yl_nil))))
  (yss_one (ysApp' 4 (yeCall C_law_lowest (takes_of rfl rfl rfl rfl) (hr.mono (by decide)) (yl_cons (ye_bin oy_add (ye_bin oy_mulW ye_int (ye_bin oy_sub (ye_var 9) (ye_var 5))) ye_int) (yl_cons (ye_bin oy_mulW ye_int (ye_var 6)) yl_nil))))))
  yss_nil)))))
  (yss_cons (ysSetO 10 sc_law_papers.nd (yn_lst yl_nil))
  (yss_cons (ys_for (passes_of rfl) rfl (yi_seq (ye_var 4)) (ygN 11 sc_law_papers.nd)
  (yss_one (ysApp' 10 (ye_tup (yl_cons (ye_var 3) (yl_cons (ye_var 11) (yl_cons (ye_cmp (oy_eq hr.units) (ye_callB (cy_sum rfl) (by rfl) T.n_sum boot_sum (yl_cons (yeCall C_law_tops (takes_of rfl rfl rfl rfl) (hr.mono (by decide)) (yl_cons (ye_var 1) (yl_cons (ye_ix (ye_var 11) ye_int) (yl_cons (ye_ix (ye_var 11) ye_int) yl_nil)))) yl_nil)) (ye_bin oy_mulW (ye_var 2) (ye_ix (ye_var 11) ye_int))) yl_nil)))))))
  (yss_cons (ysApp' 10 (ye_tup (yl_cons (ye_var 3) (yl_cons ye_non (yl_cons (ye_not (yeCall C_law_has (takes_of rfl rfl rfl rfl) (hr.mono (by decide)) (yl_cons (ye_var 1) (yl_cons (ye_var 2) yl_nil)))) yl_nil)))))
  (yss_one (ys_ret (ye_var 10))))))))
abbrev P_law_spoilt : List Str := ["pool", "sizes", "ratio"]
theorem sc_law_spoilt : FnScope N_law_spoilt P_law_spoilt (defScope s_law_spoilt) := ⟨rfl, rfl, rfl, by decide +kernel, rfl, by decide +kernel, by decide +kernel⟩
theorem ok_law_spoilt (T : Txt K mg) (C_law_pick : CallOk P w K mg base 1 "_law_pick" P_law_pick φ_law_pick) (vc : ∀ (ds : List D) (Q' : D → Prop) (E' : Nat → Prop), φ_law_spoilt ds Q' E' → r_law_spoilt (fun c _ => E' c) { nx := fun _ => Q' .non, rt := fun d _ => Q' d } (startE N_law_spoilt ds)) (len : ∀ ds Q E, φ_law_spoilt ds Q E → ds.length = 3) :
    CallOk P w K mg base 2 "_law_spoilt" P_law_spoilt φ_law_spoilt := by
  obtain ⟨fd, F⟩ := T.d_law_spoilt
  refine ⟨⟨fd, fun_ok F sc_law_spoilt len r_law_spoilt (fun cdv A outer s H E Ξ hr => ?_) vc, funLook F, F.bindsA fun _ _ _ _ _ _ us hl => match us, hl with | [_, _, _], _ => rfl⟩, F.kp, T.g_law_spoilt⟩
  exact (yss_cons (ysSetO 3 sc_law_spoilt.nd (yn_lst (yl_cons (ye_tup (yl_cons (ye_callTy cy_tuple (by rfl) T.n_tuple boot_tuple (yl_cons (ye_var 1) yl_nil)) (yl_cons (ye_var 2) yl_nil))) (yl_cons (ye_tup (yl_cons (ye_bin oy_add (ye_var 1) (yn_lst (yl_cons ye_int yl_nil)).ye) (yl_cons (ye_var 2) yl_nil))) (yl_cons (ye_tup (yl_cons (ye_bin oy_add (yn_lst (yl_cons ye_int yl_nil)).ye (ye_var 1)) (yl_cons (ye_var 2) yl_nil))) (yl_cons (ye_tup (yl_cons ye_non (yl_cons (ye_var 2) yl_nil))) (yl_cons (ye_tup (yl_cons ye_dic0 (yl_cons (ye_var 2) yl_nil))) (yl_cons (ye_tup (yl_cons (ye_callTy (cy_strA hr.units) (by rfl) T.n_str boot_str (yl_cons (ye_var 1) yl_nil)) (yl_cons (ye_var 2) yl_nil))) yl_nil))))))))
  (yss_cons (ys_if (yt_cmp (oy_ne hr.units) (ye_var 1) (yn_lst yl_nil).ye)
  (yss_cons (ys_asg (ye_tup (yl_cons (ye_bin oy_mod (ye_callTy cy_int (by rfl) T.n_int boot_int (yl_cons (yeCall C_law_pick (takes_of rfl rfl rfl rfl) (hr.mono (by decide)) (yl_cons (ye_var 0) (yl_cons ye_int yl_nil))) yl_nil)) (ye_callB cy_len (by rfl) T.n_len PySem.boot_len (yl_cons (ye_var 1) yl_nil))) (yl_cons (ye_ix (yn_lst (yl_cons ye_int (yl_cons (ye_neg ye_int) (yl_cons ye_int (yl_cons (ye_bin oy_pow ye_int ye_int) yl_nil))))).ye (yeCall C_law_pick (takes_of rfl rfl rfl rfl) (hr.mono (by decide)) (yl_cons (ye_var 0) (yl_cons ye_int yl_nil)))) yl_nil))) (yg_tup rfl (ygs_cons (ygN 4 sc_law_spoilt.nd) (ygs_cons (ygN 5 sc_law_spoilt.nd) ygs_nil))))
  (yss_cons (ysApp' 3 (ye_tup (yl_cons (ye_bin oy_add (ye_bin oy_add (yn_sl (ye_var 1) yo_none (yo_some (ye_var 4))).ye (yn_lst (yl_cons (ye_bin oy_add (ye_ix (ye_var 1) (ye_var 4)) (ye_var 5)) yl_nil)).ye) (yn_sl (ye_var 1) (yo_some (ye_bin oy_add (ye_var 4) ye_int)) yo_none).ye) (yl_cons (ye_var 2) yl_nil))))
  (yss_cons (ysApp' 3 (ye_tup (yl_cons (ye_bin oy_add (yn_sl (ye_var 1) yo_none (yo_some (ye_var 4))).ye (yn_sl (ye_var 1) (yo_some (ye_bin oy_add (ye_var 4) ye_int)) yo_none).ye) (yl_cons (ye_var 2) yl_nil))))
  (yss_cons (ysApp' 3 (ye_tup (yl_cons (ye_bin oy_add (ye_bin oy_add (yn_sl (ye_var 1) yo_none (yo_some (ye_var 4))).ye (yn_lst (yl_cons (ye_callTy (cy_strA hr.units) (by rfl) T.n_str boot_str (yl_cons (ye_ix (ye_var 1) (ye_var 4)) yl_nil)) yl_nil)).ye) (yn_sl (ye_var 1) (yo_some (ye_bin oy_add (ye_var 4) ye_int)) yo_none).ye) (yl_cons (ye_var 2) yl_nil))))
  (yss_cons (ysApp' 3 (ye_tup (yl_cons (ye_bin oy_add (ye_bin oy_add (yn_sl (ye_var 1) yo_none (yo_some (ye_var 4))).ye (yn_lst (yl_cons (ye_tup (yl_cons (ye_ix (ye_var 1) (ye_var 4)) yl_nil)) yl_nil)).ye) (yn_sl (ye_var 1) (yo_some (ye_bin oy_add (ye_var 4) ye_int)) yo_none).ye) (yl_cons (ye_var 2) yl_nil))))
  (yss_cons (ys_if (yt_cmp oy_in (ye_ix (ye_var 1) (ye_var 4)) (yn_lst (yl_cons ye_int (yl_cons ye_int yl_nil))).ye)
  (yss_one (ysApp' 3 (ye_tup (yl_cons (ye_bin oy_add (ye_bin oy_add (yn_sl (ye_var 1) yo_none (yo_some (ye_var 4))).ye (yn_lst (yl_cons (ye_cmp (oy_eq hr.units) (ye_ix (ye_var 1) (ye_var 4)) ye_int) yl_nil)).ye) (yn_sl (ye_var 1) (yo_some (ye_bin oy_add (ye_var 4) ye_int)) yo_none).ye) (yl_cons (ye_var 2) yl_nil)))))
  yss_nil)
  (yss_cons (ysSet 6 sc_law_spoilt.nd (ye_bin oy_mod (ye_callTy cy_int (by rfl) T.n_int boot_int (yl_cons (ye_bin oy_add (ye_var 4) ye_int) yl_nil)) (ye_callB cy_len (by rfl) T.n_len PySem.boot_len (yl_cons (ye_var 1) yl_nil))))
  (yss_one (ys_if (yt_cmp (oy_ne hr.units) (ye_var 6) (ye_var 4))
  (yss_cons (ys_setLc (own := [(("k" : Str), 11)]) 7 false rfl sc_law_spoilt.nd rfl rfl (sw_true rfl rfl rfl (by decide +kernel)) (yi_range1 (by rfl) T.n_range (yl_cons (ye_callB cy_len (by rfl) T.n_len PySem.boot_len (yl_cons (ye_var 1) yl_nil)) yl_nil)) (blkOk_by (by rfl)) (fun _ _ _ _ _ => (ygN 11 sc_law_spoilt.nd)) (fun _ _ _ _ _ => yts_nil) (fun _ _ _ _ _ => (ye_bin oy_sub (ye_bin oy_add (ye_ix (ye_var 1) (ye_var 11)) (ye_ix (yn_lst (yl_cons ye_int (yl_cons (ye_var 5) yl_nil))).ye (ye_callTy cy_int (by rfl) T.n_int boot_int (yl_cons (ye_cmp (oy_eq hr.units) (ye_var 11) (ye_var 4)) yl_nil)))) (ye_ix (yn_lst (yl_cons ye_int (yl_cons (ye_var 5) yl_nil))).ye (ye_callTy cy_int (by rfl) T.n_int boot_int (yl_cons (ye_cmp (oy_eq hr.units) (ye_var 11) (ye_var 6)) yl_nil))))))
  (yss_cons (ysApp' 3 (ye_tup (yl_cons (ye_var 7) (yl_cons (ye_var 2) yl_nil))))
  (yss_one (ysApp' 3 (ye_tup (yl_cons (ye_bin oy_add (yn_lstRev rfl (by rfl) T.n_list (by rfl) T.n_reversed (ye_var 1)).ye (yn_lst (yl_cons ye_int yl_nil)).ye) (yl_cons (ye_var 2) yl_nil)))))))
  yss_nil)))))))))
  yss_nil)
  (yss_cons (ys_if (yt_cmp oy_notN (ye_var 2) ye_non)
  (yss_cons (ys_asg (ye_var 2) (yg_tup rfl (ygs_cons (ygN 8 sc_law_spoilt.nd) (ygs_cons (ygN 9 sc_law_spoilt.nd) ygs_nil))))
  (yss_cons (ys_for (passes_of rfl) rfl (yi_seq (yn_lst (yl_cons (ye_tup (yl_cons (ye_bin oy_mulA ye_int (ye_var 8)) (yl_cons (ye_bin oy_mulA ye_int (ye_var 9)) yl_nil))) (yl_cons (ye_tup (yl_cons (ye_bin oy_sub ye_int (ye_var 8)) (yl_cons (ye_bin oy_sub ye_int (ye_var 9)) yl_nil))) (yl_cons (yn_lst (yl_cons (ye_var 8) (yl_cons (ye_var 9) yl_nil))).ye (yl_cons (ye_tup (yl_cons (ye_var 8) yl_nil)) (yl_cons (ye_tup (yl_cons (ye_var 8) (yl_cons (ye_var 9) (yl_cons ye_int yl_nil)))) (yl_cons (ye_tup (yl_cons (ye_var 8) (yl_cons ye_int yl_nil))) (yl_cons (ye_tup (yl_cons (ye_var 8) (yl_cons ye_non yl_nil))) (yl_cons (ye_callTy (cy_strA hr.units) (by rfl) T.n_str boot_str (yl_cons (ye_var 2) yl_nil)) (yl_cons (ye_var 8) (yl_cons ye_bl (yl_cons (ye_tup (yl_cons (ye_callTy (cy_strA hr.units) (by rfl) T.n_str boot_str (yl_cons (ye_var 8) yl_nil)) (yl_cons (ye_var 9) yl_nil))) (yl_cons (ye_tup (yl_cons (ye_var 8) (yl_cons (ye_tup (yl_cons (ye_var 9) yl_nil)) yl_nil))) yl_nil))))))))))))).ye) (ygN 10 sc_law_spoilt.nd)
  (yss_one (ysApp' 3 (ye_tup (yl_cons (ye_var 1) (yl_cons (ye_var 10) yl_nil))))))
  (yss_one (ys_if (yt_cmp (oy_eq hr.units) (ye_var 9) ye_int)
  (yss_one (ysApp' 3 (ye_tup (yl_cons (ye_var 1) (yl_cons (ye_tup (yl_cons (ye_var 8) (yl_cons ye_bl yl_nil))) yl_nil)))))
  yss_nil))))
  (yss_one (ysSetO 3 sc_law_spoilt.nd (yn_add (ye_var 3) (yn_lst (yl_cons (ye_tup (yl_cons (ye_var 1) (yl_cons (ye_tup (yl_cons ye_int (yl_cons ye_int yl_nil))) yl_nil))) (yl_cons (ye_tup (yl_cons (ye_var 1) (yl_cons (ye_tup yl_nil) yl_nil))) (yl_cons (ye_tup (yl_cons (ye_var 1) (yl_cons ye_bl yl_nil))) (yl_cons (ye_tup (yl_cons (ye_var 1) (yl_cons ye_int yl_nil))) (yl_cons (ye_tup (yl_cons (ye_var 1) (yl_cons (ye_tup (yl_cons ye_non (yl_cons ye_int yl_nil))) yl_nil))) yl_nil)))))).ye))))
  (yss_one (ys_ret (ye_var 3))))))
abbrev P_law_all_said : List Str := ["pool", "parts", "room"]
theorem sc_law_all_said : FnScope N_law_all_said P_law_all_said (defScope s_law_all_said) := ⟨rfl, rfl, rfl, by decide +kernel, rfl, by decide +kernel, by decide +kernel⟩
theorem ok_law_all_said (T : Txt K mg) (C_law_share : CallOk P w K mg base 3 "_law_share" P_law_share φ_law_share) (C_law_papers : CallOk P w K mg base 4 "_law_papers" P_law_papers φ_law_papers) (C_law_is_yes : CallOk P w K mg base 1 "_law_is_yes" P_law_is_yes φ_law_is_yes) (C_is_share : CallOk P w K mg base 6 "is_share" P_is_share φ_is_share) (C_shares : CallOk P w K mg base 5 "shares" P_shares φ_shares) (C_law_pick : CallOk P w K mg base 1 "_law_pick" P_law_pick φ_law_pick) (C_law_spoilt : CallOk P w K mg base 2 "_law_spoilt" P_law_spoilt φ_law_spoilt) (vc : ∀ (ds : List D) (Q' : D → Prop) (E' : Nat → Prop), φ_law_all_said ds Q' E' → r_law_all_said (fun c _ => E' c) { nx := fun _ => Q' .non, rt := fun d _ => Q' d } (startE N_law_all_said ds)) (len : ∀ ds Q E, φ_law_all_said ds Q E → ds.length = 3) :
    CallOk P w K mg base 7 "_law_all_said" P_law_all_said φ_law_all_said := by
  obtain ⟨fd, F⟩ := T.d_law_all_said
  refine ⟨⟨fd, fun_ok F sc_law_all_said len r_law_all_said (fun cdv A outer s H E Ξ hr => ?_) vc, funLook F, F.bindsA fun _ _ _ _ _ _ us hl => match us, hl with | [_, _, _], _ => rfl⟩, F.kp, T.g_law_all_said⟩
  exact (yss_cons (ys_par 3 4 rfl sc_law_all_said.nd (by rfl) (by rfl) (by decide) rfl rfl (yx_e (yeCall C_law_share (takes_of rfl rfl rfl rfl) (hr.mono (by decide)) (yl_cons (ye_var 1) (yl_cons (ye_var 2) yl_nil)))) (yx_e (yn_callTy cn_list (by rfl) T.n_list boot_list (yl_cons (ye_var 1) yl_nil)).ye))
  (yss_cons (ysSetO 5 sc_law_all_said.nd (yn_lst yl_nil))
  (yss_cons (ys_for (passes_of rfl) rfl (yi_seq (yeCall C_law_papers (takes_of rfl rfl rfl rfl) (hr.mono (by decide)) (yl_cons (ye_var 0) (yl_cons (ye_var 1) (yl_cons (ye_var 2) (yl_cons (ye_var 3) yl_nil)))))) (yg_tup rfl (ygs_cons (ygN 6 sc_law_all_said.nd) (ygs_cons (ygN 7 sc_law_all_said.nd) (ygs_cons (ygN 8 sc_law_all_said.nd) ygs_nil))))
  (yss_cons (ys_if (yt_not (yt_tru (yeCall C_law_is_yes (takes_of rfl rfl rfl rfl) (hr.mono (by decide)) (yl_cons (yeCall C_is_share (takes_of rfl rfl rfl rfl) (hr.mono (by decide)) (yl_cons (ye_var 4) (yl_cons (ye_var 2) (yl_cons (yn_callTy cn_list (by rfl) T.n_list boot_list (yl_cons (ye_var 6) yl_nil)).ye (yl_cons (ye_var 7) yl_nil))))) (yl_cons (ye_var 8) yl_nil)))))
  (yss_one (ys_ret ye_bl))
  yss_nil)
  (yss_one (ys_if (yt_tru (ye_var 8))
  (yss_one (ysApp' 5 (ye_var 7)))
  yss_nil))))
  (yss_cons (ysSet 9 sc_law_all_said.nd (yeCall C_shares (takes_of rfl rfl rfl rfl) (hr.mono (by decide)) (yl_cons (yn_callTy cn_list (by rfl) T.n_list boot_list (yl_cons (ye_var 1) yl_nil)).ye (yl_cons (ye_var 2) yl_nil))))
  (yss_cons (ys_if (yt_not (yt_tru (yeCall C_law_is_yes (takes_of rfl rfl rfl rfl) (hr.mono (by decide)) (yl_cons (yeCall C_is_share (takes_of rfl rfl rfl rfl) (hr.mono (by decide)) (yl_cons (ye_var 4) (yl_cons (ye_var 2) (yl_cons (ye_ix (ye_var 9) ye_int) (yl_cons (ye_ix (ye_var 9) ye_int) yl_nil))))) (yl_cons ye_bl yl_nil)))))
  (yss_one (ys_ret ye_bl))
  yss_nil)
  (yss_cons (ysSet 7 sc_law_all_said.nd (ye_ix (ye_var 9) ye_int))
  (yss_cons (ys_if (yt_cmp (oy_ne hr.units) (ye_var 5) (yn_lst yl_nil).ye)
  (yss_one (ysSet 7 sc_law_all_said.nd (ye_ix (ye_var 5) (ye_bin oy_mod (ye_callTy cy_int (by rfl) T.n_int boot_int (yl_cons (yeCall C_law_pick (takes_of rfl rfl rfl rfl) (hr.mono (by decide)) (yl_cons (ye_var 0) (yl_cons ye_int yl_nil))) yl_nil)) (ye_callB cy_len (by rfl) T.n_len PySem.boot_len (yl_cons (ye_var 5) yl_nil))))))
  yss_nil)
  (yss_cons (ysSet 10 sc_law_all_said.nd (yeCall C_law_spoilt (takes_of rfl rfl rfl rfl) (hr.mono (by decide)) (yl_cons (ye_var 0) (yl_cons (ye_var 3) (yl_cons (ye_var 7) yl_nil)))))
  (yss_cons (ysSet 11 sc_law_all_said.nd (yeCall C_law_pick (takes_of rfl rfl rfl rfl) (hr.mono (by decide)) (yl_cons (ye_var 0) (yl_cons ye_int yl_nil))))
  (yss_cons (ys_for (passes_of rfl) rfl (yi_range1 (by rfl) T.n_range (yl_cons ye_int yl_nil)) (ygN 12 sc_law_all_said.nd)
  (yss_cons (ys_asg (ye_ix (ye_var 10) (ye_bin oy_mod (ye_callTy cy_int (by rfl) T.n_int boot_int (yl_cons (ye_bin oy_add (ye_var 11) (ye_bin oy_mulA (ye_var 12) ye_int)) yl_nil)) (ye_callB cy_len (by rfl) T.n_len PySem.boot_len (yl_cons (ye_var 10) yl_nil)))) (yg_tup rfl (ygs_cons (ygN 6 sc_law_all_said.nd) (ygs_cons (ygN 13 sc_law_all_said.nd) ygs_nil))))
  (yss_one (ys_if (yt_not (yt_tru (yeCall C_law_is_yes (takes_of rfl rfl rfl rfl) (hr.mono (by decide)) (yl_cons (yeCall C_is_share (takes_of rfl rfl rfl rfl) (hr.mono (by decide)) (yl_cons (ye_var 4) (yl_cons (ye_var 2) (yl_cons (ye_var 6) (yl_cons (ye_var 13) yl_nil))))) (yl_cons ye_bl yl_nil)))))
  (yss_one (ys_ret ye_bl))
  yss_nil))))
  (yss_cons (ysSet 14 sc_law_all_said.nd (ye_bin oy_add (ye_var 2) (ye_ix (yn_lst (yl_cons ye_int (yl_cons (ye_neg ye_int) (yl_cons ye_int yl_nil)))).ye (yeCall C_law_pick (takes_of rfl rfl rfl rfl) (hr.mono (by decide)) (yl_cons (ye_var 0) (yl_cons ye_int yl_nil))))))
  (yss_cons (ysSet 15 sc_law_all_said.nd (ye_cmp (oy_eq hr.units) (yeCall C_law_share (takes_of rfl rfl rfl rfl) (hr.mono (by decide)) (yl_cons (ye_var 1) (yl_cons (ye_var 14) yl_nil))) (ye_var 3)))
  (yss_cons (ys_if (YW.yt (yw_and (yt_cmp oy_notN (ye_var 7) ye_non) (yw_and1 (yt_not (yt_tru (yeCall C_law_is_yes (takes_of rfl rfl rfl rfl) (hr.mono (by decide)) (yl_cons (yeCall C_is_share (takes_of rfl rfl rfl rfl) (hr.mono (by decide)) (yl_cons (ye_var 4) (yl_cons (ye_var 14) (yl_cons (ye_var 3) (yl_cons (ye_var 7) yl_nil))))) (yl_cons ye_bl yl_nil))))))))
  (yss_one (ys_ret ye_bl))
  yss_nil)
  (yss_one (ys_ret (ye_and (ye_or (ye_var 15) (ye_one (yeCall C_law_is_yes (takes_of rfl rfl rfl rfl) (hr.mono (by decide)) (yl_cons (yeCall C_is_share (takes_of rfl rfl rfl rfl) (hr.mono (by decide)) (yl_cons (ye_var 4) (yl_cons (ye_var 14) (yl_cons (ye_var 3) (yl_cons ye_non yl_nil))))) (yl_cons ye_bl yl_nil))))) (ye_one (ye_cmp (oy_eq hr.units) (ye_var 4) (ye_var 1)))))))))))))))))))
abbrev P_law_moved : List Str := ["pool", "parts", "room"]
theorem sc_law_moved : FnScope N_law_moved P_law_moved (defScope s_law_moved) := ⟨rfl, rfl, rfl, by decide +kernel, rfl, by decide +kernel, by decide +kernel⟩
theorem ok_law_moved (T : Txt K mg) (C_shares : CallOk P w K mg base 5 "shares" P_shares φ_shares) (C_law_pick : CallOk P w K mg base 1 "_law_pick" P_law_pick φ_law_pick) (C_law_is_yes : CallOk P w K mg base 1 "_law_is_yes" P_law_is_yes φ_law_is_yes) (C_is_share : CallOk P w K mg base 6 "is_share" P_is_share φ_is_share) (C_law_lowest : CallOk P w K mg base 1 "_law_lowest" P_law_lowest φ_law_lowest) (vc : ∀ (ds : List D) (Q' : D → Prop) (E' : Nat → Prop), φ_law_moved ds Q' E' → r_law_moved (fun c _ => E' c) { nx := fun _ => Q' .non, rt := fun d _ => Q' d } (startE N_law_moved ds)) (len : ∀ ds Q E, φ_law_moved ds Q E → ds.length = 3) :
    CallOk P w K mg base 7 "_law_moved" P_law_moved φ_law_moved := by
  obtain ⟨fd, F⟩ := T.d_law_moved
  refine ⟨⟨fd, fun_ok F sc_law_moved len r_law_moved (fun cdv A outer s H E Ξ hr => ?_) vc, funLook F, F.bindsA fun _ _ _ _ _ _ us hl => match us, hl with | [_, _, _], _ => rfl⟩, F.kp, T.g_law_moved⟩
  exact (yss_cons (ysSet 3 sc_law_moved.nd (yeCall C_shares (takes_of rfl rfl rfl rfl) (hr.mono (by decide)) (yl_cons (yn_callTy cn_list (by rfl) T.n_list boot_list (yl_cons (ye_var 1) yl_nil)).ye (yl_cons (ye_var 2) yl_nil))))
  (yss_cons (ys_asg (ye_tup (yl_cons (ye_ix (ye_var 3) ye_int) (yl_cons (ye_ix (ye_var 3) ye_int) (yl_cons (ye_bin oy_sub (yeCall C_law_pick (takes_of rfl rfl rfl rfl) (hr.mono (by decide)) (yl_cons (ye_var 0) (yl_cons ye_int yl_nil))) ye_int) yl_nil)))) (yg_tup rfl (ygs_cons (ygN 4 sc_law_moved.nd) (ygs_cons (ygN 5 sc_law_moved.nd) (ygs_cons (ygN 6 sc_law_moved.nd) ygs_nil)))))
  (yss_cons (ys_if (yt_not (yt_tru (yeCall C_law_is_yes (takes_of rfl rfl rfl rfl) (hr.mono (by decide)) (yl_cons (yeCall C_is_share (takes_of rfl rfl rfl rfl) (hr.mono (by decide)) (yl_cons (yn_callTy cn_list (by rfl) T.n_list boot_list (yl_cons (ye_var 1) yl_nil)).ye (yl_cons (ye_var 2) (yl_cons (ye_var 4) (yl_cons (ye_var 5) yl_nil))))) (yl_cons ye_bl yl_nil)))))
  (yss_one (ys_ret ye_bl))
  yss_nil)
  (yss_cons (ys_for (passes_of rfl) rfl (yi_range1 (by rfl) T.n_range (yl_cons (ye_callB cy_len (by rfl) T.n_len PySem.boot_len (yl_cons (ye_var 1) yl_nil)) yl_nil)) (ygN 7 sc_law_moved.nd)
  (yss_cons (ys_asg (ye_ix (ye_var 1) (ye_var 7)) (yg_tup rfl (ygs_cons (ygN 8 sc_law_moved.nd) (ygs_cons (ygN 9 sc_law_moved.nd) (ygs_cons (ygN 10 sc_law_moved.nd) (ygs_cons (ygN 11 sc_law_moved.nd) ygs_nil))))))
  (yss_cons (ysSet 12 sc_law_moved.nd (ye_tup (yl_cons (ye_bin oy_add (ye_var 8) (ye_var 6)) (yl_cons (ye_var 9) (yl_cons (ye_bin oy_add (ye_var 10) (ye_var 6)) (yl_cons ye_non yl_nil))))))
  (yss_cons (ys_if (yt_cmp oy_notN (ye_var 11) ye_non)
  (yss_one (ysSet 12 sc_law_moved.nd (ye_tup (yl_cons (ye_bin oy_add (ye_var 8) (ye_var 6)) (yl_cons (ye_var 9) (yl_cons (ye_bin oy_add (ye_var 10) (ye_var 6)) (yl_cons (ye_bin oy_add (ye_var 11) (ye_var 6)) yl_nil)))))))
  yss_nil)
  (yss_cons (ys_setLc (own := [(("k" : Str), 19)]) 13 false rfl sc_law_moved.nd rfl rfl (sw_true rfl rfl rfl (by decide +kernel)) (yi_range1 (by rfl) T.n_range (yl_cons (ye_callB cy_len (by rfl) T.n_len PySem.boot_len (yl_cons (ye_var 1) yl_nil)) yl_nil)) (blkOk_by (by rfl)) (fun _ _ _ _ _ => (ygN 19 sc_law_moved.nd)) (fun _ _ _ _ _ => yts_nil) (fun _ _ _ _ _ => (ye_bin oy_add (ye_ix (ye_var 4) (ye_var 19)) (ye_ix (yn_lst (yl_cons ye_int (yl_cons (ye_var 6) yl_nil))).ye (ye_callTy cy_int (by rfl) T.n_int boot_int (yl_cons (ye_cmp (oy_eq hr.units) (ye_var 19) (ye_var 7)) yl_nil))))))
  (yss_one (ys_if (yt_not (yt_tru (yeCall C_law_is_yes (takes_of rfl rfl rfl rfl) (hr.mono (by decide)) (yl_cons (yeCall C_is_share (takes_of rfl rfl rfl rfl) (hr.mono (by decide)) (yl_cons (ye_bin oy_add (ye_bin oy_add (yn_sl (ye_var 1) yo_none (yo_some (ye_var 7))).ye (yn_lst (yl_cons (ye_var 12) yl_nil)).ye) (yn_sl (ye_var 1) (yo_some (ye_bin oy_add (ye_var 7) ye_int)) yo_none).ye) (yl_cons (ye_bin oy_add (ye_var 2) (ye_var 6)) (yl_cons (ye_var 13) (yl_cons (ye_var 5) yl_nil))))) (yl_cons ye_bl yl_nil)))))
  (yss_one (ys_ret ye_bl))
  yss_nil)))))))
  (yss_cons (ysSet 14 sc_law_moved.nd (ye_bin oy_add ye_int (yeCall C_law_pick (takes_of rfl rfl rfl rfl) (hr.mono (by decide)) (yl_cons (ye_var 0) (yl_cons ye_int yl_nil)))))
  (yss_cons (ys_setLc (own := [(("base" : Str), 8), (("weight" : Str), 9), (("lo" : Str), 10), (("hi" : Str), 11)]) 15 false rfl sc_law_moved.nd rfl rfl (sw_true rfl rfl rfl (by decide +kernel)) (yi_seq (ye_var 1)) (blkOk_by (by rfl)) (fun _ _ _ _ _ => (yg_tup rfl (ygs_cons (ygN 8 sc_law_moved.nd) (ygs_cons (ygN 9 sc_law_moved.nd) (ygs_cons (ygN 10 sc_law_moved.nd) (ygs_cons (ygN 11 sc_law_moved.nd) ygs_nil)))))) (fun _ _ _ _ _ => yts_nil) (fun _ _ _ _ _ => (ye_tup (yl_cons (ye_bin oy_add (ye_var 8) (ye_bin oy_mulW (ye_var 6) (ye_var 9))) (yl_cons (ye_var 9) (yl_cons (ye_var 10) (yl_cons (ye_var 11) yl_nil)))))))
  (yss_cons (ys_setLc (own := [(("base" : Str), 8), (("weight" : Str), 9), (("lo" : Str), 10), (("hi" : Str), 11)]) 16 false rfl sc_law_moved.nd rfl rfl (sw_true rfl rfl rfl (by decide +kernel)) (yi_seq (ye_var 1)) (blkOk_by (by rfl)) (fun _ _ _ _ _ => (yg_tup rfl (ygs_cons (ygN 8 sc_law_moved.nd) (ygs_cons (ygN 9 sc_law_moved.nd) (ygs_cons (ygN 10 sc_law_moved.nd) (ygs_cons (ygN 11 sc_law_moved.nd) ygs_nil)))))) (fun _ _ _ _ _ => yts_nil) (fun _ _ _ _ _ => (ye_tup (yl_cons (ye_var 8) (yl_cons (ye_bin oy_mulW (ye_var 9) (ye_var 14)) (yl_cons (ye_var 10) (yl_cons (ye_var 11) yl_nil)))))))
  (yss_cons (ys_if (yt_cmp oy_isN (ye_var 5) ye_non)
  (yss_one (ys_ret (ye_and (yeCall C_law_is_yes (takes_of rfl rfl rfl rfl) (hr.mono (by decide)) (yl_cons (yeCall C_is_share (takes_of rfl rfl rfl rfl) (hr.mono (by decide)) (yl_cons (ye_var 15) (yl_cons (ye_var 2) (yl_cons (ye_var 4) (yl_cons ye_non yl_nil))))) (yl_cons ye_bl yl_nil))) (ye_one (yeCall C_law_is_yes (takes_of rfl rfl rfl rfl) (hr.mono (by decide)) (yl_cons (yeCall C_is_share (takes_of rfl rfl rfl rfl) (hr.mono (by decide)) (yl_cons (ye_var 16) (yl_cons (ye_var 2) (yl_cons (ye_var 4) (yl_cons ye_non yl_nil))))) (yl_cons ye_bl yl_nil)))))))
  yss_nil)
  (yss_cons (ys_asg (ye_var 5) (yg_tup rfl (ygs_cons (ygN 17 sc_law_moved.nd) (ygs_cons (ygN 18 sc_law_moved.nd) ygs_nil))))
  (yss_cons (ys_if (yt_not (yt_tru (yeCall C_law_is_yes (takes_of rfl rfl rfl rfl) (hr.mono (by decide)) (yl_cons (yeCall C_is_share (takes_of rfl rfl rfl rfl) (hr.mono (by decide)) (yl_cons (ye_var 15) (yl_cons (ye_var 2) (yl_cons (ye_var 4) (yl_cons (ye_tup (yl_cons (ye_bin oy_sub (ye_var 17) (ye_bin oy_mulW (ye_var 6) (ye_var 18))) (yl_cons (ye_var 18) yl_nil))) yl_nil))))) (yl_cons ye_bl yl_nil)))))
  (yss_one (ys_ret ye_bl))
  yss_nil)
  (yss_one (ys_ret (yeCall C_law_is_yes (takes_of rfl rfl rfl rfl) (hr.mono (by decide)) (yl_cons (yeCall C_is_share (takes_of rfl rfl rfl rfl) (hr.mono (by decide)) (yl_cons (ye_var 16) (yl_cons (ye_var 2) (yl_cons (ye_var 4) (yl_cons (yeCall C_law_lowest (takes_of rfl rfl rfl rfl) (hr.mono (by decide)) (yl_cons (ye_var 17) (yl_cons (ye_bin oy_mulW (ye_var 18) (ye_var 14)) yl_nil))) yl_nil))))) (yl_cons ye_bl yl_nil)))))))))))))))
abbrev P_law_outcome : List Str := ["parts", "room", "sizes", "ratio"]
theorem sc_law_outcome : FnScope N_law_outcome P_law_outcome (defScope s_law_outcome) := ⟨rfl, rfl, rfl, by decide +kernel, rfl, by decide +kernel, by decide +kernel⟩
theorem ok_law_outcome (T : Txt K mg) (C_is_share : CallOk P w K mg base 6 "is_share" P_is_share φ_is_share) (vc : ∀ (ds : List D) (Q' : D → Prop) (E' : Nat → Prop), φ_law_outcome ds Q' E' → r_law_outcome (fun c _ => E' c) { nx := fun _ => Q' .non, rt := fun d _ => Q' d } (startE N_law_outcome ds)) (len : ∀ ds Q E, φ_law_outcome ds Q E → ds.length = 4) :
    CallOk P w K mg base 7 "_law_outcome" P_law_outcome φ_law_outcome := by
  obtain ⟨fd, F⟩ := T.d_law_outcome
  refine ⟨⟨fd, fun_ok F sc_law_outcome len r_law_outcome (fun cdv A outer s H E Ξ hr => ?_) vc, funLook F, F.bindsA fun _ _ _ _ _ _ us hl => match us, hl with | [_, _, _, _], _ => rfl⟩, F.kp, T.g_law_outcome⟩
  exact (yss_cons (ys_try (cs := exCs) 4 T.xk rfl rfl sc_law_outcome.nd (by rfl) rfl rfl ⟨by rfl, by decide, .inl T.g_PageError⟩ (takes_of rfl rfl rfl rfl)
  (rb := fun Ξb => (ysDrop (yCall φ_is_share Ξb (ylCons (yVar 0) (ylCons (yVar 1) (ylCons (yVar 2) (ylCons (yVar 3) ylNil))))))) (rs := fun a c => (ysRet (yAndV (yIsE 4 a c 12) (yNotB (yIsE 4 a c 10)))))
  (fun Wb Ξb pn xe tkb po => (yss_one (ys_expr (yeCall C_is_share tkb (hr.mono (by decide)) (yl_cons (ye_var 0) (yl_cons (ye_var 1) (yl_cons (ye_var 2) (yl_cons (ye_var 3) yl_nil))))))))
  (fun c a oe pn hc xc hz hf => (yss_one (ys_ret (ye_and (ye_isE c 12 4 T.xk hc (by decide) hz hf (by rfl) T.n_isinstance (by rfl) (by first | exact Or.inl rfl | exact Or.inr rfl) (by rfl) (by rfl) T.g_BadParts) (ye_one (ye_not (ye_isE c 10 4 T.xk hc (by decide) hz hf (by rfl) T.n_isinstance (by rfl) (by first | exact Or.inl rfl | exact Or.inr rfl) (by rfl) (by rfl) T.g_BadList))))))))
  (yss_one (ys_ret ye_bl)))
abbrev P_law_refused : List Str := ["pool", "parts", "room"]
theorem sc_law_refused : FnScope N_law_refused P_law_refused (defScope s_law_refused) := ⟨rfl, rfl, rfl, by decide +kernel, rfl, by decide +kernel, by decide +kernel⟩
theorem ok_law_refused (T : Txt K mg) (C_law_share : CallOk P w K mg base 3 "_law_share" P_law_share φ_law_share) (C_law_pick : CallOk P w K mg base 1 "_law_pick" P_law_pick φ_law_pick) (C_law_outcome : CallOk P w K mg base 7 "_law_outcome" P_law_outcome φ_law_outcome) (C_law_is_yes : CallOk P w K mg base 1 "_law_is_yes" P_law_is_yes φ_law_is_yes) (C_is_share : CallOk P w K mg base 6 "is_share" P_is_share φ_is_share) (vc : ∀ (ds : List D) (Q' : D → Prop) (E' : Nat → Prop), φ_law_refused ds Q' E' → r_law_refused (fun c _ => E' c) { nx := fun _ => Q' .non, rt := fun d _ => Q' d } (startE N_law_refused ds)) (len : ∀ ds Q E, φ_law_refused ds Q E → ds.length = 3) :
    CallOk P w K mg base 8 "_law_refused" P_law_refused φ_law_refused := by
  obtain ⟨fd, F⟩ := T.d_law_refused
  refine ⟨⟨fd, fun_ok F sc_law_refused len r_law_refused (fun cdv A outer s H E Ξ hr => ?_) vc, funLook F, F.bindsA fun _ _ _ _ _ _ us hl => match us, hl with | [_, _, _], _ => rfl⟩, F.kp, T.g_law_refused⟩
  exact (yss_cons (ysSet 3 sc_law_refused.nd (yeCall C_law_share (takes_of rfl rfl rfl rfl) (hr.mono (by decide)) (yl_cons (ye_var 1) (yl_cons (ye_var 2) yl_nil))))
  (yss_cons (ysSet 4 sc_law_refused.nd (yn_lst (yl_cons (ye_tup (yl_cons ye_int (yl_cons (ye_neg ye_int) (yl_cons ye_int (yl_cons ye_non yl_nil))))) (yl_cons (ye_tup (yl_cons ye_int (yl_cons ye_int (yl_cons ye_int (yl_cons ye_int yl_nil))))) (yl_cons (yn_lst (yl_cons ye_int (yl_cons ye_int (yl_cons ye_int (yl_cons ye_non yl_nil))))).ye (yl_cons (ye_tup (yl_cons ye_int (yl_cons ye_int (yl_cons ye_int yl_nil)))) (yl_cons (ye_tup (yl_cons ye_bl (yl_cons ye_int (yl_cons ye_int (yl_cons ye_non yl_nil))))) (yl_cons (ye_tup (yl_cons ye_int (yl_cons ye_int (yl_cons ye_non (yl_cons ye_non yl_nil))))) (yl_cons (ye_tup (yl_cons ye_int (yl_cons ye_int (yl_cons ye_int (yl_cons ye_str yl_nil))))) (yl_cons ye_non (yl_cons ye_int (yl_cons (ye_tup (yl_cons ye_int (yl_cons ye_bl (yl_cons ye_int (yl_cons ye_int yl_nil))))) yl_nil))))))))))).ye)
  (yss_cons (ys_par 5 6 rfl sc_law_refused.nd (by rfl) (by rfl) (by decide) rfl rfl (yx_e (ye_ix (ye_var 4) (yeCall C_law_pick (takes_of rfl rfl rfl rfl) (hr.mono (by decide)) (yl_cons (ye_var 0) (yl_cons ye_int yl_nil))))) (yx_e (ye_bin oy_mod (ye_callTy cy_int (by rfl) T.n_int boot_int (yl_cons (yeCall C_law_pick (takes_of rfl rfl rfl rfl) (hr.mono (by decide)) (yl_cons (ye_var 0) (yl_cons ye_int yl_nil))) yl_nil)) (ye_bin oy_add (ye_callB cy_len (by rfl) T.n_len PySem.boot_len (yl_cons (ye_var 1) yl_nil)) ye_int))))
  (yss_cons (ysSet 7 sc_law_refused.nd (ye_ix (yn_lst (yl_cons ye_non (yl_cons (ye_tup (yl_cons ye_int (yl_cons ye_int yl_nil))) (yl_cons (ye_tup (yl_cons ye_int (yl_cons ye_int yl_nil))) (yl_cons ye_str (yl_cons ye_int yl_nil)))))).ye (yeCall C_law_pick (takes_of rfl rfl rfl rfl) (hr.mono (by decide)) (yl_cons (ye_var 0) (yl_cons ye_int yl_nil)))))
  (yss_cons (ys_if (YW.yt (yw_or (yt_not (yt_tru (yeCall C_law_outcome (takes_of rfl rfl rfl rfl) (hr.mono (by decide)) (yl_cons (ye_bin oy_add (ye_bin oy_add (yn_sl (ye_var 1) yo_none (yo_some (ye_var 6))).ye (yn_lst (yl_cons (ye_var 5) yl_nil)).ye) (yn_sl (ye_var 1) (yo_some (ye_var 6)) yo_none).ye) (yl_cons (ye_var 2) (yl_cons (ye_var 3) (yl_cons (ye_var 7) yl_nil))))))) (yw_or1 (yt_not (yt_tru (yeCall C_law_outcome (takes_of rfl rfl rfl rfl) (hr.mono (by decide)) (yl_cons (ye_callTy cy_tuple (by rfl) T.n_tuple boot_tuple (yl_cons (ye_var 1) yl_nil)) (yl_cons (ye_var 2) (yl_cons (ye_var 3) (yl_cons (ye_var 7) yl_nil))))))))))
  (yss_one (ys_ret ye_bl))
  yss_nil)
  (yss_cons (ys_if (YW.yt (yw_or (yt_not (yt_tru (yeCall C_law_outcome (takes_of rfl rfl rfl rfl) (hr.mono (by decide)) (yl_cons (ye_bin oy_mulA (yn_lst (yl_cons (ye_tup (yl_cons ye_int (yl_cons ye_int (yl_cons ye_int (yl_cons ye_int yl_nil))))) yl_nil)).ye ye_int) (yl_cons ye_int (yl_cons (ye_bin oy_mulA (yn_lst (yl_cons ye_int yl_nil)).ye ye_int) (yl_cons (ye_tup (yl_cons ye_int (yl_cons ye_int yl_nil))) yl_nil))))))) (yw_or1 (yt_not (yt_tru (yeCall C_law_is_yes (takes_of rfl rfl rfl rfl) (hr.mono (by decide)) (yl_cons (yeCall C_is_share (takes_of rfl rfl rfl rfl) (hr.mono (by decide)) (yl_cons (ye_bin oy_mulA (yn_lst (yl_cons (ye_tup (yl_cons ye_int (yl_cons ye_int (yl_cons ye_int (yl_cons ye_int yl_nil))))) yl_nil)).ye ye_int) (yl_cons ye_int (yl_cons (ye_bin oy_mulA (yn_lst (yl_cons ye_int yl_nil)).ye ye_int) (yl_cons (ye_tup (yl_cons ye_int (yl_cons ye_int yl_nil))) yl_nil))))) (yl_cons ye_bl yl_nil))))))))
  (yss_one (ys_ret ye_bl))
  yss_nil)
  (yss_one (ys_ret (ye_callB (cy_all rfl) (by rfl) T.n_all boot_all (yl_cons (yn_lc (own := [(("strange" : Str), 8)]) rfl sc_law_refused.nd (yi_seq (yn_lst (yl_cons ye_non (yl_cons ye_bl (yl_cons (ye_callTy (cy_strA hr.units) (by rfl) T.n_str boot_str (yl_cons (ye_var 2) yl_nil)) (yl_cons (ye_tup (yl_cons (ye_var 2) yl_nil)) yl_nil))))).ye) (blkOk_by (by rfl)) (fun _ _ _ _ _ => (ygN 8 sc_law_refused.nd)) (fun _ _ _ _ _ => yts_nil) (fun _ _ _ _ _ => (yeCall C_law_outcome takes0 (hr.mono (by decide)) (yl_cons (ye_var 1) (yl_cons (ye_var 8) (yl_cons (ye_var 3) (yl_cons (ye_var 7) yl_nil))))))).ye yl_nil))))))))))
abbrev P_law : List Str := ["script"]
theorem sc_law : FnScope N_law P_law (defScope s_law) := ⟨rfl, rfl, rfl, by decide +kernel, rfl, by decide +kernel, by decide +kernel⟩
theorem ok_law (T : Txt K mg) (C_law_stream : CallOk P w K mg base 2 "_law_stream" P_law_stream φ_law_stream) (C_law_still : CallOk P w K mg base 3 "_law_still" P_law_still φ_law_still) (C_law_share : CallOk P w K mg base 3 "_law_share" P_law_share φ_law_share) (C_law_lowest : CallOk P w K mg base 1 "_law_lowest" P_law_lowest φ_law_lowest) (C_law_is_yes : CallOk P w K mg base 1 "_law_is_yes" P_law_is_yes φ_law_is_yes) (C_is_share : CallOk P w K mg base 6 "is_share" P_is_share φ_is_share) (C_law_all_said : CallOk P w K mg base 7 "_law_all_said" P_law_all_said φ_law_all_said) (C_law_moved : CallOk P w K mg base 7 "_law_moved" P_law_moved φ_law_moved) (C_law_pick : CallOk P w K mg base 1 "_law_pick" P_law_pick φ_law_pick) (C_law_part : CallOk P w K mg base 2 "_law_part" P_law_part φ_law_part) (C_law_cut : CallOk P w K mg base 1 "_law_cut" P_law_cut φ_law_cut) (C_law_refused : CallOk P w K mg base 8 "_law_refused" P_law_refused φ_law_refused) (vc : ∀ (ds : List D) (Q' : D → Prop) (E' : Nat → Prop), φ_law ds Q' E' → r_law (fun c _ => E' c) { nx := fun _ => Q' .non, rt := fun d _ => Q' d } (startE N_law ds)) (len : ∀ ds Q E, φ_law ds Q E → ds.length = 1) :
    CallOk P w K mg base 9 "law" P_law φ_law := by
  obtain ⟨fd, F⟩ := T.d_law
  refine ⟨⟨fd, fun_ok F sc_law len r_law (fun cdv A outer s H E Ξ hr => ?_) vc, funLook F, F.bindsA fun _ _ _ _ _ _ us hl => match us, hl with | [_], _ => rfl⟩, F.kp, T.g_law⟩
  exact (yss_cons (ysSet 1 sc_law.nd (yeCall C_law_stream (takes_of rfl rfl rfl rfl) (hr.mono (by decide)) (yl_cons (ye_var 0) yl_nil)))
  (yss_cons (ys_for (passes_of rfl) rfl (yi_range1 (by rfl) T.n_range (yl_cons ye_int yl_nil)) (ygN 2 sc_law.nd)
  (yss_cons (ys_asg (yeCall C_law_still (takes_of rfl rfl rfl rfl) (hr.mono (by decide)) (yl_cons (ye_var 1) yl_nil)) (yg_tup rfl (ygs_cons (ygN 3 sc_law.nd) (ygs_cons (ygN 4 sc_law.nd) (ygs_cons (ygN 5 sc_law.nd) (ygs_cons (ygN 6 sc_law.nd) ygs_nil))))))
  (yss_cons (ysSet 7 sc_law.nd (yeCall C_law_share (takes_of rfl rfl rfl rfl) (hr.mono (by decide)) (yl_cons (ye_var 3) (yl_cons (ye_var 4) yl_nil))))
  (yss_cons (ys_for (passes_of rfl) rfl (yi_seq (yn_lst (yl_cons (ye_tup (yl_cons (ye_var 5) (yl_cons ye_int yl_nil))) (yl_cons (ye_tup (yl_cons (ye_var 6) (yl_cons ye_int yl_nil))) (yl_cons (yeCall C_law_lowest (takes_of rfl rfl rfl rfl) (hr.mono (by decide)) (yl_cons (ye_bin oy_add (ye_var 5) (ye_var 6)) (yl_cons ye_int yl_nil))) (yl_cons (yeCall C_law_lowest (takes_of rfl rfl rfl rfl) (hr.mono (by decide)) (yl_cons (ye_bin oy_add (ye_bin oy_mulA (ye_var 5) ye_int) (ye_var 6)) (yl_cons ye_int yl_nil))) yl_nil))))).ye) (ygN 8 sc_law.nd)
  (yss_one (ys_if (yt_not (yt_tru (yeCall C_law_is_yes (takes_of rfl rfl rfl rfl) (hr.mono (by decide)) (yl_cons (yeCall C_is_share (takes_of rfl rfl rfl rfl) (hr.mono (by decide)) (yl_cons (yn_callTy cn_list (by rfl) T.n_list boot_list (yl_cons (ye_var 3) yl_nil)).ye (yl_cons (ye_var 4) (yl_cons (yn_callTy cn_list (by rfl) T.n_list boot_list (yl_cons (ye_var 7) yl_nil)).ye (yl_cons (ye_var 8) yl_nil))))) (yl_cons ye_bl yl_nil)))))
  (yss_one (ys_ret ye_bl))
  yss_nil)))
  (yss_cons (ys_if (YW.yt (yw_or (yt_not (yt_tru (yeCall C_law_all_said (takes_of rfl rfl rfl rfl) (hr.mono (by decide)) (yl_cons (ye_var 1) (yl_cons (ye_var 3) (yl_cons (ye_var 4) yl_nil)))))) (yw_or1 (yt_not (yt_tru (yeCall C_law_moved (takes_of rfl rfl rfl rfl) (hr.mono (by decide)) (yl_cons (ye_var 1) (yl_cons (ye_var 3) (yl_cons (ye_var 4) yl_nil)))))))))
  (yss_one (ys_ret ye_bl))
  yss_nil)
  (yss_cons (ysSet 9 sc_law.nd (ye_ix (yn_lst (yl_cons ye_int (yl_cons ye_int (yl_cons ye_int (yl_cons (ye_bin oy_pow ye_int ye_int) yl_nil))))).ye (yeCall C_law_pick (takes_of rfl rfl rfl rfl) (hr.mono (by decide)) (yl_cons (ye_var 1) (yl_cons ye_int yl_nil)))))
  (yss_cons (ys_setLc (own := [(("k" : Str), 11)]) 3 false rfl sc_law.nd rfl rfl (sw_true rfl rfl rfl (by decide +kernel)) (yi_range1 (by rfl) T.n_range (yl_cons (yeCall C_law_pick (takes_of rfl rfl rfl rfl) (hr.mono (by decide)) (yl_cons (ye_var 1) (yl_cons ye_int yl_nil))) yl_nil)) (blkOk_by (by rfl)) (fun _ _ _ _ _ => (ygN 11 sc_law.nd)) (fun _ _ _ _ _ => yts_nil) (fun _ _ _ _ _ => (yeCall C_law_part takes0 (hr.mono (by decide)) (yl_cons (ye_var 1) (yl_cons (ye_var 9) yl_nil)))))
  (yss_cons (ysSet 10 sc_law.nd (ye_callB (cy_sum rfl) (by rfl) T.n_sum boot_sum (yl_cons (yn_lc (own := [(("base" : Str), 12), (("weight" : Str), 13), (("lo" : Str), 14), (("hi" : Str), 15)]) rfl sc_law.nd (yi_seq (ye_var 3)) (blkOk_by (by rfl)) (fun _ _ _ _ _ => (yg_tup rfl (ygs_cons (ygN 12 sc_law.nd) (ygs_cons (ygN 13 sc_law.nd) (ygs_cons (ygN 14 sc_law.nd) (ygs_cons (ygN 15 sc_law.nd) ygs_nil)))))) (fun _ _ _ _ _ => yts_nil) (fun _ _ _ _ _ => (yeCall C_law_cut takes0 (hr.mono (by decide)) (yl_cons (ye_var 12) (yl_cons (ye_var 14) (yl_cons (ye_var 15) yl_nil)))))).ye yl_nil)))
  (yss_cons (ysSet 4 sc_law.nd (ye_bin oy_add (ye_bin oy_add (ye_var 10) (ye_bin oy_mulA (ye_bin oy_mulA (ye_var 9) (ye_bin oy_sub (yeCall C_law_pick (takes_of rfl rfl rfl rfl) (hr.mono (by decide)) (yl_cons (ye_var 1) (yl_cons ye_int yl_nil))) ye_int)) (yeCall C_law_pick (takes_of rfl rfl rfl rfl) (hr.mono (by decide)) (yl_cons (ye_var 1) (yl_cons ye_int yl_nil))))) (yeCall C_law_pick (takes_of rfl rfl rfl rfl) (hr.mono (by decide)) (yl_cons (ye_var 1) (yl_cons ye_int yl_nil)))))
  (yss_one (ys_if (YW.yt (yw_or (yt_not (yt_tru (yeCall C_law_all_said (takes_of rfl rfl rfl rfl) (hr.mono (by decide)) (yl_cons (ye_var 1) (yl_cons (ye_var 3) (yl_cons (ye_var 4) yl_nil)))))) (yw_or (yt_not (yt_tru (yeCall C_law_moved (takes_of rfl rfl rfl rfl) (hr.mono (by decide)) (yl_cons (ye_var 1) (yl_cons (ye_var 3) (yl_cons (ye_var 4) yl_nil)))))) (yw_or1 (yt_not (yt_tru (yeCall C_law_refused (takes_of rfl rfl rfl rfl) (hr.mono (by decide)) (yl_cons (ye_var 1) (yl_cons (ye_var 3) (yl_cons (ye_var 4) yl_nil))))))))))
  (yss_one (ys_ret ye_bl))
  yss_nil)))))))))))
  (yss_one (ys_ret ye_bl))))
end
end PL.K57

set_option Elab.async false
set_option linter.all false
set_option autoImplicit false
set_option maxRecDepth 100000
set_option maxHeartbeats 2000000
namespace PL.K57
open PySem PySem.Spec PyProof.Rows L2
def fa : List He.Fa := [.glo "is_whole",
  .glo "is_part",
  .glo "check_parts",
  .glo "cut",
  .glo "times",
  .glo "tops_at",
  .glo "knots_of",
  .glo "gain_behind",
  .glo "lowest",
  .glo "least_ratio",
  .glo "mirrored",
  .glo "ratio_of",
  .glo "ends_of",
  .glo "whole_sizes",
  .glo "sizes_at",
  .glo "shares",
  .glo "is_right_ratio",
  .glo "is_share",
  .glo "_law_pool",
  .glo "_law_stream",
  .glo "_law_pick",
  .glo "_law_part",
  .glo "_law_cut",
  .glo "_law_tops",
  .glo "_law_wholes",
  .glo "_law_share",
  .glo "_law_ends",
  .glo "_law_has",
  .glo "_law_lowest",
  .glo "_law_is_yes",
  .glo "_law_still",
  .glo "_law_papers",
  .glo "_law_spoilt",
  .glo "_law_all_said",
  .glo "_law_moved",
  .glo "_law_outcome",
  .glo "_law_refused",
  .glo "law",
  .free "abs",
  .free "all",
  .free "any",
  .free "bool",
  .free "int",
  .free "isinstance",
  .free "len",
  .free "list",
  .free "max",
  .free "range",
  .free "reversed",
  .free "str",
  .free "sum",
  .free "tuple",
  .int "MOST_PARTS" 200,
  .glo "PageError",
  .glo "BadList",
  .glo "BadParts"]
def fn : List He.DefD := [⟨("is_whole", none), "is_whole", "is_whole", defArgs s_is_whole, defBody s_is_whole, defScope s_is_whole, [], []⟩,
  ⟨("is_part", none), "is_part", "is_part", defArgs s_is_part, defBody s_is_part, defScope s_is_part, [], []⟩,
  ⟨("check_parts", none), "check_parts", "check_parts", defArgs s_check_parts, defBody s_check_parts, defScope s_check_parts, [], []⟩,
  ⟨("cut", none), "cut", "cut", defArgs s_cut, defBody s_cut, defScope s_cut, [], []⟩,
  ⟨("times", none), "times", "times", defArgs s_times, defBody s_times, defScope s_times, [], []⟩,
  ⟨("tops_at", none), "tops_at", "tops_at", defArgs s_tops_at, defBody s_tops_at, defScope s_tops_at, [], []⟩,
  ⟨("knots_of", none), "knots_of", "knots_of", defArgs s_knots_of, defBody s_knots_of, defScope s_knots_of, [], []⟩,
  ⟨("gain_behind", none), "gain_behind", "gain_behind", defArgs s_gain_behind, defBody s_gain_behind, defScope s_gain_behind, [], []⟩,
  ⟨("lowest", none), "lowest", "lowest", defArgs s_lowest, defBody s_lowest, defScope s_lowest, [], []⟩,
  ⟨("least_ratio", none), "least_ratio", "least_ratio", defArgs s_least_ratio, defBody s_least_ratio, defScope s_least_ratio, [], []⟩,
  ⟨("mirrored", none), "mirrored", "mirrored", defArgs s_mirrored, defBody s_mirrored, defScope s_mirrored, [], []⟩,
  ⟨("ratio_of", none), "ratio_of", "ratio_of", defArgs s_ratio_of, defBody s_ratio_of, defScope s_ratio_of, [], []⟩,
  ⟨("ends_of", none), "ends_of", "ends_of", defArgs s_ends_of, defBody s_ends_of, defScope s_ends_of, [], []⟩,
  ⟨("whole_sizes", none), "whole_sizes", "whole_sizes", defArgs s_whole_sizes, defBody s_whole_sizes, defScope s_whole_sizes, [], []⟩,
  ⟨("sizes_at", none), "sizes_at", "sizes_at", defArgs s_sizes_at, defBody s_sizes_at, defScope s_sizes_at, [], []⟩,
  ⟨("shares", none), "shares", "shares", defArgs s_shares, defBody s_shares, defScope s_shares, [], []⟩,
  ⟨("is_right_ratio", none), "is_right_ratio", "is_right_ratio", defArgs s_is_right_ratio, defBody s_is_right_ratio, defScope s_is_right_ratio, [], []⟩,
  ⟨("is_share", none), "is_share", "is_share", defArgs s_is_share, defBody s_is_share, defScope s_is_share, [], []⟩,
  ⟨("_law_pool", none), "_law_pool", "_law_pool", defArgs s_law_pool, defBody s_law_pool, defScope s_law_pool, [], []⟩,
  ⟨("_law_stream", none), "_law_stream", "_law_stream", defArgs s_law_stream, defBody s_law_stream, defScope s_law_stream, [], []⟩,
  ⟨("_law_pick", none), "_law_pick", "_law_pick", defArgs s_law_pick, defBody s_law_pick, defScope s_law_pick, [], []⟩,
  ⟨("_law_part", none), "_law_part", "_law_part", defArgs s_law_part, defBody s_law_part, defScope s_law_part, [], []⟩,
  ⟨("_law_cut", none), "_law_cut", "_law_cut", defArgs s_law_cut, defBody s_law_cut, defScope s_law_cut, [], []⟩,
  ⟨("_law_tops", none), "_law_tops", "_law_tops", defArgs s_law_tops, defBody s_law_tops, defScope s_law_tops, [], []⟩,
  ⟨("_law_wholes", none), "_law_wholes", "_law_wholes", defArgs s_law_wholes, defBody s_law_wholes, defScope s_law_wholes, [], []⟩,
  ⟨("_law_share", none), "_law_share", "_law_share", defArgs s_law_share, defBody s_law_share, defScope s_law_share, [], []⟩,
  ⟨("_law_ends", none), "_law_ends", "_law_ends", defArgs s_law_ends, defBody s_law_ends, defScope s_law_ends, [], []⟩,
  ⟨("_law_has", none), "_law_has", "_law_has", defArgs s_law_has, defBody s_law_has, defScope s_law_has, [], []⟩,
  ⟨("_law_lowest", none), "_law_lowest", "_law_lowest", defArgs s_law_lowest, defBody s_law_lowest, defScope s_law_lowest, [], []⟩,
  ⟨("_law_is_yes", none), "_law_is_yes", "_law_is_yes", defArgs s_law_is_yes, defBody s_law_is_yes, defScope s_law_is_yes, [], []⟩,
  ⟨("_law_still", none), "_law_still", "_law_still", defArgs s_law_still, defBody s_law_still, defScope s_law_still, [], []⟩,
  ⟨("_law_papers", none), "_law_papers", "_law_papers", defArgs s_law_papers, defBody s_law_papers, defScope s_law_papers, [], []⟩,
  ⟨("_law_spoilt", none), "_law_spoilt", "_law_spoilt", defArgs s_law_spoilt, defBody s_law_spoilt, defScope s_law_spoilt, [], []⟩,
  ⟨("_law_all_said", none), "_law_all_said", "_law_all_said", defArgs s_law_all_said, defBody s_law_all_said, defScope s_law_all_said, [], []⟩,
  ⟨("_law_moved", none), "_law_moved", "_law_moved", defArgs s_law_moved, defBody s_law_moved, defScope s_law_moved, [], []⟩,
  ⟨("_law_outcome", none), "_law_outcome", "_law_outcome", defArgs s_law_outcome, defBody s_law_outcome, defScope s_law_outcome, [], []⟩,
  ⟨("_law_refused", none), "_law_refused", "_law_refused", defArgs s_law_refused, defBody s_law_refused, defScope s_law_refused, [], []⟩,
  ⟨("law", none), "law", "law", defArgs s_law, defBody s_law, defScope s_law, [], []⟩]
def loose0 : List Str := ["PageError",
  "BadList",
  "BadParts",
  "MOST_PARTS",
  "is_whole",
  "is_part",
  "check_parts",
  "cut",
  "times",
  "tops_at",
  "knots_of",
  "gain_behind",
  "lowest",
  "least_ratio",
  "mirrored",
  "ratio_of",
  "ends_of",
  "whole_sizes",
  "sizes_at",
  "shares",
  "is_right_ratio",
  "is_share",
  "_law_pool",
  "_law_stream",
  "_law_pick",
  "_law_part",
  "_law_cut",
  "_law_tops",
  "_law_wholes",
  "_law_share"]
def loose1 : List Str := ["_law_ends",
  "_law_has",
  "_law_lowest",
  "_law_is_yes",
  "_law_still",
  "_law_papers",
  "_law_spoilt",
  "_law_all_said",
  "_law_moved",
  "_law_outcome",
  "_law_refused"]
def loose : List Str := loose0 ++ loose1
def exT (K : PySem.W.Frag) : Bool := exB exCs K && (He.eqO (PySem.W.nsIn K mainGlobals "gcd") (some (some (.builtin "math.gcd"))))
abbrev R : PySem.W.OpenRow := PySem.W.OpenLaw.row PySem.Challenge.rw_pageseen_k57_whole_judge_of_shares
abbrev hk : PySem.W.Hook := He.hookX 4 fa fn [] [] exT
def ob (s : PySem.W.SharedT) : He.AlX := He.obsX 4 fa fn [] [] exT (HandSHeadRun.getT s)
theorem ob_eq (s : PySem.W.SharedT) : ob s = hk.obs s.abs := He.obsX_eq (HandSHeadRun.getT_eq s)
set_option maxHeartbeats 0
theorem run (w : World) : HandSHeadRun.RunEqI R (PySem.W.view R.prog [0, 45]) hk ob 4000 loose w := by
  unfold HandSHeadRun.RunEqI
  kernel_rfl
theorem txt {K : PySem.W.Frag} {h h' : Heap} {mg : Str → Option Value} {w : World} (X : K.In h) (G : h.Ns mainGlobals mg) (c : He.SaysX fa fn [] [] exT w h' K) : Txt K mg where
  g_is_whole := He.glo_ok X G (c.t.d.fact 0 (f := .glo "is_whole") rfl)
  d_is_whole := c.t.d.def_ 0 rfl
  g_is_part := He.glo_ok X G (c.t.d.fact 1 (f := .glo "is_part") rfl)
  d_is_part := c.t.d.def_ 1 rfl
  g_check_parts := He.glo_ok X G (c.t.d.fact 2 (f := .glo "check_parts") rfl)
  d_check_parts := c.t.d.def_ 2 rfl
  g_cut := He.glo_ok X G (c.t.d.fact 3 (f := .glo "cut") rfl)
  d_cut := c.t.d.def_ 3 rfl
  g_times := He.glo_ok X G (c.t.d.fact 4 (f := .glo "times") rfl)
  d_times := c.t.d.def_ 4 rfl
  g_tops_at := He.glo_ok X G (c.t.d.fact 5 (f := .glo "tops_at") rfl)
  d_tops_at := c.t.d.def_ 5 rfl
  g_knots_of := He.glo_ok X G (c.t.d.fact 6 (f := .glo "knots_of") rfl)
  d_knots_of := c.t.d.def_ 6 rfl
  g_gain_behind := He.glo_ok X G (c.t.d.fact 7 (f := .glo "gain_behind") rfl)
  d_gain_behind := c.t.d.def_ 7 rfl
  g_lowest := He.glo_ok X G (c.t.d.fact 8 (f := .glo "lowest") rfl)
  d_lowest := c.t.d.def_ 8 rfl
  g_least_ratio := He.glo_ok X G (c.t.d.fact 9 (f := .glo "least_ratio") rfl)
  d_least_ratio := c.t.d.def_ 9 rfl
  g_mirrored := He.glo_ok X G (c.t.d.fact 10 (f := .glo "mirrored") rfl)
  d_mirrored := c.t.d.def_ 10 rfl
  g_ratio_of := He.glo_ok X G (c.t.d.fact 11 (f := .glo "ratio_of") rfl)
  d_ratio_of := c.t.d.def_ 11 rfl
  g_ends_of := He.glo_ok X G (c.t.d.fact 12 (f := .glo "ends_of") rfl)
  d_ends_of := c.t.d.def_ 12 rfl
  g_whole_sizes := He.glo_ok X G (c.t.d.fact 13 (f := .glo "whole_sizes") rfl)
  d_whole_sizes := c.t.d.def_ 13 rfl
  g_sizes_at := He.glo_ok X G (c.t.d.fact 14 (f := .glo "sizes_at") rfl)
  d_sizes_at := c.t.d.def_ 14 rfl
  g_shares := He.glo_ok X G (c.t.d.fact 15 (f := .glo "shares") rfl)
  d_shares := c.t.d.def_ 15 rfl
  g_is_right_ratio := He.glo_ok X G (c.t.d.fact 16 (f := .glo "is_right_ratio") rfl)
  d_is_right_ratio := c.t.d.def_ 16 rfl
  g_is_share := He.glo_ok X G (c.t.d.fact 17 (f := .glo "is_share") rfl)
  d_is_share := c.t.d.def_ 17 rfl
  g_law_pool := He.glo_ok X G (c.t.d.fact 18 (f := .glo "_law_pool") rfl)
  d_law_pool := c.t.d.def_ 18 rfl
  g_law_stream := He.glo_ok X G (c.t.d.fact 19 (f := .glo "_law_stream") rfl)
  d_law_stream := c.t.d.def_ 19 rfl
  g_law_pick := He.glo_ok X G (c.t.d.fact 20 (f := .glo "_law_pick") rfl)
  d_law_pick := c.t.d.def_ 20 rfl
  g_law_part := He.glo_ok X G (c.t.d.fact 21 (f := .glo "_law_part") rfl)
  d_law_part := c.t.d.def_ 21 rfl
  g_law_cut := He.glo_ok X G (c.t.d.fact 22 (f := .glo "_law_cut") rfl)
  d_law_cut := c.t.d.def_ 22 rfl
  g_law_tops := He.glo_ok X G (c.t.d.fact 23 (f := .glo "_law_tops") rfl)
  d_law_tops := c.t.d.def_ 23 rfl
  g_law_wholes := He.glo_ok X G (c.t.d.fact 24 (f := .glo "_law_wholes") rfl)
  d_law_wholes := c.t.d.def_ 24 rfl
  g_law_share := He.glo_ok X G (c.t.d.fact 25 (f := .glo "_law_share") rfl)
  d_law_share := c.t.d.def_ 25 rfl
  g_law_ends := He.glo_ok X G (c.t.d.fact 26 (f := .glo "_law_ends") rfl)
  d_law_ends := c.t.d.def_ 26 rfl
  g_law_has := He.glo_ok X G (c.t.d.fact 27 (f := .glo "_law_has") rfl)
  d_law_has := c.t.d.def_ 27 rfl
  g_law_lowest := He.glo_ok X G (c.t.d.fact 28 (f := .glo "_law_lowest") rfl)
  d_law_lowest := c.t.d.def_ 28 rfl
  g_law_is_yes := He.glo_ok X G (c.t.d.fact 29 (f := .glo "_law_is_yes") rfl)
  d_law_is_yes := c.t.d.def_ 29 rfl
  g_law_still := He.glo_ok X G (c.t.d.fact 30 (f := .glo "_law_still") rfl)
  d_law_still := c.t.d.def_ 30 rfl
  g_law_papers := He.glo_ok X G (c.t.d.fact 31 (f := .glo "_law_papers") rfl)
  d_law_papers := c.t.d.def_ 31 rfl
  g_law_spoilt := He.glo_ok X G (c.t.d.fact 32 (f := .glo "_law_spoilt") rfl)
  d_law_spoilt := c.t.d.def_ 32 rfl
  g_law_all_said := He.glo_ok X G (c.t.d.fact 33 (f := .glo "_law_all_said") rfl)
  d_law_all_said := c.t.d.def_ 33 rfl
  g_law_moved := He.glo_ok X G (c.t.d.fact 34 (f := .glo "_law_moved") rfl)
  d_law_moved := c.t.d.def_ 34 rfl
  g_law_outcome := He.glo_ok X G (c.t.d.fact 35 (f := .glo "_law_outcome") rfl)
  d_law_outcome := c.t.d.def_ 35 rfl
  g_law_refused := He.glo_ok X G (c.t.d.fact 36 (f := .glo "_law_refused") rfl)
  d_law_refused := c.t.d.def_ 36 rfl
  g_law := He.glo_ok X G (c.t.d.fact 37 (f := .glo "law") rfl)
  d_law := c.t.d.def_ 37 rfl
  n_abs := He.free_ok X G (c.t.d.fact 38 (f := .free "abs") rfl)
  n_all := He.free_ok X G (c.t.d.fact 39 (f := .free "all") rfl)
  n_any := He.free_ok X G (c.t.d.fact 40 (f := .free "any") rfl)
  n_bool := He.free_ok X G (c.t.d.fact 41 (f := .free "bool") rfl)
  n_int := He.free_ok X G (c.t.d.fact 42 (f := .free "int") rfl)
  n_isinstance := He.free_ok X G (c.t.d.fact 43 (f := .free "isinstance") rfl)
  n_len := He.free_ok X G (c.t.d.fact 44 (f := .free "len") rfl)
  n_list := He.free_ok X G (c.t.d.fact 45 (f := .free "list") rfl)
  n_max := He.free_ok X G (c.t.d.fact 46 (f := .free "max") rfl)
  n_range := He.free_ok X G (c.t.d.fact 47 (f := .free "range") rfl)
  n_reversed := He.free_ok X G (c.t.d.fact 48 (f := .free "reversed") rfl)
  n_str := He.free_ok X G (c.t.d.fact 49 (f := .free "str") rfl)
  n_sum := He.free_ok X G (c.t.d.fact 50 (f := .free "sum") rfl)
  n_tuple := He.free_ok X G (c.t.d.fact 51 (f := .free "tuple") rfl)
  c_MOST_PARTS := ⟨He.int_ok X G (c.t.d.fact 52 (f := .int "MOST_PARTS" 200) rfl)⟩
  b_gcd := PySem.W.mg_of X G (He.eqO_ok (He.ba c.more).2)
  g_PageError := He.glo_ok X G (c.t.d.fact 53 (f := .glo "PageError") rfl)
  g_BadList := He.glo_ok X G (c.t.d.fact 54 (f := .glo "BadList") rfl)
  g_BadParts := He.glo_ok X G (c.t.d.fact 55 (f := .glo "BadParts") rfl)
  x_PageError := (exB_at (He.ba c.more).1 (c := 0) (by decide)).1.x
  k_PageError := (exB_at (He.ba c.more).1 (c := 0) (by decide)).1.k
  s_PageError := (exB_at (He.ba c.more).1 (c := 0) (by decide)).1.s
  t_PageError := (exB_at (He.ba c.more).1 (c := 0) (by decide)).1.t
  x_BadList := (exB_at (He.ba c.more).1 (c := 10) (by decide)).1.x
  k_BadList := (exB_at (He.ba c.more).1 (c := 10) (by decide)).1.k
  s_BadList := (exB_at (He.ba c.more).1 (c := 10) (by decide)).1.s
  t_BadList := (exB_at (He.ba c.more).1 (c := 10) (by decide)).1.t
  x_BadParts := (exB_at (He.ba c.more).1 (c := 12) (by decide)).1.x
  k_BadParts := (exB_at (He.ba c.more).1 (c := 12) (by decide)).1.k
  s_BadParts := (exB_at (He.ba c.more).1 (c := 12) (by decide)).1.s
  t_BadParts := (exB_at (He.ba c.more).1 (c := 12) (by decide)).1.t
  xk := exB_k (He.ba c.more).1
/-! how many -/
theorem len_is_whole (ds : List D) (Q : D → Prop) (E : Nat → Prop) (h : φ_is_whole ds Q E) : ds.length = 1 := by
  first | (obtain ⟨_, rfl, _⟩ := h; rfl) | (obtain ⟨_, _, rfl, _⟩ := h; rfl) | (obtain ⟨_, _, _, rfl, _⟩ := h; rfl) | (obtain ⟨_, _, _, _, rfl, _⟩ := h; rfl) | (unfold φ_is_whole at h; split at h <;> first | rfl | exact h.elim)
theorem len_is_part (ds : List D) (Q : D → Prop) (E : Nat → Prop) (h : φ_is_part ds Q E) : ds.length = 1 := by
  first | (obtain ⟨_, rfl, _⟩ := h; rfl) | (obtain ⟨_, _, rfl, _⟩ := h; rfl) | (obtain ⟨_, _, _, rfl, _⟩ := h; rfl) | (obtain ⟨_, _, _, _, rfl, _⟩ := h; rfl) | (unfold φ_is_part at h; split at h <;> first | rfl | exact h.elim)
theorem len_check_parts (ds : List D) (Q : D → Prop) (E : Nat → Prop) (h : φ_check_parts ds Q E) : ds.length = 2 := by
  first | (obtain ⟨_, rfl, _⟩ := h; rfl) | (obtain ⟨_, _, rfl, _⟩ := h; rfl) | (obtain ⟨_, _, _, rfl, _⟩ := h; rfl) | (obtain ⟨_, _, _, _, rfl, _⟩ := h; rfl) | (unfold φ_check_parts at h; split at h <;> first | rfl | exact h.elim)
theorem len_cut (ds : List D) (Q : D → Prop) (E : Nat → Prop) (h : φ_cut ds Q E) : ds.length = 3 := by
  first | (obtain ⟨_, rfl, _⟩ := h; rfl) | (obtain ⟨_, _, rfl, _⟩ := h; rfl) | (obtain ⟨_, _, _, rfl, _⟩ := h; rfl) | (obtain ⟨_, _, _, _, rfl, _⟩ := h; rfl) | (unfold φ_cut at h; split at h <;> first | rfl | exact h.elim)
theorem len_times (ds : List D) (Q : D → Prop) (E : Nat → Prop) (h : φ_times ds Q E) : ds.length = 2 := by
  first | (obtain ⟨_, rfl, _⟩ := h; rfl) | (obtain ⟨_, _, rfl, _⟩ := h; rfl) | (obtain ⟨_, _, _, rfl, _⟩ := h; rfl) | (obtain ⟨_, _, _, _, rfl, _⟩ := h; rfl) | (unfold φ_times at h; split at h <;> first | rfl | exact h.elim)
theorem len_tops_at (ds : List D) (Q : D → Prop) (E : Nat → Prop) (h : φ_tops_at ds Q E) : ds.length = 3 := by
  first | (obtain ⟨_, rfl, _⟩ := h; rfl) | (obtain ⟨_, _, rfl, _⟩ := h; rfl) | (obtain ⟨_, _, _, rfl, _⟩ := h; rfl) | (obtain ⟨_, _, _, _, rfl, _⟩ := h; rfl) | (unfold φ_tops_at at h; split at h <;> first | rfl | exact h.elim)
theorem len_knots_of (ds : List D) (Q : D → Prop) (E : Nat → Prop) (h : φ_knots_of ds Q E) : ds.length = 1 := by
  first | (obtain ⟨_, rfl, _⟩ := h; rfl) | (obtain ⟨_, _, rfl, _⟩ := h; rfl) | (obtain ⟨_, _, _, rfl, _⟩ := h; rfl) | (obtain ⟨_, _, _, _, rfl, _⟩ := h; rfl) | (unfold φ_knots_of at h; split at h <;> first | rfl | exact h.elim)
theorem len_gain_behind (ds : List D) (Q : D → Prop) (E : Nat → Prop) (h : φ_gain_behind ds Q E) : ds.length = 3 := by
  first | (obtain ⟨_, rfl, _⟩ := h; rfl) | (obtain ⟨_, _, rfl, _⟩ := h; rfl) | (obtain ⟨_, _, _, rfl, _⟩ := h; rfl) | (obtain ⟨_, _, _, _, rfl, _⟩ := h; rfl) | (unfold φ_gain_behind at h; split at h <;> first | rfl | exact h.elim)
theorem len_lowest (ds : List D) (Q : D → Prop) (E : Nat → Prop) (h : φ_lowest ds Q E) : ds.length = 2 := by
  first | (obtain ⟨_, rfl, _⟩ := h; rfl) | (obtain ⟨_, _, rfl, _⟩ := h; rfl) | (obtain ⟨_, _, _, rfl, _⟩ := h; rfl) | (obtain ⟨_, _, _, _, rfl, _⟩ := h; rfl) | (unfold φ_lowest at h; split at h <;> first | rfl | exact h.elim)
theorem len_least_ratio (ds : List D) (Q : D → Prop) (E : Nat → Prop) (h : φ_least_ratio ds Q E) : ds.length = 2 := by
  first | (obtain ⟨_, rfl, _⟩ := h; rfl) | (obtain ⟨_, _, rfl, _⟩ := h; rfl) | (obtain ⟨_, _, _, rfl, _⟩ := h; rfl) | (obtain ⟨_, _, _, _, rfl, _⟩ := h; rfl) | (unfold φ_least_ratio at h; split at h <;> first | rfl | exact h.elim)
theorem len_mirrored (ds : List D) (Q : D → Prop) (E : Nat → Prop) (h : φ_mirrored ds Q E) : ds.length = 1 := by
  first | (obtain ⟨_, rfl, _⟩ := h; rfl) | (obtain ⟨_, _, rfl, _⟩ := h; rfl) | (obtain ⟨_, _, _, rfl, _⟩ := h; rfl) | (obtain ⟨_, _, _, _, rfl, _⟩ := h; rfl) | (unfold φ_mirrored at h; split at h <;> first | rfl | exact h.elim)
theorem len_ratio_of (ds : List D) (Q : D → Prop) (E : Nat → Prop) (h : φ_ratio_of ds Q E) : ds.length = 2 := by
  first | (obtain ⟨_, rfl, _⟩ := h; rfl) | (obtain ⟨_, _, rfl, _⟩ := h; rfl) | (obtain ⟨_, _, _, rfl, _⟩ := h; rfl) | (obtain ⟨_, _, _, _, rfl, _⟩ := h; rfl) | (unfold φ_ratio_of at h; split at h <;> first | rfl | exact h.elim)
theorem len_ends_of (ds : List D) (Q : D → Prop) (E : Nat → Prop) (h : φ_ends_of ds Q E) : ds.length = 2 := by
  first | (obtain ⟨_, rfl, _⟩ := h; rfl) | (obtain ⟨_, _, rfl, _⟩ := h; rfl) | (obtain ⟨_, _, _, rfl, _⟩ := h; rfl) | (obtain ⟨_, _, _, _, rfl, _⟩ := h; rfl) | (unfold φ_ends_of at h; split at h <;> first | rfl | exact h.elim)
theorem len_whole_sizes (ds : List D) (Q : D → Prop) (E : Nat → Prop) (h : φ_whole_sizes ds Q E) : ds.length = 2 := by
  first | (obtain ⟨_, rfl, _⟩ := h; rfl) | (obtain ⟨_, _, rfl, _⟩ := h; rfl) | (obtain ⟨_, _, _, rfl, _⟩ := h; rfl) | (obtain ⟨_, _, _, _, rfl, _⟩ := h; rfl) | (unfold φ_whole_sizes at h; split at h <;> first | rfl | exact h.elim)
theorem len_sizes_at (ds : List D) (Q : D → Prop) (E : Nat → Prop) (h : φ_sizes_at ds Q E) : ds.length = 3 := by
  first | (obtain ⟨_, rfl, _⟩ := h; rfl) | (obtain ⟨_, _, rfl, _⟩ := h; rfl) | (obtain ⟨_, _, _, rfl, _⟩ := h; rfl) | (obtain ⟨_, _, _, _, rfl, _⟩ := h; rfl) | (unfold φ_sizes_at at h; split at h <;> first | rfl | exact h.elim)
theorem len_shares (ds : List D) (Q : D → Prop) (E : Nat → Prop) (h : φ_shares ds Q E) : ds.length = 2 := by
  first | (obtain ⟨_, rfl, _⟩ := h; rfl) | (obtain ⟨_, _, rfl, _⟩ := h; rfl) | (obtain ⟨_, _, _, rfl, _⟩ := h; rfl) | (obtain ⟨_, _, _, _, rfl, _⟩ := h; rfl) | (unfold φ_shares at h; split at h <;> first | rfl | exact h.elim)
theorem len_is_right_ratio (ds : List D) (Q : D → Prop) (E : Nat → Prop) (h : φ_is_right_ratio ds Q E) : ds.length = 3 := by
  first | (obtain ⟨_, rfl, _⟩ := h; rfl) | (obtain ⟨_, _, rfl, _⟩ := h; rfl) | (obtain ⟨_, _, _, rfl, _⟩ := h; rfl) | (obtain ⟨_, _, _, _, rfl, _⟩ := h; rfl) | (unfold φ_is_right_ratio at h; split at h <;> first | rfl | exact h.elim)
theorem len_is_share (ds : List D) (Q : D → Prop) (E : Nat → Prop) (h : φ_is_share ds Q E) : ds.length = 4 := by
  first | (obtain ⟨_, rfl, _⟩ := h; rfl) | (obtain ⟨_, _, rfl, _⟩ := h; rfl) | (obtain ⟨_, _, _, rfl, _⟩ := h; rfl) | (obtain ⟨_, _, _, _, rfl, _⟩ := h; rfl) | (unfold φ_is_share at h; split at h <;> first | rfl | exact h.elim)
theorem len_law_pool (ds : List D) (Q : D → Prop) (E : Nat → Prop) (h : φ_law_pool ds Q E) : ds.length = 1 := by
  first | (obtain ⟨_, rfl, _⟩ := h; rfl) | (obtain ⟨_, _, rfl, _⟩ := h; rfl) | (obtain ⟨_, _, _, rfl, _⟩ := h; rfl) | (obtain ⟨_, _, _, _, rfl, _⟩ := h; rfl) | (unfold φ_law_pool at h; split at h <;> first | rfl | exact h.elim)
theorem len_law_stream (ds : List D) (Q : D → Prop) (E : Nat → Prop) (h : φList ds Q E) : ds.length = 1 := by
  first | (obtain ⟨_, rfl, _⟩ := h; rfl) | (obtain ⟨_, _, rfl, _⟩ := h; rfl) | (obtain ⟨_, _, _, rfl, _⟩ := h; rfl) | (obtain ⟨_, _, _, _, rfl, _⟩ := h; rfl) | (unfold φList at h; split at h <;> first | rfl | exact h.elim)
theorem len_law_part (ds : List D) (Q : D → Prop) (E : Nat → Prop) (h : φ_law_part ds Q E) : ds.length = 2 := by
  first | (obtain ⟨_, rfl, _⟩ := h; rfl) | (obtain ⟨_, _, rfl, _⟩ := h; rfl) | (obtain ⟨_, _, _, rfl, _⟩ := h; rfl) | (obtain ⟨_, _, _, _, rfl, _⟩ := h; rfl) | (unfold φ_law_part at h; split at h <;> first | rfl | exact h.elim)
theorem len_law_cut (ds : List D) (Q : D → Prop) (E : Nat → Prop) (h : φ_law_cut ds Q E) : ds.length = 3 := by
  first | (obtain ⟨_, rfl, _⟩ := h; rfl) | (obtain ⟨_, _, rfl, _⟩ := h; rfl) | (obtain ⟨_, _, _, rfl, _⟩ := h; rfl) | (obtain ⟨_, _, _, _, rfl, _⟩ := h; rfl) | (unfold φ_law_cut at h; split at h <;> first | rfl | exact h.elim)
theorem len_law_tops (ds : List D) (Q : D → Prop) (E : Nat → Prop) (h : φ_law_tops ds Q E) : ds.length = 3 := by
  first | (obtain ⟨_, rfl, _⟩ := h; rfl) | (obtain ⟨_, _, rfl, _⟩ := h; rfl) | (obtain ⟨_, _, _, rfl, _⟩ := h; rfl) | (obtain ⟨_, _, _, _, rfl, _⟩ := h; rfl) | (unfold φ_law_tops at h; split at h <;> first | rfl | exact h.elim)
theorem len_law_wholes (ds : List D) (Q : D → Prop) (E : Nat → Prop) (h : φ_law_wholes ds Q E) : ds.length = 2 := by
  first | (obtain ⟨_, rfl, _⟩ := h; rfl) | (obtain ⟨_, _, rfl, _⟩ := h; rfl) | (obtain ⟨_, _, _, rfl, _⟩ := h; rfl) | (obtain ⟨_, _, _, _, rfl, _⟩ := h; rfl) | (unfold φ_law_wholes at h; split at h <;> first | rfl | exact h.elim)
theorem len_law_share (ds : List D) (Q : D → Prop) (E : Nat → Prop) (h : φ_law_share ds Q E) : ds.length = 2 := by
  first | (obtain ⟨_, rfl, _⟩ := h; rfl) | (obtain ⟨_, _, rfl, _⟩ := h; rfl) | (obtain ⟨_, _, _, rfl, _⟩ := h; rfl) | (obtain ⟨_, _, _, _, rfl, _⟩ := h; rfl) | (unfold φ_law_share at h; split at h <;> first | rfl | exact h.elim)
theorem len_law_ends (ds : List D) (Q : D → Prop) (E : Nat → Prop) (h : φ_law_ends ds Q E) : ds.length = 1 := by
  first | (obtain ⟨_, rfl, _⟩ := h; rfl) | (obtain ⟨_, _, rfl, _⟩ := h; rfl) | (obtain ⟨_, _, _, rfl, _⟩ := h; rfl) | (obtain ⟨_, _, _, _, rfl, _⟩ := h; rfl) | (unfold φ_law_ends at h; split at h <;> first | rfl | exact h.elim)
theorem len_law_has (ds : List D) (Q : D → Prop) (E : Nat → Prop) (h : φ_law_has ds Q E) : ds.length = 2 := by
  first | (obtain ⟨_, rfl, _⟩ := h; rfl) | (obtain ⟨_, _, rfl, _⟩ := h; rfl) | (obtain ⟨_, _, _, rfl, _⟩ := h; rfl) | (obtain ⟨_, _, _, _, rfl, _⟩ := h; rfl) | (unfold φ_law_has at h; split at h <;> first | rfl | exact h.elim)
theorem len_law_lowest (ds : List D) (Q : D → Prop) (E : Nat → Prop) (h : φ_law_lowest ds Q E) : ds.length = 2 := by
  first | (obtain ⟨_, rfl, _⟩ := h; rfl) | (obtain ⟨_, _, rfl, _⟩ := h; rfl) | (obtain ⟨_, _, _, rfl, _⟩ := h; rfl) | (obtain ⟨_, _, _, _, rfl, _⟩ := h; rfl) | (unfold φ_law_lowest at h; split at h <;> first | rfl | exact h.elim)
theorem len_law_is_yes (ds : List D) (Q : D → Prop) (E : Nat → Prop) (h : φ_law_is_yes ds Q E) : ds.length = 2 := by
  first | (obtain ⟨_, rfl, _⟩ := h; rfl) | (obtain ⟨_, _, rfl, _⟩ := h; rfl) | (obtain ⟨_, _, _, rfl, _⟩ := h; rfl) | (obtain ⟨_, _, _, _, rfl, _⟩ := h; rfl) | (unfold φ_law_is_yes at h; split at h <;> first | rfl | exact h.elim)
theorem len_law_papers (ds : List D) (Q : D → Prop) (E : Nat → Prop) (h : φ_law_papers ds Q E) : ds.length = 4 := by
  first | (obtain ⟨_, rfl, _⟩ := h; rfl) | (obtain ⟨_, _, rfl, _⟩ := h; rfl) | (obtain ⟨_, _, _, rfl, _⟩ := h; rfl) | (obtain ⟨_, _, _, _, rfl, _⟩ := h; rfl) | (unfold φ_law_papers at h; split at h <;> first | rfl | exact h.elim)
theorem len_law_spoilt (ds : List D) (Q : D → Prop) (E : Nat → Prop) (h : φ_law_spoilt ds Q E) : ds.length = 3 := by
  first | (obtain ⟨_, rfl, _⟩ := h; rfl) | (obtain ⟨_, _, rfl, _⟩ := h; rfl) | (obtain ⟨_, _, _, rfl, _⟩ := h; rfl) | (obtain ⟨_, _, _, _, rfl, _⟩ := h; rfl) | (unfold φ_law_spoilt at h; split at h <;> first | rfl | exact h.elim)
theorem len_law_all_said (ds : List D) (Q : D → Prop) (E : Nat → Prop) (h : φ_law_all_said ds Q E) : ds.length = 3 := by
  first | (obtain ⟨_, rfl, _⟩ := h; rfl) | (obtain ⟨_, _, rfl, _⟩ := h; rfl) | (obtain ⟨_, _, _, rfl, _⟩ := h; rfl) | (obtain ⟨_, _, _, _, rfl, _⟩ := h; rfl) | (unfold φ_law_all_said at h; split at h <;> first | rfl | exact h.elim)
theorem len_law_moved (ds : List D) (Q : D → Prop) (E : Nat → Prop) (h : φ_law_moved ds Q E) : ds.length = 3 := by
  first | (obtain ⟨_, rfl, _⟩ := h; rfl) | (obtain ⟨_, _, rfl, _⟩ := h; rfl) | (obtain ⟨_, _, _, rfl, _⟩ := h; rfl) | (obtain ⟨_, _, _, _, rfl, _⟩ := h; rfl) | (unfold φ_law_moved at h; split at h <;> first | rfl | exact h.elim)
theorem len_law_outcome (ds : List D) (Q : D → Prop) (E : Nat → Prop) (h : φ_law_outcome ds Q E) : ds.length = 4 := by
  first | (obtain ⟨_, rfl, _⟩ := h; rfl) | (obtain ⟨_, _, rfl, _⟩ := h; rfl) | (obtain ⟨_, _, _, rfl, _⟩ := h; rfl) | (obtain ⟨_, _, _, _, rfl, _⟩ := h; rfl) | (unfold φ_law_outcome at h; split at h <;> first | rfl | exact h.elim)
theorem len_law_refused (ds : List D) (Q : D → Prop) (E : Nat → Prop) (h : φ_law_refused ds Q E) : ds.length = 3 := by
  first | (obtain ⟨_, rfl, _⟩ := h; rfl) | (obtain ⟨_, _, rfl, _⟩ := h; rfl) | (obtain ⟨_, _, _, rfl, _⟩ := h; rfl) | (obtain ⟨_, _, _, _, rfl, _⟩ := h; rfl) | (unfold φ_law_refused at h; split at h <;> first | rfl | exact h.elim)
theorem len_law (ds : List D) (Q : D → Prop) (E : Nat → Prop) (h : φ_law ds Q E) : ds.length = 1 := by
  first | (obtain ⟨_, rfl, _⟩ := h; rfl) | (obtain ⟨_, _, rfl, _⟩ := h; rfl) | (obtain ⟨_, _, _, rfl, _⟩ := h; rfl) | (obtain ⟨_, _, _, _, rfl, _⟩ := h; rfl) | (unfold φ_law φLaw at h; split at h <;> first | rfl | exact h.elim)
theorem all {P : Program} {w : World} {K : PySem.W.Frag} {mg : Str → Option Value} (T : Txt K mg) (base : Heap) : CallOk P w K mg base 9 "law" ["script"] φLaw := by
  have C_law_pick := ok_law_pick (P := P) (w := w) (base := base) T
  have C_is_whole := ok_is_whole (P := P) (w := w) (base := base) T vc_is_whole len_is_whole
  have C_is_part := ok_is_part (P := P) (w := w) (base := base) T C_is_whole vc_is_part len_is_part
  have C_check_parts := ok_check_parts (P := P) (w := w) (base := base) T C_is_whole C_is_part vc_check_parts len_check_parts
  have C_cut := ok_cut (P := P) (w := w) (base := base) T vc_cut len_cut
  have C_times := ok_times (P := P) (w := w) (base := base) T vc_times len_times
  have C_tops_at := ok_tops_at (P := P) (w := w) (base := base) T C_cut C_times vc_tops_at len_tops_at
  have C_knots_of := ok_knots_of (P := P) (w := w) (base := base) T vc_knots_of len_knots_of
  have C_gain_behind := ok_gain_behind (P := P) (w := w) (base := base) T vc_gain_behind len_gain_behind
  have C_lowest := ok_lowest (P := P) (w := w) (base := base) T vc_lowest len_lowest
  have C_least_ratio := ok_least_ratio (P := P) (w := w) (base := base) T C_knots_of C_tops_at C_gain_behind C_lowest vc_least_ratio len_least_ratio
  have C_mirrored := ok_mirrored (P := P) (w := w) (base := base) T C_times vc_mirrored len_mirrored
  have C_ratio_of := ok_ratio_of (P := P) (w := w) (base := base) T C_tops_at C_least_ratio C_mirrored vc_ratio_of len_ratio_of
  have C_ends_of := ok_ends_of (P := P) (w := w) (base := base) T C_tops_at C_cut vc_ends_of len_ends_of
  have C_whole_sizes := ok_whole_sizes (P := P) (w := w) (base := base) T vc_whole_sizes len_whole_sizes
  have C_sizes_at := ok_sizes_at (P := P) (w := w) (base := base) T C_ends_of C_whole_sizes C_tops_at vc_sizes_at len_sizes_at
  have C_shares := ok_shares (P := P) (w := w) (base := base) T C_check_parts C_ratio_of C_sizes_at vc_shares len_shares
  have C_is_right_ratio := ok_is_right_ratio (P := P) (w := w) (base := base) T C_ratio_of C_is_whole C_tops_at vc_is_right_ratio len_is_right_ratio
  have C_is_share := ok_is_share (P := P) (w := w) (base := base) T C_check_parts C_is_right_ratio C_is_whole C_sizes_at vc_is_share len_is_share
  have C_law_pool := ok_law_pool (P := P) (w := w) (base := base) T vc_law_pool len_law_pool
  have C_law_stream := ok_law_stream (P := P) (w := w) (base := base) T C_law_pool vc_law_stream len_law_stream
  have C_law_stream := C_law_stream.stream
  have C_law_part := ok_law_part (P := P) (w := w) (base := base) T C_law_pick vc_law_part len_law_part
  have C_law_cut := ok_law_cut (P := P) (w := w) (base := base) T vc_law_cut len_law_cut
  have C_law_tops := ok_law_tops (P := P) (w := w) (base := base) T C_law_cut vc_law_tops len_law_tops
  have C_law_wholes := ok_law_wholes (P := P) (w := w) (base := base) T vc_law_wholes len_law_wholes
  have C_law_share := ok_law_share (P := P) (w := w) (base := base) T C_law_tops C_law_cut C_law_wholes vc_law_share len_law_share
  have C_law_ends := ok_law_ends (P := P) (w := w) (base := base) T C_law_cut vc_law_ends len_law_ends
  have C_law_has := ok_law_has (P := P) (w := w) (base := base) T C_law_ends vc_law_has len_law_has
  have C_law_lowest := ok_law_lowest (P := P) (w := w) (base := base) T vc_law_lowest len_law_lowest
  have C_law_is_yes := ok_law_is_yes (P := P) (w := w) (base := base) T vc_law_is_yes len_law_is_yes
  have C_law_still := ok_law_still (P := P) (w := w) (base := base) T C_law_pick C_law_tops vc_law_still len_law_still
  have C_law_papers := ok_law_papers (P := P) (w := w) (base := base) T C_law_lowest C_law_pick C_law_tops C_law_has vc_law_papers len_law_papers
  have C_law_spoilt := ok_law_spoilt (P := P) (w := w) (base := base) T C_law_pick vc_law_spoilt len_law_spoilt
  have C_law_all_said := ok_law_all_said (P := P) (w := w) (base := base) T C_law_share C_law_papers C_law_is_yes C_is_share C_shares C_law_pick C_law_spoilt vc_law_all_said len_law_all_said
  have C_law_moved := ok_law_moved (P := P) (w := w) (base := base) T C_shares C_law_pick C_law_is_yes C_is_share C_law_lowest vc_law_moved len_law_moved
  have C_law_outcome := ok_law_outcome (P := P) (w := w) (base := base) T C_is_share vc_law_outcome len_law_outcome
  have C_law_refused := ok_law_refused (P := P) (w := w) (base := base) T C_law_share C_law_pick C_law_outcome C_law_is_yes C_is_share vc_law_refused len_law_refused
  have C_law := ok_law (P := P) (w := w) (base := base) T C_law_stream C_law_still C_law_share C_law_lowest C_law_is_yes C_is_share C_law_all_said C_law_moved C_law_pick C_law_part C_law_cut C_law_refused vc_law len_law
  exact C_law
end PL.K57
open PySem PySem.W PySem.Calls PyProof.Rows
set_option maxHeartbeats 0
theorem PySem.Challenge.cw_pageseen_k57_whole_judge_of_shares_holds : PySem.Challenge.rw_pageseen_k57_whole_judge_of_shares.Holds := by
  w_on; o_law
  refine HandSHeadRun.head_imp (r := OpenLaw.row PySem.Challenge.rw_pageseen_k57_whole_judge_of_shares) (q := view (OpenLaw.row PySem.Challenge.rw_pageseen_k57_whole_judge_of_shares).prog [0, 45]) (H := PL.K57.hk) (ob := PL.K57.ob) (M := 4000) (loose := PL.K57.loose) (d := HandSHeadRun.topDef (OpenLaw.row PySem.Challenge.rw_pageseen_k57_whole_judge_of_shares).prog 45) (kwd := []) PL.K57.ob_eq
    PL.K57.run (by kernel_rfl) (by kernel_rfl) (by kernel_rfl) (by rfl) (by first | assumption | decide +kernel) (by decide +kernel) ⟨rfl, rfl, rfl, rfl, rfl, by decide +kernel⟩ ?hw ?hc
  case hw => w_witness2
  case hc =>
    refine PL.walk_ofP (l := PySem.Challenge.rw_pageseen_k57_whole_judge_of_shares) (k := 9) rfl (by kernel_rfl) ⟨rfl, by decide, by decide⟩ ?F
    intro w mg h Y G
    obtain ⟨K, KX, c⟩ := Y
    have T := PL.K57.txt KX G c
    have e : (HandSHeadRun.topDef (OpenLaw.row PySem.Challenge.rw_pageseen_k57_whole_judge_of_shares).prog 45).name = ("law" : PySem.Str) := by kernel_rfl
    exact ⟨K, KX, by rw [e]; exact T.g_law, fun base => PL.K57.all T base⟩
