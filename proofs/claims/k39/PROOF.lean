import PyProof.Rows.All
import HandS.ForMost
import HandS.Evl
import HandS.Wide
import HandS.Walk
import HandS.WordsExc
import HandS.IsInst
import HandS.Style
import HandS.TupAny
import HandS.Deep
import HandS.EndBits
import HandS.Defaults
import HandS.Head0
import HandS.Head1
import HandS.Head2
import HandS.HeadEnd
import HandS.HeadHook1
import HandS.HeadHook2
import KE.GoesMore
import KE.GoesEnum
import HandS.Zip
import HandS.SortInts
import HandS.NamedTupSort
import HandS.TupLe
import PySem.Challenge.RW_pinnedtunes_k39_whole_wishes_say_bounds
set_option Elab.async false
set_option linter.all false
set_option maxRecDepth 100000
set_option maxHeartbeats 0
namespace Mir
open PySem L2 Evl
abbrev D := PyData
/-- the data of a key -/
def keyD : Key → D
  | .inl i => .int i
  | .inr x => .str x
mutual
/-- v stands, in the frozen heap F, for the data d -/
inductive Rep (K : PySem.W.Frag) (F : Hp) : V → D → Prop
  | non : Rep K F .non .none
  | bl (b : Bool) : Rep K F (.bl b) (.bool b)
  | int (i : Int) : Rep K F (.int i) (.int i)
  | str (x : Str) : Rep K F (.str x) (.str x)
  | lst {a : Addr} {vs : List V} {ds : List D} : F a = some (.lst vs) → RepL K F vs ds → Rep K F (.ref a) (.list ds)
  | tup {a : Addr} {vs : List V} {ds : List D} : SqT K F a vs → RepL K F vs ds → Rep K F (.ref a) (.tuple ds)
  | dic {a : Addr} {kvs : List (Key × V)} {l : List (D × D)} : F a = some (.dK kvs) → RepK K F kvs l → Rep K F (.ref a) (.dict l)
inductive RepL (K : PySem.W.Frag) (F : Hp) : List V → List D → Prop
  | nil : RepL K F [] []
  | cons {v : V} {d : D} {vs : List V} {ds : List D} : Rep K F v d → RepL K F vs ds → RepL K F (v :: vs) (d :: ds)
inductive RepK (K : PySem.W.Frag) (F : Hp) : List (Key × V) → List (D × D) → Prop
  | nil : RepK K F [] []
  | cons {k : Key} {v : V} {d : D} {kvs : List (Key × V)} {l : List (D × D)} : Rep K F v d → RepK K F kvs l → RepK K F ((k, v) :: kvs) ((keyD k, d) :: l)
end
mutual
theorem Rep.mono {K : PySem.W.Frag} {F F' : Hp} (e : Ex F F') {v : V} {d : D} (h : Rep K F v d) : Rep K F' v d := by
  cases h with
  | non => exact .non
  | bl b => exact .bl b
  | int i => exact .int i
  | str x => exact .str x
  | lst a b => exact .lst (e _ _ a) (RepL.mono e b)
  | tup a b => exact .tup (ex_t e a) (RepL.mono e b)
  | dic a b => exact .dic (e _ _ a) (RepK.mono e b)
theorem RepL.mono {K : PySem.W.Frag} {F F' : Hp} (e : Ex F F') {vs : List V} {ds : List D} (h : RepL K F vs ds) : RepL K F' vs ds := by
  cases h with
  | nil => exact .nil
  | cons a b => exact .cons (Rep.mono e a) (RepL.mono e b)
theorem RepK.mono {K : PySem.W.Frag} {F F' : Hp} (e : Ex F F') {vs : List (Key × V)} {ds : List (D × D)} (h : RepK K F vs ds) : RepK K F' vs ds := by
  cases h with
  | nil => exact .nil
  | cons a b => exact .cons (Rep.mono e a) (RepK.mono e b)
end
section
variable {K : PySem.W.Frag} {F H : Hp}
theorem RepL.length : ∀ {vs : List V} {ds : List D}, RepL K F vs ds → vs.length = ds.length
  | _, _, .nil => rfl
  | _, _, .cons _ t => congrArg (· + 1) (RepL.length t)
theorem RepL.get : ∀ {vs : List V} {ds : List D} {i : Nat} {d : D}, RepL K F vs ds → ds[i]? = some d → ∃ v, vs[i]? = some v ∧ Rep K F v d
  | _, _, _, _, .nil, h => by simp at h
  | _, _, 0, _, .cons r _, h => by simp at h; subst h; exact ⟨_, rfl, r⟩
  | _, _, i + 1, _, .cons _ t, h => by simpa using RepL.get (i := i) t (by simpa using h)
theorem RepL.append : ∀ {vs ws : List V} {ds es : List D}, RepL K F vs ds → RepL K F ws es → RepL K F (vs ++ ws) (ds ++ es)
  | _, _, _, _, .nil, h => h
  | _, _, _, _, .cons r t, h => .cons r (RepL.append t h)
theorem RepL.one {v : V} {d : D} (h : Rep K F v d) : RepL K F [v] [d] := .cons h .nil
theorem RepL.take : ∀ {vs : List V} {ds : List D} (n : Nat), RepL K F vs ds → RepL K F (vs.take n) (ds.take n)
  | _, _, 0, _ => .nil
  | _, _, _ + 1, .nil => .nil
  | _, _, n + 1, .cons r t => .cons r (RepL.take n t)
theorem RepL.drop : ∀ {vs : List V} {ds : List D} (n : Nat), RepL K F vs ds → RepL K F (vs.drop n) (ds.drop n)
  | _, _, 0, h => h
  | _, _, _ + 1, .nil => .nil
  | _, _, n + 1, .cons _ t => RepL.drop n t
theorem RepL.set : ∀ {vs : List V} {ds : List D} {v : V} {d : D} (n : Nat), Rep K F v d → RepL K F vs ds → RepL K F (vs.set n v) (ds.set n d)
  | _, _, _, _, _, _, .nil => .nil
  | _, _, _, _, 0, h, .cons r t => .cons h t
  | _, _, _, _, n + 1, h, .cons r t => .cons r (RepL.set n h t)
theorem RepL.reverse : ∀ {vs : List V} {ds : List D}, RepL K F vs ds → RepL K F vs.reverse ds.reverse
  | _, _, .nil => .nil
  | _, _, .cons r t => by
    rw [List.reverse_cons, List.reverse_cons]
    exact (RepL.reverse t).append (.one r)
end
/-- what a slot of the mirror holds -/
inductive SV where
  /-- data that never changes -/
  | d (x : D)
  /-- a list of the def's own, of data -/
  | ol (l : List D)
  /-- a list of the def's own, of lists of its own -/
  | oll (l : List (List D))
  /-- a dict of the def's own -/
  | od (l : List (Key × D))
  /-- the script -/
  | scr (l : List Int)
abbrev SD := List (Option SV)
structure Err where
  cls : Str
  args : List (Str × D)
inductive Rs (α : Type) where
  | ok (a : α) | err (e : Err) | bad
abbrev M (α : Type) := SD → Rs (α × SD)
def Rs.bind {α β : Type} (r : Rs α) (k : α → Rs β) : Rs β := match r with
  | .ok a => k a
  | .err e => .err e
  | .bad => .bad
def Post {α : Type} (r : Rs α) (EE : Err → Prop) (Q : α → Prop) : Prop := match r with
  | .ok a => Q a
  | .err e => EE e
  | .bad => False
theorem Post.bind {α β : Type} {r : Rs α} {k : α → Rs β} {EE : Err → Prop} {Q : β → Prop} (h : Post (r.bind k) EE Q) : Post r EE fun a => Post (k a) EE Q := by
  cases r <;> exact h
theorem Post.mono {α : Type} {r : Rs α} {EE EE' : Err → Prop} {Q Q' : α → Prop} (h : Post r EE Q) (he : ∀ e, EE e → EE' e) (hq : ∀ a, r = .ok a → Q a → Q' a) : Post r EE' Q' := by
  cases r with
  | ok a => exact hq a rfl h
  | err e => exact he e h
  | bad => exact h
def ListsR (K : PySem.W.Frag) (H F : Hp) (mine : Addr → Prop) : List Addr → List (List D) → Prop
  | [], [] => True
  | q :: qs, l :: ls => mine q ∧ (∃ vs, H q = some (.lst vs) ∧ RepL K F vs l) ∧ ¬ q ∈ qs ∧ ListsR K H F mine qs ls
  | _, _ => False
def SlotR (K : PySem.W.Frag) (H F : Hp) (mine : Addr → Prop) : SV → V → Prop
  | .d x, v => Rep K F v x
  | .ol l, v => ∃ p vs, v = .ref p ∧ mine p ∧ H p = some (.lst vs) ∧ RepL K F vs l
  | .oll ls, v => ∃ p qs, v = .ref p ∧ mine p ∧ H p = some (.lst (qs.map .ref)) ∧ ¬ p ∈ qs ∧ ListsR K H F mine qs ls
  | .od l, v => ∃ p kvs, v = .ref p ∧ mine p ∧ H p = some (.dK kvs) ∧ kvs.map (·.1) = l.map (·.1) ∧ RepL K F (kvs.map (·.2)) (l.map (·.2))
  | .scr l, v => ∃ p, v = .ref p ∧ SqL K F p (l.map V.int)
def Dis (B F : Hp) : Prop := ∀ a o, B a = some o → F a = none
structure Rel (K : PySem.W.Frag) (B H F : Hp) (s : SD) (σ : L2.St) : Prop where
  len : s.length = σ.length
  exB : Ex B H
  exF : Ex F H
  dis : Dis B F
  own : ∃ own : Addr → Option Nat, (∀ a i, own a = some i → F a = none ∧ B a = none) ∧ ∀ (i : Nat) (x : SV), s[i]? = some (some x) → ∃ v, σ[i]? = some (some v) ∧ SlotR K H F (fun a => own a = some i) x v
section
variable {K : PySem.W.Frag} {B H H' F F' : Hp} {s sx : SD} {σ σx : L2.St}
theorem ListsR.mono {mine mine' : Addr → Prop} (hm : ∀ a, mine a → mine' a) (hh : ∀ a xs, mine a → H a = some (.lst xs) → H' a = some (.lst xs)) (hf : Ex F F') : ∀ {qs : List Addr} {ls : List (List D)}, ListsR K H F mine qs ls → ListsR K H' F' mine' qs ls
  | [], [], _ => trivial
  | q :: qs, l :: ls, ⟨a, ⟨vs, b, c⟩, n, t⟩ => ⟨hm _ a, ⟨vs, hh _ _ a b, c.mono hf⟩, n, ListsR.mono hm hh hf t⟩
  | [], _ :: _, h => h.elim
  | _ :: _, [], h => h.elim
theorem SlotR.mono {mine mine' : Addr → Prop} {x : SV} {v : V} (hm : ∀ a, mine a → mine' a) (hh : ∀ a o, mine a → H a = some o → H' a = some o) (hf : Ex F F') (h : SlotR K H F mine x v) : SlotR K H' F' mine' x v := by
  cases x with
  | d x => exact Rep.mono hf h
  | ol l =>
    obtain ⟨p, vs, e, a, b, c⟩ := h
    exact ⟨p, vs, e, hm _ a, hh _ _ a b, c.mono hf⟩
  | oll ls =>
    obtain ⟨p, qs, e, a, b, n, c⟩ := h
    exact ⟨p, qs, e, hm _ a, hh _ _ a b, n, c.mono hm (fun a xs ha hx => hh a _ ha hx) hf⟩
  | od l =>
    obtain ⟨p, kvs, e, a, b, c, d⟩ := h
    exact ⟨p, kvs, e, hm _ a, hh _ _ a b, c, d.mono hf⟩
  | scr l =>
    obtain ⟨p, e, a⟩ := h
    exact ⟨p, e, ex_l hf a⟩
theorem SlotR.map {mine mine' : Addr → Prop} {x : SV} {v : V} (hm : ∀ a, mine a → mine' a) (h : SlotR K H F mine x v) : SlotR K H F mine' x v :=
  h.mono hm (fun _ _ _ h => h) (Ex.refl F)
/-- the heap grows, what is frozen too -/
theorem Rel.grow (R : Rel K B H F s σ) (eH : Ex H H') (eF : Ex F F') (eFH : Ex F' H') (new : ∀ a o, F' a = some o → F a = some o ∨ H a = none) : Rel K B H' F' s σ := by
  obtain ⟨len, exB, exF, dis, own, h1, h2⟩ := R
  have d' : Dis B F' := fun a o hb => by
    cases e : F' a with
    | none => rfl
    | some u =>
      rcases new a u e with q | q
      · rw [dis a o hb] at q; cases q
      · rw [exB a o hb] at q; cases q
  -- owned addresses that stand in H
  let own' : Addr → Option Nat := fun a => if H a = none then none else own a
  refine ⟨len, fun a o h => eH a o (exB a o h), eFH, d', own', fun a i h => ?_, fun i x h => ?_⟩
  · have h' : (if H a = none then none else own a) = some i := h
    by_cases c : H a = none
    · rw [if_pos c] at h'; cases h'
    · rw [if_neg c] at h'
      obtain ⟨q1, q2⟩ := h1 a i h'
      refine ⟨?_, q2⟩
      cases e : F' a with
      | none => rfl
      | some u =>
        rcases new a u e with q | q
        · rw [q1] at q; cases q
        · exact absurd q c
  · obtain ⟨v, hv, hr⟩ := h2 i x h
    refine ⟨v, hv, ?_⟩
    have key : ∀ a o, own a = some i → H a = some o → own' a = some i := fun a o ha ho => by
      show (if H a = none then none else own a) = some i
      rw [if_neg (by rw [ho]; exact fun z => nomatch z)]
      exact ha
    have keyL : ∀ (qs : List Addr) (ls : List (List D)), ListsR K H F (fun a => own a = some i) qs ls → ListsR K H' F' (fun a => own' a = some i) qs ls := by
      intro qs
      induction qs with
      | nil => intro ls h; cases ls <;> exact h
      | cons q qs ih =>
        intro ls h
        cases ls with
        | nil => exact h
        | cons l ls =>
          obtain ⟨a, ⟨vs, b, c⟩, n, t⟩ := h
          exact ⟨key _ _ a b, ⟨vs, eH _ _ b, c.mono eF⟩, n, ih ls t⟩
    cases x with
    | d x => exact Rep.mono eF hr
    | ol l =>
      obtain ⟨p, vs, e, a, b, c⟩ := hr
      exact ⟨p, vs, e, key _ _ a b, eH _ _ b, c.mono eF⟩
    | oll ls =>
      obtain ⟨p, qs, e, a, b, n, c⟩ := hr
      exact ⟨p, qs, e, key _ _ a b, eH _ _ b, n, keyL _ _ c⟩
    | od l =>
      obtain ⟨p, kvs, e, a, b, c, d⟩ := hr
      exact ⟨p, kvs, e, key _ _ a b, eH _ _ b, c, d.mono eF⟩
    | scr l =>
      obtain ⟨p, e, a⟩ := hr
      exact ⟨p, e, ex_l eF a⟩
theorem Rel.get {i : Nat} {x : D} (R : Rel K B H F s σ) (h : s[i]? = some (some (.d x))) : ∃ v, σ[i]? = some (some v) ∧ Rep K F v x := by
  obtain ⟨own, _, h2⟩ := R.own
  exact h2 i _ h
/-- a slot is given data -/
theorem Rel.setD {i : Nat} {x : D} {v : V} (R : Rel K B H F s σ) (h : Rep K F v x) : Rel K B H F (s.set i (some (.d x))) (σ.set i (some v)) := by
  obtain ⟨len, exB, exF, dis, own, h1, h2⟩ := R
  refine ⟨by simpa using len, exB, exF, dis, own, h1, fun j y hj => ?_⟩
  rw [List.getElem?_set] at hj ⊢
  by_cases c : i = j
  · subst c
    rw [if_pos rfl] at hj ⊢
    by_cases l : i < s.length
    · rw [if_pos l] at hj
      cases hj
      rw [if_pos (len ▸ l)]
      exact ⟨v, rfl, h⟩
    · rw [if_neg l] at hj; cases hj
  · rw [if_neg c] at hj ⊢
    exact h2 j y hj
/-- a slot is forgotten -/
theorem Rel.setN {i : Nat} {v : Option V} (R : Rel K B H F s σ) : Rel K B H F (s.set i none) (σ.set i v) := by
  obtain ⟨len, exB, exF, dis, own, h1, h2⟩ := R
  refine ⟨by simpa using len, exB, exF, dis, own, h1, fun j y hj => ?_⟩
  rw [List.getElem?_set] at hj ⊢
  by_cases c : i = j
  · subst c
    rw [if_pos rfl] at hj
    by_cases l : i < s.length
    · rw [if_pos l] at hj; cases hj
    · rw [if_neg l] at hj; cases hj
  · rw [if_neg c] at hj ⊢
    exact h2 j y hj
/-- what is in flight is stored -/
theorem Rel.move {i : Nat} {x : SV} {v : V} (R : Rel K B H F (s ++ some x :: sx) (σ ++ some v :: σx)) (hl : s.length = σ.length) (hi : i < s.length) : Rel K B H F (s.set i (some x) ++ sx) (σ.set i (some v) ++ σx) := by
  obtain ⟨len, exB, exF, dis, own, h1, h2⟩ := R
  let own' : Addr → Option Nat := fun a => match own a with
    | none => none
    | some j => if j = s.length then some i else if j = i then none else if j < s.length then some j else some (j - 1)
  refine ⟨by simp at len ⊢; omega, exB, exF, dis, own', fun a k ha => ?_, fun k y hk => ?_⟩
  · have ha' : (match own a with | none => none | some j => if j = s.length then some i else if j = i then none else if j < s.length then some j else some (j - 1)) = some k := ha
    cases e : own a with
    | none => rw [e] at ha'; cases ha'
    | some j => exact h1 a j e
  · by_cases kl : k < s.length
    · rw [List.getElem?_append_left (by simpa using kl), List.getElem?_set] at hk
      rw [List.getElem?_append_left (by simp; omega), List.getElem?_set]
      by_cases c : i = k
      · subst c
        rw [if_pos rfl, if_pos kl] at hk
        rw [if_pos rfl, if_pos (hl ▸ kl)]
        cases hk
        obtain ⟨w, hw, hr⟩ := h2 s.length x (by simp)
        have e : w = v := by
          rw [hl] at hw
          simpa using hw.symm
        subst e
        refine ⟨w, rfl, hr.map fun a ha => ?_⟩
        show (match own a with | none => none | some j => if j = s.length then some i else if j = i then none else if j < s.length then some j else some (j - 1)) = some i
        rw [ha]
        simp
      · rw [if_neg c] at hk ⊢
        obtain ⟨w, hw, hr⟩ := h2 k y (by rw [List.getElem?_append_left kl]; exact hk)
        refine ⟨w, by rw [List.getElem?_append_left (by omega)] at hw; exact hw, hr.map fun a ha => ?_⟩
        show (match own a with | none => none | some j => if j = s.length then some i else if j = i then none else if j < s.length then some j else some (j - 1)) = some k
        rw [ha]
        show (if k = s.length then some i else if k = i then none else if k < s.length then some k else some (k - 1)) = some k
        rw [if_neg (by omega), if_neg (fun z => c z.symm), if_pos kl]
    · rw [List.getElem?_append_right (by simpa using kl)] at hk
      rw [List.length_set] at hk
      obtain ⟨w, hw, hr⟩ := h2 (k + 1) y (by
        rw [List.getElem?_append_right (by omega), show k + 1 - s.length = (k - s.length) + 1 by omega]
        simpa using hk)
      refine ⟨w, ?_, hr.map fun a ha => ?_⟩
      · rw [List.getElem?_append_right (by omega), show k + 1 - σ.length = (k - σ.length) + 1 by omega] at hw
        rw [List.getElem?_append_right (by simp; omega), List.length_set]
        simpa using hw
      · show (match own a with | none => none | some j => if j = s.length then some i else if j = i then none else if j < s.length then some j else some (j - 1)) = some k
        rw [ha]
        show (if k + 1 = s.length then some i else if k + 1 = i then none else if k + 1 < s.length then some (k + 1) else some (k + 1 - 1)) = some k
        rw [if_neg (by omega), if_neg (by omega), if_neg (by omega)]
        rfl
/-- what is in flight is dropped -/
theorem Rel.drop1 {x : Option SV} {v : Option V} (R : Rel K B H F (s ++ x :: sx) (σ ++ v :: σx)) (hl : s.length = σ.length) : Rel K B H F (s ++ sx) (σ ++ σx) := by
  obtain ⟨len, exB, exF, dis, own, h1, h2⟩ := R
  let own' : Addr → Option Nat := fun a => match own a with
    | none => none
    | some j => if j = s.length then none else if j < s.length then some j else some (j - 1)
  refine ⟨by simp at len ⊢; omega, exB, exF, dis, own', fun a k ha => ?_, fun k y hk => ?_⟩
  · have ha' : (match own a with | none => none | some j => if j = s.length then none else if j < s.length then some j else some (j - 1)) = some k := ha
    cases e : own a with
    | none => rw [e] at ha'; cases ha'
    | some j => exact h1 a j e
  · by_cases kl : k < s.length
    · rw [List.getElem?_append_left kl] at hk
      rw [List.getElem?_append_left (by omega)]
      obtain ⟨w, hw, hr⟩ := h2 k y (by rw [List.getElem?_append_left kl]; exact hk)
      refine ⟨w, by rw [List.getElem?_append_left (by omega)] at hw; exact hw, hr.map fun a ha => ?_⟩
      show (match own a with | none => none | some j => if j = s.length then none else if j < s.length then some j else some (j - 1)) = some k
      rw [ha]
      show (if k = s.length then none else if k < s.length then some k else some (k - 1)) = some k
      rw [if_neg (by omega), if_pos kl]
    · rw [List.getElem?_append_right (by omega)] at hk
      obtain ⟨w, hw, hr⟩ := h2 (k + 1) y (by
        rw [List.getElem?_append_right (by omega), show k + 1 - s.length = (k - s.length) + 1 by omega]
        simpa using hk)
      refine ⟨w, ?_, hr.map fun a ha => ?_⟩
      · rw [List.getElem?_append_right (by omega), show k + 1 - σ.length = (k - σ.length) + 1 by omega] at hw
        rw [List.getElem?_append_right (by omega)]
        simpa using hw
      · show (match own a with | none => none | some j => if j = s.length then none else if j < s.length then some j else some (j - 1)) = some k
        rw [ha]
        show (if k + 1 = s.length then none else if k + 1 < s.length then some (k + 1) else some (k + 1 - 1)) = some k
        rw [if_neg (by omega), if_neg (by omega)]
        rfl
end
end Mir
namespace Mir
open PySem L2 Evl
/-- a slot's data when it is frozen -/
def SV.fz : SV → Option D
  | .d x => some x
  | .ol l => some (.list l)
  | .oll ls => some (.list (ls.map .list))
  | .od l => some (.dict (l.map fun p => (keyD p.1, p.2)))
  | .scr _ => none
section
variable {K : PySem.W.Frag} {B H H' F F' : Hp} {s sx : SD} {σ σx : L2.St}
theorem ListsR.frz {mine : Addr → Prop} (hF : ∀ a, mine a → F' a = H a) (eF : Ex F F') : ∀ {qs : List Addr} {ls : List (List D)}, ListsR K H F mine qs ls → RepL K F' (qs.map .ref) (ls.map .list)
  | [], [], _ => .nil
  | q :: qs, l :: ls, ⟨a, ⟨vs, b, c⟩, n, t⟩ => .cons (.lst (by rw [hF q a]; exact b) (c.mono eF)) (ListsR.frz hF eF t)
  | [], _ :: _, h => h.elim
  | _ :: _, [], h => h.elim
theorem repK_of : ∀ {kvs : List (Key × V)} {l : List (Key × D)}, kvs.map (·.1) = l.map (·.1) → RepL K F (kvs.map (·.2)) (l.map (·.2)) → RepK K F kvs (l.map fun p => (keyD p.1, p.2))
  | [], [], _, _ => .nil
  | (k, v) :: kvs, (k', d) :: l, e, h => by
    have e' : k = k' ∧ kvs.map (·.1) = l.map (·.1) := by simpa using e
    obtain ⟨e1, e2⟩ := e'
    subst e1
    cases h with
    | cons a b => exact .cons a (repK_of e2 b)
  | [], _ :: _, e, _ => by simp at e
  | _ :: _, [], e, _ => by simp at e
theorem SlotR.frz {mine : Addr → Prop} {x : SV} {v : V} {d : D} (hF : ∀ a, mine a → F' a = H a) (eF : Ex F F') (h : SlotR K H F mine x v) (e : x.fz = some d) : Rep K F' v d := by
  cases x with
  | d x => cases e; exact Rep.mono eF h
  | ol l =>
    obtain ⟨p, vs, rfl, a, b, c⟩ := h
    cases e
    exact .lst (by rw [hF p a]; exact b) (c.mono eF)
  | oll ls =>
    obtain ⟨p, qs, rfl, a, b, n, c⟩ := h
    cases e
    exact .lst (by rw [hF p a]; exact b) (c.frz hF eF)
  | od l =>
    obtain ⟨p, kvs, rfl, a, b, c, q⟩ := h
    cases e
    exact .dic (by rw [hF p a]; exact b) (repK_of c (q.mono eF))
  | scr l => cases e
/-- what a slot holds is frozen -/
theorem Rel.freeze {i : Nat} {x : SV} {d : D} (R : Rel K B H F s σ) (h : s[i]? = some (some x)) (hd : x.fz = some d) : ∃ F' v, Ex F F' ∧ σ[i]? = some (some v) ∧ Rep K F' v d ∧ Rel K B H F' (s.set i (some (.d d))) σ := by
  obtain ⟨len, exB, exF, dis, own, h1, h2⟩ := R
  obtain ⟨v, hv, hr⟩ := h2 i x h
  let F' : Hp := fun a => if own a = some i then H a else F a
  have eF : Ex F F' := fun a o ha => by
    show (if own a = some i then H a else F a) = some o
    by_cases c : own a = some i
    · rw [(h1 a i c).1] at ha; cases ha
    · rw [if_neg c]; exact ha
  have eFH : Ex F' H := fun a o ha => by
    have ha' : (if own a = some i then H a else F a) = some o := ha
    by_cases c : own a = some i
    · rw [if_pos c] at ha'; exact ha'
    · rw [if_neg c] at ha'; exact exF a o ha'
  have rp : Rep K F' v d := hr.frz (fun a ha => if_pos ha) eF hd
  refine ⟨F', v, eF, hv, rp, by simpa using len, exB, eFH, fun a o hb => ?_, fun a => if own a = some i then none else own a, fun a j ha => ?_, fun j y hj => ?_⟩
  · show (if own a = some i then H a else F a) = none
    by_cases c : own a = some i
    · rw [(h1 a i c).2] at hb; cases hb
    · rw [if_neg c]; exact dis a o hb
  · have ha' : (if own a = some i then none else own a) = some j := ha
    by_cases c : own a = some i
    · rw [if_pos c] at ha'; cases ha'
    · rw [if_neg c] at ha'
      refine ⟨?_, (h1 a j ha').2⟩
      show (if own a = some i then H a else F a) = none
      rw [if_neg c]
      exact (h1 a j ha').1
  · rw [List.getElem?_set] at hj
    by_cases c : i = j
    · subst c
      rw [if_pos rfl] at hj
      by_cases l : i < s.length
      · rw [if_pos l] at hj
        cases hj
        exact ⟨v, hv, rp⟩
      · rw [if_neg l] at hj; cases hj
    · rw [if_neg c] at hj
      obtain ⟨w, hw, hr'⟩ := h2 j y hj
      refine ⟨w, hw, hr'.mono (fun a ha => ?_) (fun _ _ _ q => q) eF⟩
      show (if own a = some i then none else own a) = some j
      rw [if_neg (by rw [ha]; intro z; exact c (Option.some.inj z).symm)]
      exact ha
/-- a new list comes into flight -/
theorem Rel.fresh {p : Addr} {vs : List V} {l : List D} (R : Rel K B H F (s ++ sx) (σ ++ σx)) (hl : s.length = σ.length) (hp : H p = none) (r : RepL K F vs l) :
    Rel K B (upd H p (.lst vs)) F (s ++ some (.ol l) :: sx) (σ ++ some (.ref p) :: σx) := by
  obtain ⟨len, exB, exF, dis, own, h1, h2⟩ := R
  have hF : F p = none := fresh_back exF hp
  have hB : B p = none := fresh_back exB hp
  have up : Ex H (upd H p (.lst vs)) := Ex.new hp
  let own' : Addr → Option Nat := fun a => if a = p then some s.length else match own a with | none => none | some j => if H a = none then none else if j < s.length then some j else some (j + 1)
  have keyo : ∀ a j o, own a = some j → H a = some o → own' a = some (if j < s.length then j else j + 1) := fun a j o ha ho => by
    show (if a = p then some s.length else match own a with | none => none | some j => if H a = none then none else if j < s.length then some j else some (j + 1)) = _
    rw [if_neg (ne_of_none ho hp), ha]
    show (if H a = none then none else if j < s.length then some j else some (j + 1)) = _
    rw [if_neg (by rw [ho]; exact fun z => nomatch z)]
    by_cases c : j < s.length
    · rw [if_pos c, if_pos c]
    · rw [if_neg c, if_neg c]
  have keyL : ∀ j (qs : List Addr) (ls : List (List D)), ListsR K H F (fun a => own a = some j) qs ls → ListsR K (upd H p (.lst vs)) F (fun a => own' a = some (if j < s.length then j else j + 1)) qs ls := by
    intro j qs
    induction qs with
    | nil => intro ls h; cases ls <;> exact h
    | cons q qs ih =>
      intro ls h
      cases ls with
      | nil => exact h
      | cons l ls =>
        obtain ⟨a, ⟨ws, b, c⟩, n, t⟩ := h
        exact ⟨keyo _ _ _ a b, ⟨ws, up _ _ b, c⟩, n, ih ls t⟩
  have keyS : ∀ j (x : SV) (v : V), SlotR K H F (fun a => own a = some j) x v → SlotR K (upd H p (.lst vs)) F (fun a => own' a = some (if j < s.length then j else j + 1)) x v := by
    intro j x v hr
    cases x with
    | d x => exact hr
    | ol l =>
      obtain ⟨p', ws, e, a, b, c⟩ := hr
      exact ⟨p', ws, e, keyo _ _ _ a b, up _ _ b, c⟩
    | oll ls =>
      obtain ⟨p', qs, e, a, b, n, c⟩ := hr
      exact ⟨p', qs, e, keyo _ _ _ a b, up _ _ b, n, keyL _ _ _ c⟩
    | od l =>
      obtain ⟨p', kvs, e, a, b, c, d⟩ := hr
      exact ⟨p', kvs, e, keyo _ _ _ a b, up _ _ b, c, d⟩
    | scr l =>
      obtain ⟨p', e, a⟩ := hr
      exact ⟨p', e, a⟩
  refine ⟨by simp at len ⊢; omega, exB.trans up, exF.trans up, dis, own', fun a k ha => ?_, fun k y hk => ?_⟩
  · have ha' : (if a = p then some s.length else match own a with | none => none | some j => if H a = none then none else if j < s.length then some j else some (j + 1)) = some k := ha
    by_cases c : a = p
    · rw [c]; exact ⟨hF, hB⟩
    · rw [if_neg c] at ha'
      cases e : own a with
      | none => rw [e] at ha'; cases ha'
      | some j => exact h1 a j e
  · by_cases kl : k < s.length
    · rw [List.getElem?_append_left kl] at hk
      obtain ⟨w, hw, hr⟩ := h2 k y (by rw [List.getElem?_append_left kl]; exact hk)
      refine ⟨w, by rw [List.getElem?_append_left (by omega)] at hw ⊢; exact hw, ?_⟩
      have q := keyS k y w hr
      rw [if_pos kl] at q
      exact q
    · by_cases kn : k = s.length
      · subst kn
        rw [List.getElem?_append_right (Nat.le_refl _)] at hk
        simp at hk
        subst hk
        refine ⟨.ref p, by rw [List.getElem?_append_right (by omega)]; simp [hl], p, vs, rfl, ?_, upd_same, r⟩
        show (if p = p then some s.length else _) = some s.length
        rw [if_pos rfl]
      · obtain ⟨m, rfl⟩ : ∃ m, k = m + 1 := ⟨k - 1, by omega⟩
        rw [List.getElem?_append_right (by omega), show m + 1 - s.length = (m - s.length) + 1 by omega, List.getElem?_cons_succ] at hk
        obtain ⟨w, hw, hr⟩ := h2 m y (by rw [List.getElem?_append_right (by omega)]; exact hk)
        refine ⟨w, ?_, ?_⟩
        · rw [List.getElem?_append_right (by omega)] at hw
          rw [List.getElem?_append_right (by omega), show m + 1 - σ.length = (m - σ.length) + 1 by omega, List.getElem?_cons_succ]
          exact hw
        · have q := keyS m y w hr
          rw [if_neg (by omega)] at q
          exact q
/-- a list of the def's own is changed -/
theorem Rel.mutOl {i : Nat} {l : List D} (R : Rel K B H F s σ) (h : s[i]? = some (some (.ol l))) : ∃ p vs, σ[i]? = some (some (.ref p)) ∧ H p = some (.lst vs) ∧ RepL K F vs l ∧ F p = none ∧ B p = none ∧
    ∀ vs' l', RepL K F vs' l' → Rel K B (upd H p (.lst vs')) F (s.set i (some (.ol l'))) σ := by
  obtain ⟨len, exB, exF, dis, own, h1, h2⟩ := R
  obtain ⟨v, hv, p, vs, rfl, a, b, c⟩ := h2 i _ h
  refine ⟨p, vs, hv, b, c, (h1 p i a).1, (h1 p i a).2, fun vs' l' r => ⟨by simpa using len, fun x o hx => ?_, fun x o hx => ?_, dis, own, h1, fun j y hj => ?_⟩⟩
  · rw [upd_ne (ne_of_none hx (h1 p i a).2)]; exact exB x o hx
  · rw [upd_ne (ne_of_none hx (h1 p i a).1)]; exact exF x o hx
  · rw [List.getElem?_set] at hj
    by_cases c : i = j
    · subst c
      rw [if_pos rfl] at hj
      by_cases l : i < s.length
      · rw [if_pos l] at hj
        cases hj
        exact ⟨_, hv, p, vs', rfl, a, upd_same, r⟩
      · rw [if_neg l] at hj; cases hj
    · rw [if_neg c] at hj
      obtain ⟨w, hw, hr'⟩ := h2 j y hj
      refine ⟨w, hw, hr'.mono (fun _ q => q) (fun x o hx ho => ?_) (Ex.refl F)⟩
      have hx' : own x = some j := hx
      rw [upd_ne (fun z => by subst z; rw [a] at hx'; exact c (Option.some.inj hx'))]
      exact ho
end
end Mir
namespace Mir
open PySem L2 Evl
abbrev EEs := Err → Hp → Hp → Prop
def Nxt (B F H' F' : Hp) : Prop := Ex F F' ∧ Ex F' H' ∧ Ex B H' ∧ Dis B F'
theorem Nxt.ahead {B F F1 H' F' : Hp} (e : Ex F F1) (h : Nxt B F1 H' F') : Nxt B F H' F' := ⟨e.trans h.1, h.2⟩
/-- what is wished behind a part of the def: raised, or done -/
def Wish {α : Type} (K : PySem.W.Frag) (Ee : EEs) (B F : Hp) (sx : SD) (σ σx : L2.St) (r : Rs (α × SD)) (Q : α → Hp → Hp → Prop) : Prop :=
  Post r (fun e => ∀ H' F', Nxt B F H' F' → Ee e H' F') fun r => ∀ H' F', Ex F F' → r.2.length = σ.length → Rel K B H' F' (r.2 ++ sx) (σ ++ σx) → Q r.1 H' F'
theorem Wish.bind {α β : Type} {K : PySem.W.Frag} {Ee : EEs} {B F : Hp} {sx : SD} {σ σx : L2.St} {r : Rs (α × SD)} {k : α × SD → Rs (β × SD)} {Q : β → Hp → Hp → Prop} (h : Wish K Ee B F sx σ σx (r.bind k) Q) :
    Post r (fun e => ∀ H' F', Nxt B F H' F' → Ee e H' F') fun p => ∀ H' F', Ex F F' → p.2.length = σ.length → Rel K B H' F' (p.2 ++ sx) (σ ++ σx) → Wish K Ee B F' sx σ σx (k p) Q := by
  have h := Post.bind h
  refine Post.mono h (fun _ q => q) fun a ra q H' F' e _ R => ?_
  exact Post.mono q (fun x q H2 F2 n => q H2 F2 (n.ahead e)) fun b rb q H2 F2 e2 => q H2 F2 (e.trans e2)
abbrev Mx (α : Type) := M α
/-- an expression's reading reckons f, data -/
def Snd (K : PySem.W.Frag) (Ee : EEs) (te : TE) (f : M D) : Prop := ∀ (s : SD) (σ : L2.St) (sx : SD) (σx : L2.St) (B H F : Hp), s.length = σ.length → Rel K B H F (s ++ sx) (σ ++ σx) →
  ∀ Q : VK, Wish K Ee B F sx σ σx (f s) (fun d H' F' => ∀ v, Rep K F' v d → Q v H') → te σ H Q
def SndT (K : PySem.W.Frag) (Ee : EEs) (tt : TT) (f : M Bool) : Prop := ∀ (s : SD) (σ : L2.St) (sx : SD) (σx : L2.St) (B H F : Hp), s.length = σ.length → Rel K B H F (s ++ sx) (σ ++ σx) →
  ∀ Q : Bool → Hp → Prop, Wish K Ee B F sx σ σx (f s) (fun b H' F' => Q b H') → tt σ H Q
def SndA (K : PySem.W.Frag) (Ee : EEs) (ta : TA) (f : M (List D)) : Prop := ∀ (s : SD) (σ : L2.St) (sx : SD) (σx : L2.St) (B H F : Hp), s.length = σ.length → Rel K B H F (s ++ sx) (σ ++ σx) →
  ∀ Q : List V → Hp → Prop, Wish K Ee B F sx σ σx (f s) (fun ds H' F' => ∀ vs, RepL K F' vs ds → Q vs H') → ta σ H Q
/-- an expression's reading makes a new list -/
def WishL (K : PySem.W.Frag) (Ee : EEs) (B F : Hp) (sx : SD) (σ σx : L2.St) (r : Rs (List D × SD)) (Q : VK) : Prop :=
  Post r (fun e => ∀ H' F', Nxt B F H' F' → Ee e H' F') fun r => ∀ H' F' v, Ex F F' → r.2.length = σ.length → Rel K B H' F' (r.2 ++ some (.ol r.1) :: sx) (σ ++ some v :: σx) → Q v H'
def SndL (K : PySem.W.Frag) (Ee : EEs) (te : TE) (f : M (List D)) : Prop := ∀ (s : SD) (σ : L2.St) (sx : SD) (σx : L2.St) (B H F : Hp), s.length = σ.length → Rel K B H F (s ++ sx) (σ ++ σx) →
  ∀ Q : VK, WishL K Ee B F sx σ σx (f s) Q → te σ H Q
section
variable {K : PySem.W.Frag} {Ee : EEs} {B H F H' F' : Hp} {s sx s' : SD} {σ σx : L2.St} {te ta tb : TE} {f g : M D}
theorem Rel.lenx (R : Rel K B H F (s ++ sx) (σ ++ σx)) (h : sx.length = σx.length) : s.length = σ.length := by
  have := R.len
  simp at this
  omega
theorem Rel.lens (R : Rel K B H F (s ++ sx) (σ ++ σx)) (h : s.length = σ.length) : sx.length = σx.length := by
  have := R.len
  simp at this
  omega
/-- what has been reckoned -/
theorem Wish.ok {α : Type} {a : α} {Q : α → Hp → Hp → Prop} (h : Wish K Ee B F sx σ σx (.ok (a, s')) Q) (e : Ex F F') (hl : s'.length = σ.length) (R : Rel K B H' F' (s' ++ sx) (σ ++ σx)) : Q a H' F' := h H' F' e hl R
theorem Wish.here {α : Type} {a : α} {Q : α → Hp → Hp → Prop} (h : Wish K Ee B F sx σ σx (.ok (a, s)) Q) (hl : s.length = σ.length) (R : Rel K B H F (s ++ sx) (σ ++ σx)) : Q a H F := h H F (Ex.refl F) hl R
/-- a new list that is frozen is data -/
theorem Snd.ofL {f : M (List D)} (h : SndL K Ee te f) : Snd K Ee te (fun s => (f s).bind fun r => .ok (.list r.1, r.2)) := by
  intro s σ sx σx B H F hl R Q w
  refine h s σ sx σx B H F hl R Q ?_
  have w := Post.bind w
  refine Post.mono w (fun _ q => q) fun r _ q H' F' v e hr R' => ?_
  obtain ⟨F2, w2, e2, hw, rp, R2⟩ := R'.freeze (i := r.2.length) (x := .ol r.1) (by simp) rfl
  have ew : w2 = v := by
    rw [hr] at hw
    simpa using hw.symm
  subst ew
  have R3 : Rel K B H' F2 (r.2 ++ some (.d (.list r.1)) :: sx) (σ ++ some w2 :: σx) := by
    have q := R2
    rw [List.set_append_right _ _ (Nat.le_refl _)] at q
    simpa using q
  exact q H' F2 (e.trans e2) hr (R3.drop1 hr) w2 rp
def mc (d : D) : M D := fun s => .ok (d, s)
theorem snd_c {v : V} {d : D} (h : ∀ F, Rep K F v d) : Snd K Ee (tC v) (mc d) := by
  intro s σ sx σx B H F hl R Q w
  exact w.here hl R v (h F)
/-- a name -/
def mv (i : Nat) : M D := fun s => match s[i]? with
  | some (some (.d x)) => .ok (x, s)
  | some (some x) => match x.fz with
    | some d => .ok (d, s.set i (some (.d d)))
    | none => .bad
  | _ => .bad
theorem snd_var {i : Nat} : Snd K Ee (tVar i) (mv i) := by
  intro s σ sx σx B H F hl R Q w
  unfold mv at w
  cases h : s[i]? with
  | none => rw [h] at w; exact w.elim
  | some o =>
    have hi : i < s.length := (List.getElem?_eq_some_iff.mp h).1
    cases o with
    | none => rw [h] at w; exact w.elim
    | some x =>
      rw [h] at w
      have hs : (s ++ sx)[i]? = some (some x) := by rw [List.getElem?_append_left hi]; exact h
      have done : ∀ d, x.fz = some d → Wish K Ee B F sx σ σx (.ok (d, s.set i (some (.d d)))) (fun d H' F' => ∀ v, Rep K F' v d → Q v H') → tVar i σ H Q := by
        intro d hd w
        obtain ⟨F', v, e, hv, rp, R'⟩ := R.freeze hs hd
        rw [List.getElem?_append_left (by omega)] at hv
        rw [List.set_append_left _ _ hi] at R'
        exact ⟨v, hv, w.ok e (by simpa using hl) R' v rp⟩
      cases x with
      | d x =>
        obtain ⟨v, hv, rp⟩ := R.get hs
        rw [List.getElem?_append_left (by omega)] at hv
        exact ⟨v, hv, w.here hl R v rp⟩
      | ol l => exact done _ rfl w
      | oll l => exact done _ rfl w
      | od l => exact done _ rfl w
      | scr l => exact w.elim
/-- how the heap grows -/
structure Grow (H F H' F' : Hp) : Prop where
  h : Ex H H'
  f : Ex F F'
  fh : Ex F' H'
  new : ∀ a o, F' a = some o → F a = some o ∨ H a = none
theorem Grow.refl (e : Ex F H) : Grow H F H F := ⟨Ex.refl H, Ex.refl F, e, fun _ _ h => .inl h⟩
/-- a new thing that never changes -/
theorem Grow.new1 {p : Addr} {o : HO} (e : Ex F H) (hp : H p = none) : Grow H F (upd H p o) (upd F p o) := by
  refine ⟨Ex.new hp, Ex.new (fresh_back e hp), fun a u h => ?_, fun a u h => ?_⟩
  · by_cases c : a = p
    · subst c
      rw [upd_same] at h ⊢
      exact h
    · rw [upd_ne c] at h ⊢
      exact e a u h
  · by_cases c : a = p
    · subst c; exact .inr hp
    · rw [upd_ne c] at h
      exact .inl h
theorem Rel.grown (R : Rel K B H F s σ) (g : Grow H F H' F') : Rel K B H' F' s σ := R.grow g.h g.f g.fh g.new
/-- an operation of two places -/
def OpS (K : PySem.W.Frag) (r : R2) (op : D → D → Option D) : Prop := ∀ (x y : V) (a b d : D) (H F : Hp), Ex F H → Rep K F x a → Rep K F y b → op a b = some d →
  ∀ Q : VK, (∀ v H' F', Grow H F H' F' → Rep K F' v d → Q v H') → r x y H Q
def lift {α : Type} (o : Option α) (s : SD) : Rs (α × SD) := match o with
  | some d => .ok (d, s)
  | none => .bad
def mop (op : D → D → Option D) (f g : M D) : M D := fun s => (f s).bind fun r1 => (g r1.2).bind fun r2 => lift (op r1.1 r2.1) r2.2
theorem snd_op {r : R2} {op : D → D → Option D} (ha : Snd K Ee ta f) (hb : Snd K Ee tb g) (hr : OpS K r op) : Snd K Ee (tOp r ta tb) (mop op f g) := by
  intro s σ sx σx B H F hl R Q w
  refine ha s σ sx σx B H F hl R _ ?_
  refine Post.mono w.bind (fun _ q => q) fun r1 _ q H1 F1 e1 l1 R1 v1 p1 => ?_
  have q := q H1 F1 e1 l1 R1
  refine hb _ σ sx σx B H1 F1 l1 R1 _ ?_
  refine Post.mono q.bind (fun _ q => q) fun r2 h2 q H2 F2 e2 l2 R2 v2 p2 => ?_
  have q := q H2 F2 e2 l2 R2
  cases ho : op r1.1 r2.1 with
  | none => rw [ho] at q; exact q.elim
  | some d =>
    rw [ho] at q
    refine hr v1 v2 r1.1 r2.1 d H2 F2 R2.exF (p1.mono e2) p2 ho Q fun v H3 F3 g r => ?_
    exact q.ok g.f l2 (R2.grown g) v r
/-- arguments -/
theorem snda_nil : SndA K Ee tNil (fun s => .ok ([], s)) := by
  intro s σ sx σx B H F hl R Q w
  exact w.here hl R [] .nil
def mcons (f : M D) (g : M (List D)) : M (List D) := fun s => (f s).bind fun r1 => (g r1.2).bind fun r2 => .ok (r1.1 :: r2.1, r2.2)
theorem snda_cons {tr : TA} {g : M (List D)} (ha : Snd K Ee ta f) (hb : SndA K Ee tr g) : SndA K Ee (tCons ta tr) (mcons f g) := by
  intro s σ sx σx B H F hl R Q w
  refine ha s σ sx σx B H F hl R _ ?_
  refine Post.mono w.bind (fun _ q => q) fun r1 _ q H1 F1 e1 l1 R1 v1 p1 => ?_
  have q := q H1 F1 e1 l1 R1
  refine hb _ σ sx σx B H1 F1 l1 R1 _ ?_
  refine Post.mono q.bind (fun _ q => q) fun r2 h2 q H2 F2 e2 l2 R2 v2 p2 => ?_
  have q := q H2 F2 e2 l2 R2
  exact q.here l2 R2 _ (.cons (p1.mono e2) p2)
/-- a built-in by its arguments -/
def CallS (K : PySem.W.Frag) (r : List V → Hp → VK → Prop) (op : List D → Option D) : Prop := ∀ (vs : List V) (ds : List D) (d : D) (H F : Hp), Ex F H → RepL K F vs ds → op ds = some d →
  ∀ Q : VK, (∀ v H' F', Grow H F H' F' → Rep K F' v d → Q v H') → r vs H Q
def mcall (op : List D → Option D) (f : M (List D)) : M D := fun s => (f s).bind fun r => lift (op r.1) r.2
theorem snd_callB {r : List V → Hp → VK → Prop} {tr : TA} {op : List D → Option D} {f : M (List D)} (ha : SndA K Ee tr f) (hr : CallS K r op) : Snd K Ee (tCB r tr) (mcall op f) := by
  intro s σ sx σx B H F hl R Q w
  refine ha s σ sx σx B H F hl R _ ?_
  refine Post.mono w.bind (fun _ q => q) fun r1 _ q H1 F1 e1 l1 R1 v1 p1 => ?_
  have q := q H1 F1 e1 l1 R1
  cases ho : op r1.1 with
  | none => rw [ho] at q; exact q.elim
  | some d =>
    rw [ho] at q
    exact hr v1 r1.1 d H1 F1 R1.exF p1 ho Q fun v H3 F3 g r => q.ok g.f l1 (R1.grown g) v r
/-- a built-in that makes a new list -/
def CallL (K : PySem.W.Frag) (r : List V → Hp → VK → Prop) (op : List D → Option (List D)) : Prop := ∀ (vs : List V) (ds l : List D) (H F : Hp), Ex F H → RepL K F vs ds → op ds = some l →
  ∀ Q : VK, (∀ p ws, H p = none → RepL K F ws l → Q (.ref p) (upd H p (.lst ws))) → r vs H Q
def mcallL (op : List D → Option (List D)) (f : M (List D)) : M (List D) := fun s => (f s).bind fun r => lift (op r.1) r.2
theorem sndl_callB {r : List V → Hp → VK → Prop} {tr : TA} {op : List D → Option (List D)} {f : M (List D)} (ha : SndA K Ee tr f) (hr : CallL K r op) : SndL K Ee (tCB r tr) (mcallL op f) := by
  intro s σ sx σx B H F hl R Q w
  refine ha s σ sx σx B H F hl R _ ?_
  have w := Post.bind w
  refine Post.mono w (fun _ q => q) fun r1 h1 q H1 F1 e1 l1 R1 v1 p1 => ?_
  cases ho : op r1.1 with
  | none => rw [ho] at q; exact q.elim
  | some l =>
    rw [ho] at q
    exact hr v1 r1.1 l H1 F1 R1.exF p1 ho Q fun p ws hp r => q _ F1 _ e1 l1 (R1.fresh l1 hp r)
/-- a list display -/
theorem sndl_lst {tr : TA} {f : M (List D)} (ha : SndA K Ee tr f) : SndL K Ee (tLst tr) (mcallL (fun ds => if ds.length ≤ 100000 then some ds else none) f) := by
  intro s σ sx σx B H F hl R Q w
  refine ha s σ sx σx B H F hl R _ ?_
  have w := Post.bind w
  refine Post.mono w (fun _ q => q) fun r1 h1 q H1 F1 e1 l1 R1 v1 p1 => ?_
  have q : Post (lift (if r1.1.length ≤ 100000 then some r1.1 else none) r1.2) _ _ := q
  by_cases c : r1.1.length ≤ 100000
  · rw [if_pos c] at q
    exact ⟨by rw [p1.length]; exact sz_of c, fun p hp => q _ F1 _ e1 l1 (R1.fresh l1 hp p1)⟩
  · rw [if_neg c] at q
    exact q.elim
/-- a tuple display -/
theorem snd_tup {tr : TA} {f : M (List D)} (ha : SndA K Ee tr f) : Snd K Ee (tTup tr) (mcall (fun ds => if ds.length ≤ 100000 then some (PyData.tuple ds) else none) f) := by
  intro s σ sx σx B H F hl R Q w
  refine ha s σ sx σx B H F hl R _ ?_
  refine Post.mono w.bind (fun _ q => q) fun r1 _ q H1 F1 e1 l1 R1 v1 p1 => ?_
  have q := q H1 F1 e1 l1 R1
  have q : Wish K Ee B F1 sx σ σx (lift (if r1.1.length ≤ 100000 then some (PyData.tuple r1.1) else none) r1.2) _ := q
  by_cases c : r1.1.length ≤ 100000
  · rw [if_pos c] at q
    refine ⟨by rw [p1.length]; exact sz_of c, fun p hp => ?_⟩
    have g : Grow H1 F1 (upd H1 p (.tup v1)) (upd F1 p (.tup v1)) := Grow.new1 R1.exF hp
    exact q.ok g.f l1 (R1.grown g) _ (.tup (.inl (.inl upd_same)) (p1.mono g.f))
  · rw [if_neg c] at q
    exact q.elim
end
end Mir
namespace Mir
open PySem L2 Evl
/-! ### values in flight -/
def WishV (K : PySem.W.Frag) (Ee : EEs) (B F : Hp) (sx : SD) (σ σx : L2.St) (r : Rs (SV × SD)) (Q : VK) : Prop :=
  Post r (fun e => ∀ H' F', Nxt B F H' F' → Ee e H' F') fun r => ∀ H' F' v, Ex F F' → r.2.length = σ.length → Rel K B H' F' (r.2 ++ some r.1 :: sx) (σ ++ some v :: σx) → Q v H'
def SndV (K : PySem.W.Frag) (Ee : EEs) (te : TE) (f : M SV) : Prop := ∀ (s : SD) (σ : L2.St) (sx : SD) (σx : L2.St) (B H F : Hp), s.length = σ.length → Rel K B H F (s ++ sx) (σ ++ σx) →
  ∀ Q : VK, WishV K Ee B F sx σ σx (f s) Q → te σ H Q
/-! ### statements -/
inductive Fl where
  | nx | rt (d : D) | bk | ct
def goE (K : PySem.W.Frag) (Dn : Ends) (fl : Fl) (σ : L2.St) (H F : Hp) : Prop := match fl with
  | .nx => Dn.nx σ H
  | .rt d => ∀ v, Rep K F v d → Dn.rt v H
  | .bk => Dn.bk σ H
  | .ct => Dn.ct σ H
def Keep (k : Nat) (σ σ' : L2.St) : Prop := σ'.length = σ.length ∧ ∀ i, i < k → σ'[i]? = σ[i]?
theorem Keep.refl (k : Nat) (σ : L2.St) : Keep k σ σ := ⟨rfl, fun _ _ => rfl⟩
theorem Keep.trans {k : Nat} {σ σ1 σ2 : L2.St} (a : Keep k σ σ1) (b : Keep k σ1 σ2) : Keep k σ σ2 := ⟨b.1.trans a.1, fun i h => (b.2 i h).trans (a.2 i h)⟩
theorem Keep.set {k i : Nat} {σ : L2.St} {v : Option V} (h : k ≤ i) : Keep k σ (σ.set i v) := ⟨by simp, fun j hj => List.getElem?_set_ne (by omega)⟩
def WishS (K : PySem.W.Frag) (Ee : EEs) (B F : Hp) (k : Nat) (σ : L2.St) (r : Rs (Fl × SD)) (Dn : Ends) : Prop :=
  Post r (fun e => ∀ H' F', Nxt B F H' F' → Ee e H' F') fun r => ∀ σ' H' F', Ex F F' → Keep k σ σ' → Rel K B H' F' r.2 σ' → goE K Dn r.1 σ' H' F'
def SndS (K : PySem.W.Frag) (Ee : EEs) (k : Nat) (ts : TS) (f : SD → Rs (Fl × SD)) : Prop := ∀ (s : SD) (σ : L2.St) (B H F : Hp), Rel K B H F s σ → ∀ Dn : Ends, WishS K Ee B F k σ (f s) Dn → ts Dn σ H
def PostO {α : Type} (r : Option α) (Q : α → Prop) : Prop := match r with
  | some a => Q a
  | none => False
theorem PostO.bind {α β : Type} {r : Option α} {k : α → Option β} {Q : β → Prop} (h : PostO (r.bind k) Q) : PostO r fun a => PostO (k a) Q := by
  cases r <;> exact h
theorem PostO.mono {α : Type} {r : Option α} {Q Q' : α → Prop} (h : PostO r Q) (hq : ∀ a, r = some a → Q a → Q' a) : PostO r Q' := by
  cases r with
  | some a => exact hq a rfl h
  | none => exact h
/-- a target: what is stored -/
def SndG (K : PySem.W.Frag) (Ee : EEs) (idx : List Nat) (g : TG) (f : D → SD → Option SD) : Prop := ∀ (d : D) (v : V) (s : SD) (σ : L2.St) (sx : SD) (σx : L2.St) (B H F : Hp), s.length = σ.length → Rel K B H F (s ++ sx) (σ ++ σx) → Rep K F v d →
  ∀ Q : L2.St → Hp → Prop, PostO (f d s) (fun s' => ∀ σ' H' F', Ex F F' → s'.length = σ'.length → σ'.length = σ.length → (∀ j, ¬ j ∈ idx → σ'[j]? = σ[j]?) → Rel K B H' F' (s' ++ sx) (σ' ++ σx) → Q σ' H') → g v σ H Q
def SndGs (K : PySem.W.Frag) (Ee : EEs) (idx : List Nat) (g : TGs) (f : List D → SD → Option SD) : Prop := ∀ (ds : List D) (vs : List V) (s : SD) (σ : L2.St) (sx : SD) (σx : L2.St) (B H F : Hp), s.length = σ.length → Rel K B H F (s ++ sx) (σ ++ σx) → RepL K F vs ds →
  ∀ Q : L2.St → Hp → Prop, PostO (f ds s) (fun s' => ∀ σ' H' F', Ex F F' → s'.length = σ'.length → σ'.length = σ.length → (∀ j, ¬ j ∈ idx → σ'[j]? = σ[j]?) → Rel K B H' F' (s' ++ sx) (σ' ++ σx) → Q σ' H') → g vs σ H Q
section
variable {K : PySem.W.Frag} {Ee : EEs} {B H F H' F' : Hp} {s sx s' : SD} {σ σx : L2.St} {te ta tb : TE} {k : Nat} {tt tu : TT} {ts tr : TS} {i j : Nat}
theorem Rel.push {v : V} {d : D} (R : Rel K B H F (s ++ sx) (σ ++ σx)) (hl : s.length = σ.length) (h : Rep K F v d) : Rel K B H F (s ++ some (.d d) :: sx) (σ ++ some v :: σx) := by
  obtain ⟨len, exB, exF, dis, own, h1, h2⟩ := R
  refine ⟨by simp at len ⊢; omega, exB, exF, dis, fun a => match own a with | none => none | some j => if j < s.length then some j else some (j + 1), fun a k ha => ?_, fun k y hk => ?_⟩
  · have ha : (match own a with | none => none | some j => if j < s.length then some j else some (j + 1)) = some k := ha
    cases e : own a with
    | none => rw [e] at ha; cases ha
    | some j => exact h1 a j e
  · by_cases kl : k < s.length
    · rw [List.getElem?_append_left kl] at hk
      obtain ⟨w, hw, hr⟩ := h2 k y (by rw [List.getElem?_append_left kl]; exact hk)
      refine ⟨w, by rw [List.getElem?_append_left (by omega)] at hw ⊢; exact hw, hr.map fun a ha => ?_⟩
      show (match own a with | none => none | some j => if j < s.length then some j else some (j + 1)) = some k
      rw [ha]
      show (if k < s.length then some k else some (k + 1)) = some k
      rw [if_pos kl]
    · by_cases kn : k = s.length
      · subst kn
        rw [List.getElem?_append_right (Nat.le_refl _)] at hk
        simp at hk
        subst hk
        exact ⟨v, by rw [List.getElem?_append_right (by omega)]; simp [hl], h⟩
      · obtain ⟨m, rfl⟩ : ∃ m, k = m + 1 := ⟨k - 1, by omega⟩
        rw [List.getElem?_append_right (by omega), show m + 1 - s.length = (m - s.length) + 1 by omega, List.getElem?_cons_succ] at hk
        obtain ⟨w, hw, hr⟩ := h2 m y (by rw [List.getElem?_append_right (by omega)]; exact hk)
        refine ⟨w, ?_, hr.map fun a ha => ?_⟩
        · rw [List.getElem?_append_right (by omega)] at hw
          rw [List.getElem?_append_right (by omega), show m + 1 - σ.length = (m - σ.length) + 1 by omega, List.getElem?_cons_succ]
          exact hw
        · show (match own a with | none => none | some j => if j < s.length then some j else some (j + 1)) = some (m + 1)
          rw [ha]
          show (if m < s.length then some m else some (m + 1)) = some (m + 1)
          rw [if_neg (by omega)]
def mD (f : M D) : M SV := fun s => (f s).bind fun r => .ok (.d r.1, r.2)
def mL (f : M (List D)) : M SV := fun s => (f s).bind fun r => .ok (.ol r.1, r.2)
theorem SndV.ofD {f : M D} (h : Snd K Ee te f) : SndV K Ee te (mD f) := by
  intro s σ sx σx B H F hl R Q w
  refine h s σ sx σx B H F hl R Q ?_
  have w := Post.bind w
  exact Post.mono w (fun _ q => q) fun r _ q H' F' e l R' v p => q H' F' v e l (R'.push l p)
theorem SndV.ofL {f : M (List D)} (h : SndL K Ee te f) : SndV K Ee te (mL f) := by
  intro s σ sx σx B H F hl R Q w
  refine h s σ sx σx B H F hl R Q ?_
  have w := Post.bind w
  exact Post.mono w (fun _ q => q) fun r _ q => q
/-! tests -/
def mtest (f : M D) : M Bool := fun s => (f s).bind fun r => match r.1 with
  | .bool b => .ok (b, r.2)
  | _ => .bad
theorem sndt_test {f : M D} (h : Snd K Ee te f) : SndT K Ee (tTest te) (mtest f) := by
  intro s σ sx σx B H F hl R Q w
  refine h s σ sx σx B H F hl R _ ?_
  refine Post.mono w.bind (fun _ q => q) fun r _ q H1 F1 e1 l1 R1 v p => ?_
  have q := q H1 F1 e1 l1 R1
  obtain ⟨d, s1⟩ := r
  cases d with
  | bool b =>
    cases p
    exact ⟨b, rfl, q.here l1 R1⟩
  | none => exact q.elim
  | int i => exact q.elim
  | str i => exact q.elim
  | list i => exact q.elim
  | tuple i => exact q.elim
  | dict i => exact q.elim
theorem sndt_B {f : M D} (h : Snd K Ee te f) : SndT K Ee (tB te) (mtest f) := sndt_test h
def mnot (f : M Bool) : M Bool := fun s => (f s).bind fun r => .ok (!r.1, r.2)
theorem sndt_not {f : M Bool} (h : SndT K Ee tt f) : SndT K Ee (tNot tt) (mnot f) := by
  intro s σ sx σx B H F hl R Q w
  refine h s σ sx σx B H F hl R _ ?_
  exact Post.mono w.bind (fun _ q => q) fun r _ q H1 F1 e1 l1 R1 => (q H1 F1 e1 l1 R1).here l1 R1
def mand (f g : M Bool) : M Bool := fun s => (f s).bind fun r => if r.1 then g r.2 else .ok (false, r.2)
theorem sndt_and {f g : M Bool} (h : SndT K Ee tt f) (h2 : SndT K Ee tu g) : SndT K Ee (tAnd tt tu) (mand f g) := by
  intro s σ sx σx B H F hl R Q w
  refine h s σ sx σx B H F hl R _ ?_
  refine Post.mono w.bind (fun _ q => q) fun r _ q H1 F1 e1 l1 R1 => ?_
  have q := q H1 F1 e1 l1 R1
  obtain ⟨b, s1⟩ := r
  cases b with
  | true => exact h2 s1 σ sx σx B H1 F1 l1 R1 Q q
  | false => exact q.here l1 R1
def mor (f g : M Bool) : M Bool := fun s => (f s).bind fun r => if r.1 then .ok (true, r.2) else g r.2
theorem sndt_or {f g : M Bool} (h : SndT K Ee tt f) (h2 : SndT K Ee tu g) : SndT K Ee (tOr tt tu) (mor f g) := by
  intro s σ sx σx B H F hl R Q w
  refine h s σ sx σx B H F hl R _ ?_
  refine Post.mono w.bind (fun _ q => q) fun r _ q H1 F1 e1 l1 R1 => ?_
  have q := q H1 F1 e1 l1 R1
  obtain ⟨b, s1⟩ := r
  cases b with
  | true => exact q.here l1 R1
  | false => exact h2 s1 σ sx σx B H1 F1 l1 R1 Q q
/-- a and b, a or b, not a as values -/
def mandV (f g : M D) : M D := fun s => (f s).bind fun r => match r.1 with
  | .bool b => if b then g r.2 else .ok (.bool false, r.2)
  | _ => .bad
def morV (f g : M D) : M D := fun s => (f s).bind fun r => match r.1 with
  | .bool b => if b then .ok (.bool true, r.2) else g r.2
  | _ => .bad
def mnotV (f : M D) : M D := fun s => (f s).bind fun r => match r.1 with
  | .bool b => .ok (.bool (!b), r.2)
  | _ => .bad
theorem snd_and {f g : M D} (h : Snd K Ee ta f) (h2 : Snd K Ee tb g) : Snd K Ee (tAndV ta tb) (mandV f g) := by
  intro s σ sx σx B H F hl R Q w
  refine h s σ sx σx B H F hl R _ ?_
  refine Post.mono w.bind (fun _ q => q) fun r _ q H1 F1 e1 l1 R1 v p => ?_
  have q := q H1 F1 e1 l1 R1
  obtain ⟨d, s1⟩ := r
  cases d with
  | bool b =>
    cases p
    refine ⟨b, rfl, ?_⟩
    cases b with
    | true => exact h2 s1 σ sx σx B H1 F1 l1 R1 Q q
    | false => exact q.here l1 R1 _ (.bl false)
  | none => exact q.elim
  | int i => exact q.elim
  | str i => exact q.elim
  | list i => exact q.elim
  | tuple i => exact q.elim
  | dict i => exact q.elim
theorem snd_or {f g : M D} (h : Snd K Ee ta f) (h2 : Snd K Ee tb g) : Snd K Ee (tOrV ta tb) (morV f g) := by
  intro s σ sx σx B H F hl R Q w
  refine h s σ sx σx B H F hl R _ ?_
  refine Post.mono w.bind (fun _ q => q) fun r _ q H1 F1 e1 l1 R1 v p => ?_
  have q := q H1 F1 e1 l1 R1
  obtain ⟨d, s1⟩ := r
  cases d with
  | bool b =>
    cases p
    refine ⟨b, rfl, ?_⟩
    cases b with
    | true => exact q.here l1 R1 _ (.bl true)
    | false => exact h2 s1 σ sx σx B H1 F1 l1 R1 Q q
  | none => exact q.elim
  | int i => exact q.elim
  | str i => exact q.elim
  | list i => exact q.elim
  | tuple i => exact q.elim
  | dict i => exact q.elim
theorem snd_not {f : M D} (h : Snd K Ee ta f) : Snd K Ee (tNotV ta) (mnotV f) := by
  intro s σ sx σx B H F hl R Q w
  refine h s σ sx σx B H F hl R _ ?_
  refine Post.mono w.bind (fun _ q => q) fun r _ q H1 F1 e1 l1 R1 v p => ?_
  have q := q H1 F1 e1 l1 R1
  obtain ⟨d, s1⟩ := r
  cases d with
  | bool b =>
    cases p
    exact ⟨b, rfl, q.here l1 R1 _ (.bl _)⟩
  | none => exact q.elim
  | int i => exact q.elim
  | str i => exact q.elim
  | list i => exact q.elim
  | tuple i => exact q.elim
  | dict i => exact q.elim
/-- a if t else b -/
def mife {α : Type} (t : M Bool) (f g : M α) : M α := fun s => (t s).bind fun r => if r.1 then f r.2 else g r.2
theorem snd_if {t : M Bool} {f g : M D} (h : SndT K Ee tt t) (h1 : Snd K Ee ta f) (h2 : Snd K Ee tb g) : Snd K Ee (tIf tt ta tb) (mife t f g) := by
  intro s σ sx σx B H F hl R Q w
  refine h s σ sx σx B H F hl R _ ?_
  refine Post.mono w.bind (fun _ q => q) fun r _ q H1 F1 e1 l1 R1 => ?_
  have q := q H1 F1 e1 l1 R1
  obtain ⟨b, s1⟩ := r
  cases b with
  | true => exact h1 s1 σ sx σx B H1 F1 l1 R1 Q q
  | false => exact h2 s1 σ sx σx B H1 F1 l1 R1 Q q
theorem WishL.of_bind {α : Type} {r : Rs (α × SD)} {kk : α × SD → Rs (List D × SD)} {Q : VK} (h : WishL K Ee B F sx σ σx (r.bind kk) Q) :
    Post r (fun e => ∀ H' F', Nxt B F H' F' → Ee e H' F') fun p => ∀ H' F', Ex F F' → p.2.length = σ.length → Rel K B H' F' (p.2 ++ sx) (σ ++ σx) → WishL K Ee B F' sx σ σx (kk p) Q := by
  have h := Post.bind h
  refine Post.mono h (fun _ q => q) fun a ra q H' F' e _ R => ?_
  exact Post.mono q (fun x q H2 F2 n => q H2 F2 (n.ahead e)) fun b rb q H2 F2 v e2 => q H2 F2 v (e.trans e2)
theorem WishV.of_bind {α : Type} {r : Rs (α × SD)} {kk : α × SD → Rs (SV × SD)} {Q : VK} (h : WishV K Ee B F sx σ σx (r.bind kk) Q) :
    Post r (fun e => ∀ H' F', Nxt B F H' F' → Ee e H' F') fun p => ∀ H' F', Ex F F' → p.2.length = σ.length → Rel K B H' F' (p.2 ++ sx) (σ ++ σx) → WishV K Ee B F' sx σ σx (kk p) Q := by
  have h := Post.bind h
  refine Post.mono h (fun _ q => q) fun a ra q H' F' e _ R => ?_
  exact Post.mono q (fun x q H2 F2 n => q H2 F2 (n.ahead e)) fun b rb q H2 F2 v e2 => q H2 F2 v (e.trans e2)
theorem WishS.of_bind {α : Type} {r : Rs (α × SD)} {kk : α × SD → Rs (Fl × SD)} {Dn : Ends} (h : WishS K Ee B F k σ (r.bind kk) Dn) :
    Post r (fun e => ∀ (H' F' : Hp), Nxt B F H' F' → Ee e H' F') fun p => ∀ (H' F' : Hp), Ex F F' → WishS K Ee B F' k σ (kk p) Dn := by
  have h := Post.bind h
  refine Post.mono h (fun _ q => q) fun a ra q H' F' e => ?_
  exact Post.mono q (fun x q H2 F2 n => q H2 F2 (n.ahead e)) fun b rb q σ2 H2 F2 e2 => q σ2 H2 F2 (e.trans e2)
theorem sndl_if {t : M Bool} {f g : M (List D)} (h : SndT K Ee tt t) (h1 : SndL K Ee ta f) (h2 : SndL K Ee tb g) : SndL K Ee (tIf tt ta tb) (mife t f g) := by
  intro s σ sx σx B H F hl R Q w
  refine h s σ sx σx B H F hl R _ ?_
  refine Post.mono w.of_bind (fun _ q => q) fun r _ q H1 F1 e1 l1 R1 => ?_
  have q := q H1 F1 e1 l1 R1
  obtain ⟨b, s1⟩ := r
  cases b with
  | true => exact h1 s1 σ sx σx B H1 F1 l1 R1 Q q
  | false => exact h2 s1 σ sx σx B H1 F1 l1 R1 Q q
/-! statements -/
theorem Rel.nil (R : Rel K B H F s σ) : Rel K B H F (s ++ []) (σ ++ []) := by rw [List.append_nil, List.append_nil]; exact R
theorem Rel.unnil (R : Rel K B H F (s ++ []) (σ ++ [])) : Rel K B H F s σ := by rw [List.append_nil, List.append_nil] at R; exact R
def sseq (f g : SD → Rs (Fl × SD)) : SD → Rs (Fl × SD) := fun s => (f s).bind fun r => match r.1 with
  | .nx => g r.2
  | fl => .ok (fl, r.2)
theorem snds_seq {f g : SD → Rs (Fl × SD)} (h1 : SndS K Ee k ts f) (h2 : SndS K Ee k tr g) : SndS K Ee k (tSeq ts tr) (sseq f g) := by
  intro s σ B H F R Dn w
  refine h1 s σ B H F R _ ?_
  refine Post.mono (Post.bind w) (fun _ q => q) fun r _ q σ1 H1 F1 e1 kp R1 => ?_
  obtain ⟨fl, s1⟩ := r
  cases fl with
  | nx =>
    refine h2 s1 σ1 B H1 F1 R1 Dn ?_
    exact Post.mono q (fun _ q H2 F2 n => q H2 F2 (n.ahead e1)) fun b _ q σ2 H2 F2 e2 kp2 R2 => q σ2 H2 F2 (e1.trans e2) (kp.trans kp2) R2
  | rt d => exact q σ1 H1 F1 e1 kp R1
  | bk => exact q σ1 H1 F1 e1 kp R1
  | ct => exact q σ1 H1 F1 e1 kp R1
def sfl (fl : Fl) : SD → Rs (Fl × SD) := fun s => .ok (fl, s)
theorem snds_next : SndS K Ee k tNext (sfl .nx) := fun s σ B H F R Dn w => w σ H F (Ex.refl F) (Keep.refl k σ) R
theorem snds_break : SndS K Ee k tBreak (sfl .bk) := fun s σ B H F R Dn w => w σ H F (Ex.refl F) (Keep.refl k σ) R
theorem snds_cont : SndS K Ee k tCont (sfl .ct) := fun s σ B H F R Dn w => w σ H F (Ex.refl F) (Keep.refl k σ) R
theorem snds_never : SndS K Ee k tNever (fun _ => .bad) := fun s σ B H F R Dn w => w.elim
def sret (f : M D) : SD → Rs (Fl × SD) := fun s => (f s).bind fun r => .ok (.rt r.1, r.2)
theorem snds_ret {f : M D} (h : Snd K Ee te f) : SndS K Ee k (tRet te) (sret f) := by
  intro s σ B H F R Dn w
  refine h s σ [] [] B H F R.len R.nil _ ?_
  refine Post.mono (Post.bind w) (fun _ q => q) fun r _ q H1 F1 e1 l1 R1 v p => ?_
  exact q σ H1 F1 e1 (Keep.refl k σ) R1.unnil v p
theorem snds_retN : SndS K Ee k tRetN (sfl (.rt .none)) := fun s σ B H F R Dn w => w σ H F (Ex.refl F) (Keep.refl k σ) R .non .non
def sdrop (f : M D) : SD → Rs (Fl × SD) := fun s => (f s).bind fun r => .ok (.nx, r.2)
theorem snds_drop {f : M D} (h : Snd K Ee te f) : SndS K Ee k (tDrop te) (sdrop f) := by
  intro s σ B H F R Dn w
  refine h s σ [] [] B H F R.len R.nil _ ?_
  refine Post.mono (Post.bind w) (fun _ q => q) fun r _ q H1 F1 e1 l1 R1 v p => ?_
  exact q σ H1 F1 e1 (Keep.refl k σ) R1.unnil
def sif (t : M Bool) (f g : SD → Rs (Fl × SD)) : SD → Rs (Fl × SD) := fun s => (t s).bind fun r => if r.1 then f r.2 else g r.2
theorem snds_if {t : M Bool} {f g : SD → Rs (Fl × SD)} (h : SndT K Ee tt t) (h1 : SndS K Ee k ts f) (h2 : SndS K Ee k tr g) : SndS K Ee k (tIfS tt ts tr) (sif t f g) := by
  intro s σ B H F R Dn w
  refine h s σ [] [] B H F R.len R.nil _ ?_
  refine Post.mono (WishS.of_bind w) (fun _ q => q) fun r _ q H1 F1 e1 l1 R1 => ?_
  have q := q H1 F1 e1
  obtain ⟨b, s1⟩ := r
  cases b with
  | true => exact h1 s1 σ B H1 F1 R1.unnil Dn q
  | false => exact h2 s1 σ B H1 F1 R1.unnil Dn q
/-- x = e -/
def sset (i : Nat) (f : M SV) : SD → Rs (Fl × SD) := fun s => (f s).bind fun r => if i < r.2.length then .ok (.nx, r.2.set i (some r.1)) else .bad
theorem snds_set {f : M SV} (h : SndV K Ee te f) (hk : k ≤ i) : SndS K Ee k (tAsg te (gName i)) (sset i f) := by
  intro s σ B H F R Dn w
  refine h s σ [] [] B H F R.len R.nil _ ?_
  refine Post.mono (Post.bind w) (fun _ q => q) fun r _ q H1 F1 v e1 l1 R1 => ?_
  by_cases c : i < r.2.length
  · have q : WishS K Ee B F k σ (if i < r.2.length then .ok (.nx, r.2.set i (some r.1)) else .bad) Dn := q
    rw [if_pos c] at q
    exact q (σ.set i (some v)) H1 F1 e1 (Keep.set hk) (R1.move l1 c).unnil
  · have q : WishS K Ee B F k σ (if i < r.2.length then .ok (.nx, r.2.set i (some r.1)) else .bad) Dn := q
    rw [if_neg c] at q
    exact q.elim
/-- x, y = e1, e2 -/
def spar (i j : Nat) (f g : M SV) : SD → Rs (Fl × SD) := fun s => (f s).bind fun r1 => (g r1.2).bind fun r2 => if i < r2.2.length ∧ j < r2.2.length then .ok (.nx, (r2.2.set j (some r2.1)).set i (some r1.1)) else .bad
theorem snds_par {f g : M SV} (h1 : SndV K Ee ta f) (h2 : SndV K Ee tb g) (hi : k ≤ i) (hj : k ≤ j) (hij : i ≠ j) : SndS K Ee k (tPar i j (tCons ta (tCons tb tNil))) (spar i j f g) := by
  intro s σ B H F R Dn w
  refine h1 s σ [] [] B H F R.len R.nil _ ?_
  refine Post.mono (Post.bind w) (fun _ q => q) fun r1 _ q H1 F1 v1 e1 l1 R1 => ?_
  refine h2 r1.2 σ _ _ B H1 F1 l1 R1 _ ?_
  refine Post.mono (Post.bind q) (fun _ q H2 F2 n => q H2 F2 (n.ahead e1)) fun r2 _ q H2 F2 v2 e2 l2 R2 => ?_
  have q : Post (if i < r2.2.length ∧ j < r2.2.length then Rs.ok (Fl.nx, (r2.2.set j (some r2.1)).set i (some r1.1)) else .bad) _ _ := q
  by_cases c : i < r2.2.length ∧ j < r2.2.length
  · rw [if_pos c] at q
    refine ⟨v1, v2, rfl, ?_⟩
    have R3 := (R2.move l2 c.2).move (i := i) (by simpa using l2) (by simpa using c.1)
    have q := q ((σ.set j (some v2)).set i (some v1)) H2 F2 (e1.trans e2) ((Keep.set hj).trans (Keep.set hi)) R3.unnil
    rw [List.set_comm _ _ hij]
    exact q
  · rw [if_neg c] at q
    exact q.elim
/-- x, y, z = e1, e2, e3 -/
def spar3 (i j l : Nat) (f g h : M SV) : SD → Rs (Fl × SD) := fun s => (f s).bind fun r1 => (g r1.2).bind fun r2 => (h r2.2).bind fun r3 =>
  if i < r3.2.length ∧ j < r3.2.length ∧ l < r3.2.length then .ok (.nx, ((r3.2.set l (some r3.1)).set j (some r2.1)).set i (some r1.1)) else .bad
theorem snds_par3 {tc : TE} {l : Nat} {f g h : M SV} (h1 : SndV K Ee ta f) (h2 : SndV K Ee tb g) (h3 : SndV K Ee tc h) (hi : k ≤ i) (hj : k ≤ j) (hl : k ≤ l) (hij : i ≠ j) (hil : i ≠ l) (hjl : j ≠ l) :
    SndS K Ee k (tPar3 i j l (tCons ta (tCons tb (tCons tc tNil)))) (spar3 i j l f g h) := by
  intro s σ B H F R Dn w
  refine h1 s σ [] [] B H F R.len R.nil _ ?_
  refine Post.mono (Post.bind w) (fun _ q => q) fun r1 _ q H1 F1 v1 e1 l1 R1 => ?_
  refine h2 r1.2 σ _ _ B H1 F1 l1 R1 _ ?_
  refine Post.mono (Post.bind q) (fun _ q H2 F2 n => q H2 F2 (n.ahead e1)) fun r2 _ q H2 F2 v2 e2 l2 R2 => ?_
  refine h3 r2.2 σ _ _ B H2 F2 l2 R2 _ ?_
  refine Post.mono (Post.bind q) (fun _ q H3 F3 n => q H3 F3 ((n.ahead e2).ahead e1)) fun r3 _ q H3 F3 v3 e3 l3 R3 => ?_
  have q : Post (if i < r3.2.length ∧ j < r3.2.length ∧ l < r3.2.length then Rs.ok (Fl.nx, ((r3.2.set l (some r3.1)).set j (some r2.1)).set i (some r1.1)) else .bad) _ _ := q
  by_cases c : i < r3.2.length ∧ j < r3.2.length ∧ l < r3.2.length
  · rw [if_pos c] at q
    refine ⟨v1, v2, v3, rfl, ?_⟩
    have R4 := ((R3.move l3 c.2.2).move (i := j) (by simpa using l3) (by simpa using c.2.1)).move (i := i) (by simpa using l3) (by simpa using c.1)
    have q := q (((σ.set l (some v3)).set j (some v2)).set i (some v1)) H3 F3 ((e1.trans e2).trans e3) (((Keep.set hl).trans (Keep.set hj)).trans (Keep.set hi)) R4.unnil
    have e : ((σ.set i (some v1)).set j (some v2)).set l (some v3) = ((σ.set l (some v3)).set j (some v2)).set i (some v1) := by
      rw [List.set_comm _ _ hij, List.set_comm _ _ hil, List.set_comm _ _ hjl]
    show Dn.nx (((σ.set i (some v1)).set j (some v2)).set l (some v3)) H3
    rw [e]
    exact q
  · rw [if_neg c] at q
    exact q.elim
/-! targets -/
def gset (i : Nat) : D → SD → Option SD := fun d s => some (s.set i (some (.d d)))
theorem sndg_name : SndG K Ee [i] (gName i) (gset i) := by
  intro d v s σ sx σx B H F hl R r Q w
  have w : ∀ σ' H' F', Ex F F' → (s.set i (some (.d d))).length = σ'.length → σ'.length = σ.length → (∀ j, ¬ j ∈ [i] → σ'[j]? = σ[j]?) → Rel K B H' F' ((s.set i (some (.d d))) ++ sx) (σ' ++ σx) → Q σ' H' := w
  by_cases c : i < s.length
  · refine w (σ.set i (some v)) H F (Ex.refl F) (by simpa using hl) (by simp) (fun j hj => List.getElem?_set_ne (by simpa [eq_comm] using hj)) ?_
    have R2 := R.setD (i := i) r
    rw [List.set_append_left _ _ c, List.set_append_left _ _ (by omega)] at R2
    exact R2
  · have e1 : s.set i (some (.d d)) = s := List.set_eq_of_length_le (by omega)
    have e2 : σ.set i (some v) = σ := List.set_eq_of_length_le (by omega)
    show Q (σ.set i (some v)) H
    rw [e2]
    refine w σ H F (Ex.refl F) (by rw [e1]; exact hl) rfl (fun _ _ => rfl) ?_
    rw [e1]
    exact R
def gnil : List D → SD → Option SD := fun ds s => match ds with
  | [] => some s
  | _ :: _ => none
theorem sndgs_nil : SndGs K Ee [] gNil gnil := by
  intro ds vs s σ sx σx B H F hl R r Q w
  cases r with
  | nil => exact ⟨rfl, w σ H F (Ex.refl F) hl rfl (fun _ _ => rfl) R⟩
  | cons _ _ => exact w.elim
def gcons (f : D → SD → Option SD) (g : List D → SD → Option SD) : List D → SD → Option SD := fun ds s => match ds with
  | [] => none
  | d :: ds => (f d s).bind fun s1 => g ds s1
theorem sndgs_cons {idx idy : List Nat} {g : TG} {gs : TGs} {f : D → SD → Option SD} {fs : List D → SD → Option SD} (h1 : SndG K Ee idx g f) (h2 : SndGs K Ee idy gs fs) : SndGs K Ee (idx ++ idy) (gCons g gs) (gcons f fs) := by
  intro ds vs s σ sx σx B H F hl R r Q w
  cases r with
  | nil => exact w.elim
  | @cons v d vs ds r rs =>
    refine ⟨v, vs, rfl, h1 d v s σ sx σx B H F hl R r _ ?_⟩
    refine PostO.mono (PostO.bind w) fun s1 _ q σ1 H1 F1 e1 l1 l1' k1 R1 => ?_
    refine h2 ds vs s1 σ1 sx σx B H1 F1 l1 R1 (rs.mono e1) Q ?_
    refine PostO.mono q fun s2 _ q σ2 H2 F2 e2 l2 l2' k2 R2 => ?_
    refine q σ2 H2 F2 (e1.trans e2) l2 (l2'.trans l1') (fun j hj => ?_) R2
    rw [List.mem_append] at hj
    exact (k2 j fun z => hj (.inr z)).trans (k1 j fun z => hj (.inl z))
def gtup (n : Nat) (f : List D → SD → Option SD) : D → SD → Option SD := fun d s => match d with
  | .tuple ds => if ds.length = n then f ds s else none
  | _ => none
theorem sndg_tup {idx : List Nat} {n : Nat} {gs : TGs} {fs : List D → SD → Option SD} (h : SndGs K Ee idx gs fs) : SndG K Ee idx (gTup K n gs) (gtup n fs) := by
  intro d v s σ sx σx B H F hl R r Q w
  cases r with
  | @tup a vs ds hs rs =>
    have w : PostO (if ds.length = n then fs ds s else none) _ := w
    by_cases c : ds.length = n
    · rw [if_pos c] at w
      exact ⟨a, vs, rfl, ex_t R.exF hs |> fun z => by
        rcases z with z | z
        · rcases z with z | ⟨o, z⟩
          · exact .inl (.inl z)
          · exact .inl (.inr ⟨o, z⟩)
        · exact .inr z, rs.length.trans c, h ds vs s σ sx σx B H F hl R rs Q w⟩
    · rw [if_neg c] at w
      exact w.elim
  | non => exact w.elim
  | bl b => exact w.elim
  | int i => exact w.elim
  | str x => exact w.elim
  | lst _ _ => exact w.elim
  | dic _ _ => exact w.elim
/-- a, b = e, e data -/
def toRs {α : Type} (o : Option α) : Rs α := match o with
  | some a => .ok a
  | none => .bad
def stg (f : M D) (g : D → SD → Option SD) : SD → Rs (Fl × SD) := fun s => (f s).bind fun r => (toRs (g r.1 r.2)).bind fun s1 => .ok (.nx, s1)
theorem snds_tg {idx : List Nat} {g : TG} {f : M D} {fg : D → SD → Option SD} (h : Snd K Ee te f) (hg : SndG K Ee idx g fg) (hk : ∀ j, j ∈ idx → k ≤ j) : SndS K Ee k (tAsg te g) (stg f fg) := by
  intro s σ B H F R Dn w
  refine h s σ [] [] B H F R.len R.nil _ ?_
  refine Post.mono (Post.bind w) (fun _ q => q) fun r _ q H1 F1 e1 l1 R1 v p => ?_
  refine hg r.1 v r.2 σ [] [] B H1 F1 l1 R1 p _ ?_
  have q := Post.bind q
  cases hh : fg r.1 r.2 with
  | none => rw [hh] at q; exact q.elim
  | some s2 =>
    rw [hh] at q
    exact fun σ2 H2 F2 e2 l2 l2' k2 R2 => q σ2 H2 F2 (e1.trans e2) ⟨l2', fun j hj => k2 j fun z => absurd (hk j z) (by omega)⟩ R2.unnil
end
end Mir
namespace Mir
open PySem L2 Evl
/-! ### what is walked -/
def IsIt (K : PySem.W.Frag) (F : Hp) (J : It) (ds : List D) : Prop := ∀ (H2 F2 : Hp), Ex F F2 → Ex F2 H2 →
  (∀ i, i < ds.length → J.go i H2) ∧ J.stop ds.length H2 ∧ ∀ i d x H3, ds[i]? = some d → J.yld i H2 x H3 → ∃ F3, Grow H2 F2 H3 F3 ∧ Rep K F3 x d
def SndI (K : PySem.W.Frag) (Ee : EEs) (wi : TI) (f : M (List D)) : Prop := ∀ (s : SD) (σ : L2.St) (sx : SD) (σx : L2.St) (B H F : Hp), s.length = σ.length → Rel K B H F (s ++ sx) (σ ++ σx) →
  ∀ R : It → Hp → Prop, Wish K Ee B F sx σ σx (f s) (fun ds H' F' => ∀ J, IsIt K F' J ds → R J H') → wi σ H R
def mfor (g : D → SD → Option SD) (body : SD → Rs (Fl × SD)) : List D → SD → Rs (Fl × SD)
  | [], s => .ok (.nx, s)
  | d :: ds, s => (toRs (g d s)).bind fun s1 => (body s1).bind fun r => match r.1 with
    | .nx => mfor g body ds r.2
    | .ct => mfor g body ds r.2
    | .bk => .ok (.nx, r.2)
    | .rt d => .ok (.rt d, r.2)
def sfor (f : M (List D)) (g : D → SD → Option SD) (body : SD → Rs (Fl × SD)) : SD → Rs (Fl × SD) := fun s => (f s).bind fun r => mfor g body r.1 r.2
def mwhile (c : M Bool) (body : SD → Rs (Fl × SD)) : Nat → SD → Rs (Fl × SD)
  | 0, _ => .bad
  | n + 1, s => (c s).bind fun r => if r.1 then (body r.2).bind fun q => match q.1 with
      | .nx => mwhile c body n q.2
      | .ct => mwhile c body n q.2
      | .bk => .ok (.nx, q.2)
      | .rt d => .ok (.rt d, q.2)
    else .ok (.nx, r.2)
section
variable {K : PySem.W.Frag} {Ee : EEs} {B H F H' F' : Hp} {s sx s' : SD} {σ σx : L2.St} {te ta tb : TE} {k : Nat} {tt tu : TT} {ts tr : TS} {i j : Nat}
theorem snds_for {wi : TI} {g : TG} {idx : List Nat} {f : M (List D)} {fg : D → SD → Option SD} {body : SD → Rs (Fl × SD)} (hi : SndI K Ee wi f) (hg : SndG K Ee idx g fg) (hb : SndS K Ee k ts body) (hk : ∀ j, j ∈ idx → k ≤ j) :
    SndS K Ee k (tFor wi g ts) (sfor f fg body) := by
  intro s σ B H F R Dn w
  refine hi s σ [] [] B H F R.len R.nil _ ?_
  refine Post.mono (Post.bind w) (fun _ q => q) fun r _ q H1 F1 e1 l1 R1 J hJ => ?_
  obtain ⟨ds, s1⟩ := r
  have q : WishS K Ee B F k σ (mfor fg body ds s1) Dn := q
  refine ⟨fun i m σ2 H2 => m = ds.length - i ∧ i ≤ ds.length ∧ ∃ s2 F2, Ex F1 F2 ∧ Keep k σ σ2 ∧ Rel K B H2 F2 s2 σ2 ∧ WishS K Ee B F k σ (mfor fg body (ds.drop i) s2) Dn,
    ⟨ds.length, by simp, Nat.zero_le _, s1, F1, Ex.refl _, Keep.refl k σ, R1.unnil, by simpa using q⟩, ?_⟩
  rintro i m σ2 H2 ⟨rfl, hi', s2, F2, e2, kp2, R2, q2⟩
  obtain ⟨hgo, hstop, hy⟩ := hJ H2 F2 e2 R2.exF
  by_cases hlt : i < ds.length
  · refine .inr ⟨hgo i hlt, fun σ3 H3 => ∃ s3 F3, Ex F1 F3 ∧ Keep k σ σ3 ∧ Rel K B H3 F3 s3 σ3 ∧ WishS K Ee B F k σ (mfor fg body (ds.drop (i + 1)) s3) Dn, fun σ3 H3 ⟨s3, F3, a1, a2, a3, a4⟩ => ⟨ds.length - (i + 1), by omega, rfl, hlt, s3, F3, a1, a2, a3, a4⟩, fun x H3 hyl => ?_⟩
    obtain ⟨F3, g3, rp⟩ := hy i ds[i] x H3 (by simp [hlt]) hyl
    have e3 : ds.drop i = ds[i] :: ds.drop (i + 1) := List.drop_eq_getElem_cons hlt
    rw [e3] at q2
    have q2 : WishS K Ee B F k σ ((toRs (fg ds[i] s2)).bind fun s1 => (body s1).bind fun r => match r.1 with
      | .nx => mfor fg body (ds.drop (i + 1)) r.2
      | .ct => mfor fg body (ds.drop (i + 1)) r.2
      | .bk => .ok (.nx, r.2)
      | .rt d => .ok (.rt d, r.2)) Dn := q2
    have R3 := (R2.grown g3)
    refine hg ds[i] x s2 σ2 [] [] B H3 F3 R3.len R3.nil rp _ ?_
    cases hh : fg ds[i] s2 with
    | none => rw [hh] at q2; exact q2.elim
    | some s4 =>
      rw [hh] at q2
      refine fun σ4 H4 F4 e4 l4 l4' k4 R4 => ?_
      have kp4 : Keep k σ σ4 := kp2.trans ⟨l4', fun j hj => k4 j fun z => absurd (hk j z) (by omega)⟩
      refine hb s4 σ4 B H4 F4 R4.unnil _ ?_
      refine Post.mono (Post.bind q2) (fun _ q H' F' n => q H' F' (n.ahead (((e1.trans e2).trans g3.f).trans e4))) fun r _ q σ5 H5 F5 e5 kp5 R5 => ?_
      have eall : Ex F F5 := (((e1.trans e2).trans g3.f).trans e4).trans e5
      have e15 : Ex F1 F5 := ((e2.trans g3.f).trans e4).trans e5
      obtain ⟨fl, s5⟩ := r
      cases fl with
      | nx => exact ⟨s5, F5, e15, kp4.trans kp5, R5, q⟩
      | ct => exact ⟨s5, F5, e15, kp4.trans kp5, R5, q⟩
      | bk => exact q σ5 H5 F5 eall (kp4.trans kp5) R5
      | rt d => exact q σ5 H5 F5 eall (kp4.trans kp5) R5
  · have e : i = ds.length := by omega
    subst e
    rw [List.drop_length] at q2
    exact .inl ⟨hstop, q2 σ2 H2 F2 (e1.trans e2) kp2 R2⟩
theorem snds_while {f : M Bool} {body : SD → Rs (Fl × SD)} (n : Nat) (hc : SndT K Ee tt f) (hb : SndS K Ee k ts body) : SndS K Ee k (tWhile tt ts) (mwhile f body n) := by
  intro s σ B H F R Dn w
  refine ⟨fun m σ2 H2 => ∃ s2 F2, Ex F F2 ∧ Keep k σ σ2 ∧ Rel K B H2 F2 s2 σ2 ∧ WishS K Ee B F k σ (mwhile f body m s2) Dn, ⟨n, s, F, Ex.refl _, Keep.refl k σ, R, w⟩, ?_⟩
  rintro m σ2 H2 ⟨s2, F2, e2, kp2, R2, q2⟩
  cases m with
  | zero => exact q2.elim
  | succ m =>
    have q2 : WishS K Ee B F k σ ((f s2).bind fun r => if r.1 then (body r.2).bind fun q => match q.1 with
      | .nx => mwhile f body m q.2
      | .ct => mwhile f body m q.2
      | .bk => .ok (.nx, q.2)
      | .rt d => .ok (.rt d, q.2)
    else .ok (.nx, r.2)) Dn := q2
    refine hc s2 σ2 [] [] B H2 F2 R2.len R2.nil _ ?_
    refine Post.mono (Post.bind q2) (fun _ q H' F' n => q H' F' (n.ahead e2)) fun r _ q H3 F3 e3 l3 R3 => ?_
    obtain ⟨b, s3⟩ := r
    cases b with
    | false => exact q σ2 H3 F3 (e2.trans e3) kp2 R3.unnil
    | true =>
      refine ⟨fun σ4 H4 => ∃ s4 F4, Ex F F4 ∧ Keep k σ σ4 ∧ Rel K B H4 F4 s4 σ4 ∧ WishS K Ee B F k σ (mwhile f body m s4) Dn, fun σ4 H4 a => ⟨m, by omega, a⟩, ?_⟩
      refine hb s3 σ2 B H3 F3 R3.unnil _ ?_
      refine Post.mono (Post.bind q) (fun _ q H' F' n => q H' F' (n.ahead (e2.trans e3))) fun r _ q σ5 H5 F5 e5 kp5 R5 => ?_
      obtain ⟨fl, s5⟩ := r
      cases fl with
      | nx => exact ⟨s5, F5, (e2.trans e3).trans e5, kp2.trans kp5, R5, q⟩
      | ct => exact ⟨s5, F5, (e2.trans e3).trans e5, kp2.trans kp5, R5, q⟩
      | bk => exact q σ5 H5 F5 ((e2.trans e3).trans e5) (kp2.trans kp5) R5
      | rt d => exact q σ5 H5 F5 ((e2.trans e3).trans e5) (kp2.trans kp5) R5
/-! what is walked -/
theorem isIt_list {a : Addr} {vs : List V} {ds : List D} (h : F a = some (.lst vs)) (r : RepL K F vs ds) : IsIt K F (Itl K a) ds := by
  intro H2 F2 e1 e2
  have h2 : SqL K H2 a vs := .inl (.inl (e2 _ _ (e1 _ _ h)))
  refine ⟨fun i hi => ?_, ⟨vs, h2, by rw [r.length]; exact Nat.le_refl _⟩, fun i d x H3 hd y => ?_⟩
  · obtain ⟨v, hv, _⟩ := r.get (i := i) (d := ds[i]) (by simp [hi])
    exact ⟨vs, v, h2, hv⟩
  · obtain ⟨v, hv, rp⟩ := r.get hd
    obtain ⟨rfl, y2⟩ := y
    have := y2 vs h2
    rw [hv] at this
    cases this
    exact ⟨F2, Grow.refl e2, rp.mono e1⟩
theorem isIt_tup {a : Addr} {vs : List V} {ds : List D} (h : SqT K F a vs) (r : RepL K F vs ds) : IsIt K F (Itt K a) ds := by
  intro H2 F2 e1 e2
  have h2 : SqT K H2 a vs := ex_t e2 (ex_t e1 h)
  refine ⟨fun i hi => ?_, ⟨vs, h2, by rw [r.length]; exact Nat.le_refl _⟩, fun i d x H3 hd y => ?_⟩
  · obtain ⟨v, hv, _⟩ := r.get (i := i) (d := ds[i]) (by simp [hi])
    exact ⟨vs, v, h2, hv⟩
  · obtain ⟨v, hv, rp⟩ := r.get hd
    obtain ⟨rfl, y2⟩ := y
    have := y2 vs h2
    rw [hv] at this
    cases this
    exact ⟨F2, Grow.refl e2, rp.mono e1⟩
def rangeD (lo : Int) (n : Nat) : List D := (List.range n).map fun i => .int (lo + (i : Nat))
theorem isIt_range {lo : Int} {n : Nat} : IsIt K F (Itr lo n) (rangeD lo n) := by
  intro H2 F2 e1 e2
  unfold rangeD
  refine ⟨fun i hi => ?_, ?_, fun i d x H3 hd y => ?_⟩
  · have q : i < n := by simpa using hi
    exact q
  · show n ≤ _
    simp
  · obtain ⟨rfl, rfl⟩ := y
    rw [List.getElem?_map] at hd
    cases e : (List.range n)[i]? with
    | none => rw [e] at hd; cases hd
    | some m =>
      rw [e] at hd
      cases hd
      have : m = i := by
        obtain ⟨h1, h2⟩ := List.getElem?_eq_some_iff.mp e
        simpa using h2.symm
      subst this
      exact ⟨F2, Grow.refl e2, .int _⟩
def enumD (ds : List D) : List D := (List.range ds.length).zipWith (fun i d => .tuple [.int (i : Nat), d]) ds
theorem enumD_get {ds : List D} {i : Nat} {d : D} (h : (enumD ds)[i]? = some d) : ∃ x, ds[i]? = some x ∧ d = .tuple [.int (i : Nat), x] := by
  unfold enumD at h
  rw [List.getElem?_zipWith] at h
  cases e : ds[i]? with
  | none => 
    rw [e] at h
    cases e2 : (List.range ds.length)[i]? <;> rw [e2] at h <;> cases h
  | some x =>
    have hi := (List.getElem?_eq_some_iff.mp e).1
    rw [e, List.getElem?_range hi] at h
    cases h
    exact ⟨x, rfl, rfl⟩
theorem enumD_len {ds : List D} : (enumD ds).length = ds.length := by
  unfold enumD
  simp
theorem isIt_enumL {a : Addr} {vs : List V} {ds : List D} (h : F a = some (.lst vs)) (r : RepL K F vs ds) : IsIt K F (Ite K a) (enumD ds) := by
  intro H2 F2 e1 e2
  have h2 : SqL K H2 a vs := .inl (.inl (e2 _ _ (e1 _ _ h)))
  refine ⟨fun i hi => ?_, ⟨vs, h2, by rw [enumD_len, r.length]; exact Nat.le_refl _⟩, fun i d x H3 hd y => ?_⟩
  · rw [enumD_len] at hi
    obtain ⟨v, hv, _⟩ := r.get (i := i) (d := ds[i]) (by simp [hi])
    exact ⟨vs, v, h2, hv⟩
  · obtain ⟨z, hz, rfl⟩ := enumD_get hd
    obtain ⟨v, hv, rp⟩ := r.get hz
    obtain ⟨T, w, rfl, hT, rfl, y2⟩ := y
    have := y2 vs h2
    rw [hv] at this
    cases this
    have g : Grow H2 F2 (upd H2 T (.tup [.int (i : Nat), v])) (upd F2 T (.tup [.int (i : Nat), v])) := Grow.new1 e2 hT
    exact ⟨_, g, .tup (.inl (.inl upd_same)) (.cons (.int _) (.cons ((rp.mono e1).mono g.f) .nil))⟩
/-- items of data -/
def oItems : D → Option (List D)
  | .list ds => some ds
  | _ => none
def oItemsT : D → Option (List D)
  | .tuple ds => some ds
  | _ => none
def mitems (o : D → Option (List D)) (f : M D) : M (List D) := fun s => (f s).bind fun r => lift (o r.1) r.2
theorem sndi_list {f : M D} (h : Snd K Ee te f) : SndI K Ee (iList K te) (mitems oItems f) := by
  intro s σ sx σx B H F hl R Q w
  refine h s σ sx σx B H F hl R _ ?_
  refine Post.mono w.bind (fun _ q => q) fun r1 _ q H1 F1 e1 l1 R1 v1 p1 => ?_
  have q := q H1 F1 e1 l1 R1
  obtain ⟨d, s1⟩ := r1
  cases p1 with
  | @lst a vs ds h1 h2 => exact ⟨a, rfl, ⟨vs, .inl (.inl (R1.exF _ _ h1))⟩, q.here l1 R1 _ (isIt_list h1 h2)⟩
  | non => exact q.elim
  | bl b => exact q.elim
  | int i => exact q.elim
  | str x => exact q.elim
  | tup _ _ => exact q.elim
  | dic _ _ => exact q.elim
theorem sndi_tup {f : M D} (h : Snd K Ee te f) : SndI K Ee (iTup K te) (mitems oItemsT f) := by
  intro s σ sx σx B H F hl R Q w
  refine h s σ sx σx B H F hl R _ ?_
  refine Post.mono w.bind (fun _ q => q) fun r1 _ q H1 F1 e1 l1 R1 v1 p1 => ?_
  have q := q H1 F1 e1 l1 R1
  obtain ⟨d, s1⟩ := r1
  cases p1 with
  | @tup a vs ds h1 h2 => exact ⟨a, rfl, ⟨vs, ex_t R1.exF h1⟩, q.here l1 R1 _ (isIt_tup h1 h2)⟩
  | non => exact q.elim
  | bl b => exact q.elim
  | int i => exact q.elim
  | str x => exact q.elim
  | lst _ _ => exact q.elim
  | dic _ _ => exact q.elim
def oRange1 : List D → Option (List D)
  | [.int j] => if j < 2 ^ 60 then if -(2 ^ 60) < j then some (rangeD 0 j.toNat) else none else none
  | _ => none
def oRange2 : List D → Option (List D)
  | [.int i, .int j] => if i < 2 ^ 60 then if -(2 ^ 60) < i then if j < 2 ^ 60 then if -(2 ^ 60) < j then some (rangeD i (j - i).toNat) else none else none else none else none
  | _ => none
def mit (o : List D → Option (List D)) (f : M (List D)) : M (List D) := fun s => (f s).bind fun r => lift (o r.1) r.2
theorem repL1 {vs : List V} {d : D} (h : RepL K F vs [d]) : ∃ v, vs = [v] ∧ Rep K F v d := by
  cases h with
  | cons a b => cases b; exact ⟨_, rfl, a⟩
theorem repL2 {vs : List V} {d e : D} (h : RepL K F vs [d, e]) : ∃ v w, vs = [v, w] ∧ Rep K F v d ∧ Rep K F w e := by
  cases h with
  | cons a b => 
    obtain ⟨w, rfl, q⟩ := repL1 b
    exact ⟨_, w, rfl, a, q⟩
theorem repL3 {vs : List V} {d e g : D} (h : RepL K F vs [d, e, g]) : ∃ v w x, vs = [v, w, x] ∧ Rep K F v d ∧ Rep K F w e ∧ Rep K F x g := by
  cases h with
  | cons a b => 
    obtain ⟨w, x, rfl, q, q'⟩ := repL2 b
    exact ⟨_, w, x, rfl, a, q, q'⟩
theorem oRange1_some {ds l : List D} (h : oRange1 ds = some l) : ∃ j : Int, ds = [.int j] ∧ j < 2 ^ 60 ∧ -(2 ^ 60) < j ∧ l = rangeD 0 j.toNat := by
  unfold oRange1 at h
  split at h
  · rename_i j
    by_cases c : j < 2 ^ 60
    · rw [if_pos c] at h
      by_cases c2 : -(2 ^ 60) < j
      · rw [if_pos c2] at h
        exact ⟨j, rfl, c, c2, (Option.some.inj h).symm⟩
      · rw [if_neg c2] at h; cases h
    · rw [if_neg c] at h; cases h
  · cases h
theorem oRange2_some {ds l : List D} (h : oRange2 ds = some l) : ∃ i j : Int, ds = [.int i, .int j] ∧ i < 2 ^ 60 ∧ -(2 ^ 60) < i ∧ j < 2 ^ 60 ∧ -(2 ^ 60) < j ∧ l = rangeD i (j - i).toNat := by
  unfold oRange2 at h
  split at h
  · rename_i i j
    by_cases c1 : i < 2 ^ 60
    · by_cases c2 : -(2 ^ 60) < i
      · by_cases c3 : j < 2 ^ 60
        · by_cases c4 : -(2 ^ 60) < j
          · rw [if_pos c1, if_pos c2, if_pos c3, if_pos c4] at h
            exact ⟨i, j, rfl, c1, c2, c3, c4, (Option.some.inj h).symm⟩
          · rw [if_pos c1, if_pos c2, if_pos c3, if_neg c4] at h; cases h
        · rw [if_pos c1, if_pos c2, if_neg c3] at h; cases h
      · rw [if_pos c1, if_neg c2] at h; cases h
    · rw [if_neg c1] at h; cases h
  · cases h
theorem sndi_range1 {ta : TA} {f : M (List D)} (h : SndA K Ee ta f) : SndI K Ee (iRng1 ta) (mit oRange1 f) := by
  intro s σ sx σx B H F hl R Q w
  refine h s σ sx σx B H F hl R _ ?_
  refine Post.mono w.bind (fun _ q => q) fun r1 _ q H1 F1 e1 l1 R1 v1 p1 => ?_
  have q := q H1 F1 e1 l1 R1
  obtain ⟨ds, s1⟩ := r1
  cases ho : oRange1 ds with
  | none =>
    have q : Wish K Ee B F1 sx σ σx (lift (oRange1 ds) s1) _ := q
    rw [ho] at q
    exact q.elim
  | some l =>
    have q : Wish K Ee B F1 sx σ σx (lift (oRange1 ds) s1) _ := q
    rw [ho] at q
    obtain ⟨j, rfl, c1, c2, rfl⟩ := oRange1_some ho
    obtain ⟨v, rfl, r⟩ := repL1 p1
    cases r
    exact ⟨j, rfl, by omega, by omega, q.here l1 R1 _ isIt_range⟩
theorem sndi_range2 {ta : TA} {f : M (List D)} (h : SndA K Ee ta f) : SndI K Ee (iRng2 ta) (mit oRange2 f) := by
  intro s σ sx σx B H F hl R Q w
  refine h s σ sx σx B H F hl R _ ?_
  refine Post.mono w.bind (fun _ q => q) fun r1 _ q H1 F1 e1 l1 R1 v1 p1 => ?_
  have q := q H1 F1 e1 l1 R1
  obtain ⟨ds, s1⟩ := r1
  cases ho : oRange2 ds with
  | none =>
    have q : Wish K Ee B F1 sx σ σx (lift (oRange2 ds) s1) _ := q
    rw [ho] at q
    exact q.elim
  | some l =>
    have q : Wish K Ee B F1 sx σ σx (lift (oRange2 ds) s1) _ := q
    rw [ho] at q
    obtain ⟨i, j, rfl, c1, c2, c3, c4, rfl⟩ := oRange2_some ho
    obtain ⟨v, w, rfl, r, r'⟩ := repL2 p1
    cases r
    cases r'
    exact ⟨i, j, rfl, ⟨by omega, by omega, by omega, by omega⟩, q.here l1 R1 _ isIt_range⟩
def oEnum : List D → Option (List D)
  | [.list ds] => some (enumD ds)
  | _ => none
theorem sndi_enum {ta : TA} {f : M (List D)} (h : SndA K Ee ta f) : SndI K Ee (iEnum K ta) (mit oEnum f) := by
  intro s σ sx σx B H F hl R Q w
  refine h s σ sx σx B H F hl R _ ?_
  refine Post.mono w.bind (fun _ q => q) fun r1 _ q H1 F1 e1 l1 R1 v1 p1 => ?_
  have q := q H1 F1 e1 l1 R1
  obtain ⟨ds, s1⟩ := r1
  have q : Wish K Ee B F1 sx σ σx (lift (oEnum ds) s1) _ := q
  unfold oEnum at q
  split at q
  · obtain ⟨v, rfl, r⟩ := repL1 p1
    cases r with
    | @lst a vs ds h1 h2 => exact ⟨a, vs, rfl, .inl (.inl (R1.exF _ _ h1)), q.here l1 R1 _ (isIt_enumL h1 h2)⟩
  · exact q.elim
end
end Mir
namespace Mir
open PySem L2 Evl
def wipeS (s : SD) : List Nat → SD
  | [] => s
  | v :: vs => (wipeS s vs).set v none
/-- what stood there ahead, where it is data -/
def oldS (s0 : SD) (i : Nat) : Option SV := match s0[i]? with
  | some (some (.d x)) => some (.d x)
  | _ => none
def unwipe (s0 s : SD) : List Nat → SD
  | [] => s
  | v :: vs => (unwipe s0 s vs).set v (oldS s0 v)
theorem wipeS_len (s : SD) : ∀ vs, (wipeS s vs).length = s.length
  | [] => rfl
  | v :: vs => by unfold wipeS; rw [List.length_set, wipeS_len s vs]
theorem unwipe_len (s0 s : SD) : ∀ vs, (unwipe s0 s vs).length = s.length
  | [] => rfl
  | v :: vs => by unfold unwipe; rw [List.length_set, unwipe_len s0 s vs]
theorem wipeS_some {s : SD} {i : Nat} {x : SV} : ∀ {vs}, (wipeS s vs)[i]? = some (some x) → s[i]? = some (some x) ∧ ¬ i ∈ vs
  | [], h => ⟨h, by simp⟩
  | v :: vs, h => by
    unfold wipeS at h
    rw [List.getElem?_set] at h
    by_cases c : v = i
    · rw [if_pos c] at h
      split at h <;> cases h
    · rw [if_neg c] at h
      obtain ⟨a, b⟩ := wipeS_some h
      exact ⟨a, by simp [b, Ne.symm c]⟩
theorem unwipe_some {s0 s : SD} {i : Nat} {x : SV} : ∀ {vs}, (unwipe s0 s vs)[i]? = some (some x) → (s[i]? = some (some x) ∧ ¬ i ∈ vs) ∨ (∃ d, x = .d d ∧ s0[i]? = some (some (.d d)) ∧ i ∈ vs)
  | [], h => .inl ⟨h, by simp⟩
  | v :: vs, h => by
    unfold unwipe at h
    rw [List.getElem?_set] at h
    by_cases c : v = i
    · rw [if_pos c] at h
      split at h
      · have h := Option.some.inj h
        unfold oldS at h
        split at h
        · rename_i d hd
          cases h
          exact .inr ⟨d, rfl, c ▸ hd, by simp [c]⟩
        · cases h
      · cases h
    · rw [if_neg c] at h
      rcases unwipe_some h with ⟨a, b⟩ | ⟨d, a, b, c'⟩
      · exact .inl ⟨a, by simp [b, Ne.symm c]⟩
      · exact .inr ⟨d, a, b, List.mem_cons_of_mem _ c'⟩
def mlc {α : Type} (fg : D → SD → Option SD) (ft : M Bool) (fe : M α) (vs : List Nat) : List D → SD → Rs (List α × SD)
  | [], s => .ok ([], s)
  | d :: ds, s => (toRs (fg d s)).bind fun s1 => (ft s1).bind fun r => if r.1 then (fe r.2).bind fun q => (mlc fg ft fe vs ds (wipeS q.2 vs)).bind fun z => .ok (q.1 :: z.1, z.2) else mlc fg ft fe vs ds (wipeS r.2 vs)
def mlcomp {α : Type} (f : M (List D)) (fg : D → SD → Option SD) (ft : M Bool) (fe : M α) (vs : List Nat) : M (List α) := fun s => (f s).bind fun r =>
  if r.1.length ≤ 100000 then (mlc fg ft fe vs r.1 (wipeS r.2 vs)).bind fun z => .ok (z.1, unwipe r.2 z.2 vs) else .bad
section
variable {K : PySem.W.Frag} {Ee : EEs} {B H F H' F' F1 : Hp} {s sx s' s1 : SD} {σ σ' σx : L2.St} {te ta tb : TE} {k : Nat} {tt tu : TT} {ts tr : TS} {i j : Nat}
/-- slots change, each as it stood or data -/
theorem Rel.change (R : Rel K B H F s σ) (hl : s'.length = σ'.length) (h : ∀ (i : Nat) (x : SV), s'[i]? = some (some x) → (s[i]? = some (some x) ∧ σ'[i]? = σ[i]?) ∨ ∃ (d : D) (v : V), x = SV.d d ∧ σ'[i]? = some (some v) ∧ Rep K F v d) : Rel K B H F s' σ' := by
  obtain ⟨len, exB, exF, dis, own, h1, h2⟩ := R
  refine ⟨hl, exB, exF, dis, own, h1, fun i x hx => ?_⟩
  rcases h i x hx with ⟨a, b⟩ | ⟨d, v, rfl, a, b⟩
  · obtain ⟨v, hv, hr⟩ := h2 i x a
    exact ⟨v, b.trans hv, hr⟩
  · exact ⟨v, a, b⟩
theorem Rel.wipe {vs : List Nat} (R : Rel K B H F (s ++ sx) (σ ++ σx)) (hl : s.length = σ.length) : Rel K B H F (wipeS s vs ++ sx) (L2.wipe σ vs ++ σx) := by
  have hx := R.lens hl
  refine R.change (by simp [wipeS_len, wipe_length, hl, hx]) fun i x h => .inl ?_
  by_cases c : i < s.length
  · rw [List.getElem?_append_left (by rw [wipeS_len]; exact c)] at h
    obtain ⟨a, b⟩ := wipeS_some h
    rw [List.getElem?_append_left c, List.getElem?_append_left (by rw [wipe_length]; omega), List.getElem?_append_left (by omega)]
    exact ⟨a, wipe_out b⟩
  · rw [List.getElem?_append_right (by rw [wipeS_len]; omega), wipeS_len] at h
    rw [List.getElem?_append_right (by omega), List.getElem?_append_right (by rw [wipe_length]; omega), List.getElem?_append_right (by omega), wipe_length]
    exact ⟨h, rfl⟩
theorem Rel.unwipe {vs : List Nat} {s0 : SD} {H0 F0 : Hp} {sy : SD} {σy : L2.St} (R : Rel K B H F (s ++ sx) (L2.wipe σ vs ++ σx)) (hl : s.length = σ.length) (R0 : Rel K B H0 F0 (s0 ++ sy) (σ ++ σy)) (hl0 : s0.length = σ.length) (e : Ex F0 F) : Rel K B H F (unwipe s0 s vs ++ sx) (σ ++ σx) := by
  have hx := R.lens (by rw [wipe_length]; exact hl)
  refine R.change (by simp [unwipe_len, hl, hx]) fun i x h => ?_
  by_cases c : i < s.length
  · rw [List.getElem?_append_left (by rw [unwipe_len]; exact c)] at h
    rcases unwipe_some h with ⟨a, b⟩ | ⟨d, rfl, b, c'⟩
    · rw [List.getElem?_append_left c, List.getElem?_append_left (by omega), List.getElem?_append_left (by rw [wipe_length]; omega)]
      exact .inl ⟨a, (wipe_out b).symm⟩
    · obtain ⟨v, hv, r⟩ := R0.get (i := i) (x := d) (by rw [List.getElem?_append_left (by omega)]; exact b)
      rw [List.getElem?_append_left (by omega)] at hv
      exact .inr ⟨d, v, rfl, by rw [List.getElem?_append_left (by omega)]; exact hv, r.mono e⟩
  · rw [List.getElem?_append_right (by rw [unwipe_len]; omega), unwipe_len] at h
    rw [List.getElem?_append_right (by omega), List.getElem?_append_right (by omega), List.getElem?_append_right (by rw [wipe_length]; omega), wipe_length]
    exact .inl ⟨h, rfl⟩
/-- the list in flight grows by data -/
theorem Rel.grow1 {l : List D} {v : V} {D0 : Addr} {d : D} (R : Rel K B H F (s ++ some (.ol l) :: sx) (σ ++ some (.ref D0) :: σx)) (hl : s.length = σ.length) (r : Rep K F v d) :
    ∃ acc, H D0 = some (.lst acc) ∧ acc.length = l.length ∧ Rel K B (upd H D0 (.lst (acc ++ [v]))) F (s ++ some (.ol (l ++ [d])) :: sx) (σ ++ some (.ref D0) :: σx) := by
  obtain ⟨p, vs, hp, hH, rl, hF, hB, hm⟩ := R.mutOl (i := s.length) (l := l) (by simp)
  have e : p = D0 := by
    rw [hl] at hp
    simpa using hp.symm
  subst e
  refine ⟨vs, hH, rl.length, ?_⟩
  have q := hm (vs ++ [v]) (l ++ [d]) (rl.append (.one r))
  rw [List.set_append_right _ _ (Nat.le_refl _)] at q
  simpa using q
theorem wipe_keep {vs : List Nat} {idx : List Nat} (hk : ∀ j, j ∈ idx → j ∈ vs) (hl : σ'.length = σ.length) (h : ∀ j, ¬ j ∈ idx → σ'[j]? = (wipe σ vs)[j]?) : wipe σ' vs = wipe σ vs := by
  apply List.ext_getElem?
  intro j
  by_cases c : j ∈ vs
  · have key : ∀ (τ : L2.St) (ws : List Nat), j ∈ ws → (L2.wipe τ ws)[j]? = if j < τ.length then some none else none := by
      intro τ ws
      induction ws with
      | nil => intro h; cases h
      | cons w ws ih =>
        intro hm
        unfold L2.wipe
        rw [List.getElem?_set]
        by_cases cw : w = j
        · subst cw
          rw [if_pos rfl, wipe_length]
        · rw [if_neg cw]
          exact ih ((List.mem_cons.mp hm).resolve_left (fun z => cw z.symm))
    rw [key _ _ c, key _ _ c, hl]
  · rw [wipe_out c, wipe_out c, h j (fun z => c (hk j z)), wipe_out c]
theorem sndl_lc {wi : TI} {g : TG} {idx vs : List Nat} {f : M (List D)} {fg : D → SD → Option SD} {ft : M Bool} {fe : M D} (hi : SndI K Ee wi f) (hg : SndG K Ee idx g fg) (ht : SndT K Ee tt ft) (he : Snd K Ee te fe) (hk : ∀ j, j ∈ idx → j ∈ vs) :
    SndL K Ee (tLc wi g tt te vs) (mlcomp f fg ft fe vs) := by
  intro s σ sx σx B H F hl R Q w
  refine hi s σ sx σx B H F hl R _ ?_
  refine Post.mono (Post.bind w) (fun _ q => q) fun r _ q H1 F1 e1 l1 R1 J hJ D0 hD => ?_
  obtain ⟨ds, s1⟩ := r
  have q : WishL K Ee B F sx σ σx (if ds.length ≤ 100000 then (mlc fg ft fe vs ds (wipeS s1 vs)).bind fun z => .ok (z.1, unwipe s1 z.2 vs) else .bad) Q := q
  rcases Nat.lt_or_ge 100000 ds.length with cz | cz
  · rw [if_neg (by omega)] at q
    exact q.elim
  rw [if_pos cz] at q
  have q := Post.bind q
  have l1' : s1.length = σ.length := l1
  -- from F1 on
  let Want : List D → Rs (List D × SD) → Prop := fun acc r => Post r (fun e => ∀ H' F', Nxt B F H' F' → Ee e H' F') fun z => ∀ H' F', Ex F1 F' → z.2.length = σ.length → Rel K B H' F' (z.2 ++ some (.ol (acc ++ z.1)) :: sx) (wipe σ vs ++ some (.ref D0) :: σx) → Q (.ref D0) H'
  have w0 : Want [] (mlc fg ft fe vs ds (wipeS s1 vs)) := by
    refine Post.mono q (fun _ q => q) fun z _ q H' F' e hz R' => ?_
    exact q H' F' (.ref D0) (e1.trans e) (by show (unwipe s1 z.2 vs).length = _; rw [unwipe_len]; exact hz) (R'.unwipe hz R1 l1' e)
  have R2 : Rel K B (upd H1 D0 (.lst [])) F1 (wipeS s1 vs ++ some (.ol []) :: sx) (wipe σ vs ++ some (.ref D0) :: σx) := (R1.wipe l1').fresh (by rw [wipeS_len, wipe_length]; exact l1') hD .nil
  refine ⟨fun i m H2 => m = ds.length - i ∧ i ≤ ds.length ∧ ∃ s2 F2 acc, Ex F1 F2 ∧ acc.length ≤ i ∧ s2.length = σ.length ∧ Rel K B H2 F2 (s2 ++ some (.ol acc) :: sx) (wipe σ vs ++ some (.ref D0) :: σx) ∧ Want acc (mlc fg ft fe vs (ds.drop i) s2),
    ⟨ds.length, by simp, Nat.zero_le _, wipeS s1 vs, F1, [], Ex.refl _, Nat.le_refl _, by rw [wipeS_len]; exact l1', R2, by simpa using w0⟩, ?_⟩
  rintro i m H2 ⟨rfl, hi', s2, F2, acc, e2, hacc, hl2, R2, w2⟩
  obtain ⟨hgo, hstop, hy⟩ := hJ H2 F2 e2 R2.exF
  by_cases hlt : i < ds.length
  · refine .inr ⟨hgo i hlt, fun H3 => ∃ s3 F3 acc, Ex F1 F3 ∧ acc.length ≤ i + 1 ∧ s3.length = σ.length ∧ Rel K B H3 F3 (s3 ++ some (.ol acc) :: sx) (wipe σ vs ++ some (.ref D0) :: σx) ∧ Want acc (mlc fg ft fe vs (ds.drop (i + 1)) s3),
      fun H3 ⟨s3, F3, acc3, a1, a2, a3, a4, a5⟩ => ⟨ds.length - (i + 1), by omega, rfl, hlt, s3, F3, acc3, a1, a2, a3, a4, a5⟩, fun x H3 hyl => ?_⟩
    obtain ⟨F3, g3, rp⟩ := hy i ds[i] x H3 (by simp [hlt]) hyl
    have e3 : ds.drop i = ds[i] :: ds.drop (i + 1) := List.drop_eq_getElem_cons hlt
    rw [e3] at w2
    have w2 : Want acc ((toRs (fg ds[i] s2)).bind fun s1 => (ft s1).bind fun r => if r.1 then (fe r.2).bind fun q => (mlc fg ft fe vs (ds.drop (i + 1)) (wipeS q.2 vs)).bind fun z => .ok (q.1 :: z.1, z.2) else mlc fg ft fe vs (ds.drop (i + 1)) (wipeS r.2 vs)) := w2
    have R3 := R2.grown g3
    refine hg ds[i] x s2 (wipe σ vs) _ _ B H3 F3 (by rw [wipe_length]; exact hl2) R3 rp _ ?_
    cases hh : fg ds[i] s2 with
    | none => rw [hh] at w2; exact w2.elim
    | some s4 =>
      rw [hh] at w2
      refine fun σ4 H4 F4 e4 l4 l4' k4 R4 => ?_
      have hw4 : wipe σ4 vs = wipe σ vs := wipe_keep hk (by rw [l4', wipe_length]) k4
      refine ⟨hw4, ?_⟩
      have eF4 : Ex F F4 := ((e1.trans e2).trans g3.f).trans e4
      have e14 : Ex F1 F4 := (e2.trans g3.f).trans e4
      refine ht s4 σ4 _ _ B H4 F4 l4 R4 _ ?_
      refine Post.mono (Post.bind w2) (fun _ q H' F' n => q H' F' (n.ahead eF4)) fun r _ q H5 F5 e5 l5 R5 => ?_
      obtain ⟨b, s5⟩ := r
      have l4σ : σ4.length = σ.length := by rw [l4', wipe_length]
      cases b with
      | false =>
        have R6 : Rel K B H5 F5 (wipeS s5 vs ++ some (.ol acc) :: sx) (wipe σ vs ++ some (.ref D0) :: σx) := by
          have := R5.wipe (vs := vs) l5
          rw [hw4] at this
          exact this
        exact ⟨wipeS s5 vs, F5, acc, e14.trans e5, by omega, by rw [wipeS_len, ← l4σ]; exact l5, R6, q⟩
      | true =>
        refine he s5 σ4 _ _ B H5 F5 l5 R5 _ ?_
        refine Post.mono (Post.bind q) (fun _ q H' F' n => q H' F' (n.ahead (eF4.trans e5))) fun r _ q H6 F6 e6 l6 R6 v6 p6 => ?_
        obtain ⟨d6, s6⟩ := r
        obtain ⟨ac, hac, lac, R7⟩ := R6.grow1 l6 p6
        refine ⟨ac, hac, by rw [lac]; exact sz_lt (by omega), wipeS s6 vs, F6, acc ++ [d6], (e14.trans e5).trans e6, by simp; omega, by rw [wipeS_len, ← l4σ]; exact l6, ?_, ?_⟩
        · have := R7.wipe (vs := vs) l6
          rw [hw4] at this
          exact this
        · refine Post.mono (Post.bind q) (fun _ q => q) fun z _ q H' F' e hz Rz => ?_
          refine q H' F' e hz ?_
          rw [List.append_assoc] at Rz
          exact Rz
  · have e : i = ds.length := by omega
    subst e
    rw [List.drop_length] at w2
    exact .inl ⟨hstop, w2 H2 F2 e2 hl2 (by rw [List.append_nil]; exact R2)⟩
def mtrue : M Bool := fun s => .ok (true, s)
theorem sndt_yes : SndT K Ee tYes mtrue := by
  intro s σ sx σx B H F hl R Q w
  exact w.here hl R
/-! a list of the def's own, in a slot -/
def ownL (s : SD) (i : Nat) : Option (List D) := match s[i]? with
  | some (some (.ol l)) => some l
  | _ => none
theorem ownL_some {l : List D} (h : ownL s i = some l) : s[i]? = some (some (.ol l)) := by
  unfold ownL at h
  split at h
  · rename_i e
    cases h
    exact e
  · cases h
/-- xs.append(e), xs.extend(e) -/
def smut (op : List D → D → Option (List D)) (i : Nat) (f : M D) : SD → Rs (Fl × SD) := fun s => (toRs (ownL s i)).bind fun _ => (f s).bind fun r => (toRs (ownL r.2 i)).bind fun l => (toRs (op l r.1)).bind fun m => .ok (.nx, r.2.set i (some (.ol m)))
theorem snds_mut {f : M D} {rm : V → List V → Hp → VK → Prop} {op : List D → D → Option (List D)} (h : Snd K Ee te f)
    (hr : ∀ (p : Addr) (vs : List V) (l m : List D) (v : V) (d : D) (H F : Hp), Ex F H → H p = some (.lst vs) → RepL K F vs l → Rep K F v d → op l d = some m → ∀ Q : VK, (∀ vs', RepL K F vs' m → Q .non (upd H p (.lst vs'))) → rm (.ref p) [v] H Q) :
    SndS K Ee k (tDrop (tBM K "list" rm (tVar i) (tCons te tNil))) (smut op i f) := by
  intro s σ B H F R Dn w
  have w := Post.bind w
  cases h0 : ownL s i with
  | none => rw [h0] at w; exact w.elim
  | some l0 =>
  rw [h0] at w
  obtain ⟨p, vs, hp, hH, rl, hF, hB, hm⟩ := R.mutOl (ownL_some h0)
  refine ⟨.ref p, hp, .inl ⟨rfl, vs, .inl (.inl hH)⟩, ?_⟩
  refine h s σ [] [] B H F R.len R.nil _ ?_
  refine Post.mono (Post.bind w) (fun _ q => q) fun r _ q H1 F1 e1 l1 R1 v p1 => ?_
  have q := Post.bind q
  cases h1 : ownL r.2 i with
  | none => rw [h1] at q; exact q.elim
  | some l1' =>
  rw [h1] at q
  obtain ⟨p', vs', hp', hH', rl', hF', hB', hm'⟩ := R1.unnil.mutOl (ownL_some h1)
  rw [hp] at hp'
  cases hp'
  have q := Post.bind q
  cases h2 : op l1' r.1 with
  | none => rw [h2] at q; exact q.elim
  | some m =>
  rw [h2] at q
  exact hr p vs' l1' m v r.1 H1 F1 R1.exF hH' rl' p1 h2 _ fun ws rw' => q σ _ F1 e1 (Keep.refl k σ) (hm' _ _ rw')
def oApp (l : List D) (d : D) : Option (List D) := if l.length < 100000 then some (l ++ [d]) else none
theorem snds_app {f : M D} (h : Snd K Ee te f) : SndS K Ee k (tDrop (tBM K "list" rAppend (tVar i) (tCons te tNil))) (smut oApp i f) := by
  refine snds_mut h fun p vs l m v d H F e hp rl r ho Q q => ?_
  unfold oApp at ho
  by_cases c : l.length < 100000
  · rw [if_pos c] at ho
    cases ho
    exact ⟨p, vs, v, rfl, rfl, hp, by rw [rl.length]; exact sz_lt c, q _ (rl.append (.one r))⟩
  · rw [if_neg c] at ho
    cases ho
def oExt (l : List D) : D → Option (List D)
  | .list m => if l.length + m.length < 100000 then some (l ++ m) else none
  | _ => none
theorem snds_ext {f : M D} (h : Snd K Ee te f) : SndS K Ee k (tDrop (tBM K "list" rExtend (tVar i) (tCons te tNil))) (smut oExt i f) := by
  refine snds_mut h fun p vs l m v d H F e hp rl r ho Q q => ?_
  unfold oExt at ho
  split at ho
  · rename_i m'
    cases r with
    | @lst b ws _ hb rb =>
    by_cases c : l.length + m'.length < 100000
    · rw [if_pos c] at ho
      cases ho
      exact ⟨p, b, vs, ws, rfl, rfl, hp, e _ _ hb, by rw [rl.length, rb.length]; exact sz_of (by omega), q _ (rl.append rb)⟩
    · rw [if_neg c] at ho
      cases ho
  · cases ho
/-! an index -/
theorem repL_atI {vs : List V} {ds : List D} {z : Int} {d : D} (r : RepL K F vs ds) (h : atI ds z = some d) : ∃ v, atI vs z = some v ∧ Rep K F v d := by
  unfold atI at h ⊢
  rw [r.length]
  cases e : ixN ds.length z with
  | none => rw [e] at h; cases h
  | some j =>
    rw [e] at h
    exact r.get (i := j) h
def asInt : D → Option Int
  | .int z => some z
  | _ => none
theorem asInt_some {d : D} {z : Int} (h : asInt d = some z) : d = .int z := by
  unfold asInt at h
  split at h <;> cases h
  rfl
def asList : D → Option (List D)
  | .list z => some z
  | _ => none
theorem asList_some {d : D} {z : List D} (h : asList d = some z) : d = .list z := by
  unfold asList at h
  split at h <;> cases h
  rfl
def asTup : D → Option (List D)
  | .tuple z => some z
  | _ => none
theorem asTup_some {d : D} {z : List D} (h : asTup d = some z) : d = .tuple z := by
  unfold asTup at h
  split at h <;> cases h
  rfl
def oIxL (a b : D) : Option D := (asList a).bind fun l => (asInt b).bind fun z => atI l z
def oIxT (a b : D) : Option D := (asTup a).bind fun l => (asInt b).bind fun z => atI l z
theorem bind_some {α β : Type} {o : Option α} {k : α → Option β} {b : β} (h : o.bind k = some b) : ∃ a, o = some a ∧ k a = some b := by
  cases o with
  | none => cases h
  | some a => exact ⟨a, rfl, h⟩
theorem ops_ixL : OpS K (rIxL K) oIxL := by
  intro x y a b d H F e ra rb h Q q
  obtain ⟨l, h1, h⟩ := bind_some h
  obtain ⟨z, h2, h⟩ := bind_some h
  rw [asList_some h1] at ra
  rw [asInt_some h2] at rb
  cases ra with
  | @lst p vs _ hp rl =>
  cases rb
  obtain ⟨v, hv, r⟩ := repL_atI rl h
  exact ⟨p, vs, _, v, rfl, rfl, .inl (.inl (e _ _ hp)), hv, q v H F (Grow.refl e) r⟩
theorem ops_ixT : OpS K (rIxT K) oIxT := by
  intro x y a b d H F e ra rb h Q q
  obtain ⟨l, h1, h⟩ := bind_some h
  obtain ⟨z, h2, h⟩ := bind_some h
  rw [asTup_some h1] at ra
  rw [asInt_some h2] at rb
  cases ra with
  | @tup p vs _ hp rl =>
  cases rb
  obtain ⟨v, hv, r⟩ := repL_atI rl h
  exact ⟨p, vs, _, v, rfl, rfl, ex_t e hp, hv, q v H F (Grow.refl e) r⟩
/-- the list that a slot holds, its own or not -/
def slotL (s : SD) (i : Nat) : Option (List D) := match s[i]? with
  | some (some (.ol l)) => some l
  | some (some (.d (.list l))) => some l
  | _ => none
theorem Rel.slotL {l : List D} (R : Rel K B H F (s ++ sx) (σ ++ σx)) (hl : s.length = σ.length) (h : Mir.slotL s i = some l) : ∃ p vs, σ[i]? = some (some (.ref p)) ∧ H p = some (.lst vs) ∧ RepL K F vs l := by
  unfold Mir.slotL at h
  split at h
  · rename_i l' e
    cases h
    have hi := (List.getElem?_eq_some_iff.mp e).1
    obtain ⟨p, vs, hp, hH, rl, _⟩ := R.mutOl (i := i) (l := l) (by rw [List.getElem?_append_left hi]; exact e)
    rw [List.getElem?_append_left (by omega)] at hp
    exact ⟨p, vs, hp, hH, rl⟩
  · rename_i l' e
    cases h
    have hi := (List.getElem?_eq_some_iff.mp e).1
    obtain ⟨v, hv, r⟩ := R.get (i := i) (x := .list l) (by rw [List.getElem?_append_left hi]; exact e)
    rw [List.getElem?_append_left (by omega)] at hv
    cases r with
    | @lst p vs _ hp rl => exact ⟨p, vs, hv, R.exF _ _ hp, rl⟩
  · cases h
/-- xs[e], xs a slot's list, its own or not -/
def mixS (i : Nat) (f : M D) : M D := fun s => (toRs (slotL s i)).bind fun _ => (f s).bind fun r => (toRs (slotL r.2 i)).bind fun l => (toRs (asInt r.1)).bind fun z => lift (atI l z) r.2
theorem snd_ixS {f : M D} (h : Snd K Ee te f) : Snd K Ee (tOp (rIxL K) (tVar i) te) (mixS i f) := by
  intro s σ sx σx B H F hl R Q w
  have w := Post.bind w
  cases h0 : Mir.slotL s i with
  | none => rw [h0] at w; exact w.elim
  | some l0 =>
  rw [h0] at w
  obtain ⟨p, vs, hp, hH, rl⟩ := R.slotL hl h0
  refine ⟨.ref p, hp, ?_⟩
  refine h s σ sx σx B H F hl R _ ?_
  have w : Wish K Ee B F sx σ σx ((f s).bind fun r => (toRs (Mir.slotL r.2 i)).bind fun l => (toRs (asInt r.1)).bind fun z => lift (atI l z) r.2) (fun d H' F' => ∀ v, Rep K F' v d → Q v H') := w
  refine Post.mono w.bind (fun _ q => q) fun r _ q H1 F1 e1 l1 R1 v p1 => ?_
  have q := q H1 F1 e1 l1 R1
  have q := Post.bind q
  cases h1 : Mir.slotL r.2 i with
  | none => rw [h1] at q; exact q.elim
  | some l1' =>
  rw [h1] at q
  have q := Post.bind q
  cases h2 : asInt r.1 with
  | none => rw [h2] at q; exact q.elim
  | some z =>
  rw [h2] at q
  rw [asInt_some h2] at p1
  cases p1
  cases h3 : atI l1' z with
  | none =>
    have q : Wish K Ee B F1 sx σ σx (lift (atI l1' z) r.2) (fun d H' F' => ∀ v, Rep K F' v d → Q v H') := q
    rw [h3] at q
    exact q.elim
  | some d =>
  have q : Wish K Ee B F1 sx σ σx (lift (atI l1' z) r.2) (fun d H' F' => ∀ v, Rep K F' v d → Q v H') := q
  rw [h3] at q
  obtain ⟨p', vs', hp', hH', rl'⟩ := R1.slotL l1 h1
  rw [hp] at hp'
  cases hp'
  obtain ⟨v, hv, rv⟩ := repL_atI rl' h3
  exact ⟨p, vs', z, v, rfl, rfl, .inl (.inl hH'), hv, q.here l1 R1 v rv⟩
/-- a built-in of a slot's list, its own or not: len, list, tuple, sum .. -/
def CallSL (K : PySem.W.Frag) (r : List V → Hp → VK → Prop) (op : List D → Option D) : Prop := ∀ (p : Addr) (vs : List V) (l : List D) (d : D) (H F : Hp), Ex F H → H p = some (.lst vs) → RepL K F vs l → op l = some d →
  ∀ Q : VK, (∀ v H' F', Grow H F H' F' → Rep K F' v d → Q v H') → r [.ref p] H Q
def mcallS (op : List D → Option D) (i : Nat) : M D := fun s => (toRs (slotL s i)).bind fun l => lift (op l) s
theorem snd_callS {r : List V → Hp → VK → Prop} {op : List D → Option D} (hr : CallSL K r op) : Snd K Ee (tCB r (tCons (tVar i) tNil)) (mcallS op i) := by
  intro s σ sx σx B H F hl R Q w
  have w := Post.bind w
  cases h0 : Mir.slotL s i with
  | none => rw [h0] at w; exact w.elim
  | some l0 =>
  rw [h0] at w
  obtain ⟨p, vs, hp, hH, rl⟩ := R.slotL hl h0
  refine ⟨.ref p, hp, ?_⟩
  have w : Wish K Ee B F sx σ σx (lift (op l0) s) (fun d H' F' => ∀ v, Rep K F' v d → Q v H') := w
  cases h1 : op l0 with
  | none => rw [h1] at w; exact w.elim
  | some d =>
  rw [h1] at w
  exact hr p vs l0 d H F R.exF hH rl h1 Q fun v H' F' g r => w.ok g.f hl (R.grown g) v r
def CallSLL (K : PySem.W.Frag) (r : List V → Hp → VK → Prop) (op : List D → Option (List D)) : Prop := ∀ (p : Addr) (vs : List V) (l m : List D) (H F : Hp), Ex F H → H p = some (.lst vs) → RepL K F vs l → op l = some m →
  ∀ Q : VK, (∀ q ws, H q = none → RepL K F ws m → Q (.ref q) (upd H q (.lst ws))) → r [.ref p] H Q
def mcallSL (op : List D → Option (List D)) (i : Nat) : M (List D) := fun s => (toRs (slotL s i)).bind fun l => lift (op l) s
theorem sndl_callS {r : List V → Hp → VK → Prop} {op : List D → Option (List D)} (hr : CallSLL K r op) : SndL K Ee (tCB r (tCons (tVar i) tNil)) (mcallSL op i) := by
  intro s σ sx σx B H F hl R Q w
  have w := Post.bind w
  cases h0 : Mir.slotL s i with
  | none => rw [h0] at w; exact w.elim
  | some l0 =>
  rw [h0] at w
  obtain ⟨p, vs, hp, hH, rl⟩ := R.slotL hl h0
  refine ⟨.ref p, hp, ?_⟩
  cases h1 : op l0 with
  | none =>
    have w : WishL K Ee B F sx σ σx (lift (op l0) s) _ := w
    rw [h1] at w; exact w.elim
  | some m =>
  have w : WishL K Ee B F sx σ σx (lift (op l0) s) _ := w
  rw [h1] at w
  exact hr p vs l0 m H F R.exF hH rl h1 Q fun q ws hq r => w _ F _ (Ex.refl F) hl (R.fresh hl hq r)
/-! xs[i] = e -/
def sput (i : Nat) (f fi : M D) : SD → Rs (Fl × SD) := fun s => (f s).bind fun r => (toRs (ownL r.2 i)).bind fun _ => (fi r.2).bind fun q => (toRs (ownL q.2 i)).bind fun l => (toRs (asInt q.1)).bind fun z => (toRs (ixN l.length z)).bind fun j => .ok (.nx, q.2.set i (some (.ol (l.set j r.1))))
theorem snds_put {ti : TE} {f fi : M D} (h : Snd K Ee te f) (hi : Snd K Ee ti fi) : SndS K Ee k (tAsg te (gSub (tVar i) ti rSetL)) (sput i f fi) := by
  intro s σ B H F R Dn w
  refine h s σ [] [] B H F R.len R.nil _ ?_
  refine Post.mono (Post.bind w) (fun _ q => q) fun r _ q H1 F1 e1 l1 R1 v p1 => ?_
  have q := Post.bind q
  cases h0 : ownL r.2 i with
  | none => rw [h0] at q; exact q.elim
  | some l0 =>
  rw [h0] at q
  obtain ⟨p, vs, hp, hH, rl, _⟩ := R1.unnil.mutOl (ownL_some h0)
  refine ⟨.ref p, hp, ?_⟩
  refine hi r.2 σ [] [] B H1 F1 l1 R1 _ ?_
  refine Post.mono (Post.bind q) (fun _ q H' F' n => q H' F' (n.ahead e1)) fun r2 _ q H2 F2 e2 l2 R2 y p2 => ?_
  have q := Post.bind q
  cases h1 : ownL r2.2 i with
  | none => rw [h1] at q; exact q.elim
  | some l1' =>
  rw [h1] at q
  have q := Post.bind q
  cases h2 : asInt r2.1 with
  | none => rw [h2] at q; exact q.elim
  | some z =>
  rw [h2] at q
  rw [asInt_some h2] at p2
  cases p2
  have q := Post.bind q
  cases h3 : ixN l1'.length z with
  | none => rw [h3] at q; exact q.elim
  | some j =>
  rw [h3] at q
  obtain ⟨p', vs', hp', hH', rl', hF', hB', hm'⟩ := R2.unnil.mutOl (ownL_some h1)
  rw [hp] at hp'
  cases hp'
  refine ⟨p, vs', z, j, rfl, rfl, hH', by rw [rl'.length]; exact h3, ?_⟩
  exact q σ _ F2 (e1.trans e2) (Keep.refl k σ) (hm' _ _ (rl'.set j (p1.mono e2)))
/-! x += e -/
def asInt2 (g : Int → Int → Int) (a b : D) : Option D := (asInt a).bind fun i => (asInt b).bind fun j => some (.int (g i j))
def saug (g : Int → Int → Int) (i : Nat) (f : M D) : SD → Rs (Fl × SD) := fun s => match s[i]? with
  | some (some (.d x)) => (f s).bind fun r => (toRs (asInt2 g x r.1)).bind fun z => .ok (.nx, r.2.set i (some (.d z)))
  | _ => .bad
theorem snds_aug {g : Int → Int → Int} {f : M D} (h : Snd K Ee te f) (hk : k ≤ i) : SndS K Ee k (tAug i te (ipI g)) (saug g i f) := by
  intro s σ B H F R Dn w
  unfold saug at w
  split at w
  · rename_i x hx
    obtain ⟨v, hv, rv⟩ := R.get hx
    refine ⟨v, hv, ?_⟩
    refine h s σ [] [] B H F R.len R.nil _ ?_
    refine Post.mono (Post.bind w) (fun _ q => q) fun r _ q H1 F1 e1 l1 R1 y p1 => ?_
    have q := Post.bind q
    cases h0 : asInt2 g x r.1 with
    | none => rw [h0] at q; exact q.elim
    | some z =>
    rw [h0] at q
    obtain ⟨a, ha, h0⟩ := bind_some h0
    obtain ⟨b, hb, h0⟩ := bind_some h0
    cases h0
    rw [asInt_some ha] at rv
    rw [asInt_some hb] at p1
    cases rv
    cases p1
    exact ⟨a, b, rfl, rfl, q _ H1 F1 e1 (Keep.set hk) (R1.unnil.setD (.int _))⟩
  · exact w.elim
end
end Mir
namespace Mir
open PySem L2 Evl
section
variable {K : PySem.W.Frag} {Ee : EEs} {B H F H' F' F1 : Hp} {s sx s' s1 : SD} {σ σ' σx : L2.St} {te ta tb : TE} {k : Nat} {tt tu : TT} {ts tr : TS} {i j : Nat}
/-! ### data for the deep operations -/
mutual
theorem Rep.dp {v : V} {d : D} (e : Ex F H) (h : Rep K F v d) (c : d.canLay0 = true) : Dp K H v d := by
  cases h with
  | non => exact .non
  | bl b => exact .bl b
  | int i => exact .int i
  | str x => exact .str x
  | lst a b => exact .lst (.inl (.inl (e _ _ a))) (RepL.dp e b (by simpa [PyData.canLay0] using c))
  | tup a b => exact .tup (ex_t e a) (RepL.dp e b (by simpa [PyData.canLay0] using c))
  | dic a b => simp [PyData.canLay0] at c
theorem RepL.dp {vs : List V} {ds : List D} (e : Ex F H) (h : RepL K F vs ds) (c : PyData.canLayAll0 ds = true) : DpAll K H vs ds := by
  cases h with
  | nil => exact .nil
  | @cons v d vs ds a b =>
    have c' : d.canLay0 = true ∧ PyData.canLayAll0 ds = true := by simpa [PyData.canLayAll0] using c
    exact .cons (Rep.dp e a c'.1) (RepL.dp e b c'.2)
end
theorem shaped_lay {d : D} (h : SeqAt.shaped d = true) : d.canLay0 = true := by
  unfold SeqAt.shaped at h
  rw [Bool.and_eq_true] at h
  exact h.1
/-! ### operations on numbers -/
def o2I (g : Int → Int → D) (a b : D) : Option D := (asInt a).bind fun i => (asInt b).bind fun j => some (g i j)
theorem ops_I0 {g : Int → Int → V} {gd : Int → Int → D} (h : ∀ i j F, Rep K F (g i j) (gd i j)) : OpS K (rI0 g) (o2I gd) := by
  intro x y a b d H F e ra rb ho Q q
  obtain ⟨m, h1, ho⟩ := bind_some ho
  obtain ⟨n, h2, ho⟩ := bind_some ho
  cases ho
  rw [asInt_some h1] at ra
  rw [asInt_some h2] at rb
  cases ra
  cases rb
  exact ⟨m, n, rfl, rfl, q _ H F (Grow.refl e) (h m n F)⟩
def o2IC (c : Int → Int → Bool) (g : Int → Int → D) (a b : D) : Option D := (asInt a).bind fun i => (asInt b).bind fun j => if c i j = true then some (g i j) else none
theorem ops_I {C : Int → Int → Prop} {c : Int → Int → Bool} {g : Int → Int → V} {gd : Int → Int → D} (h : ∀ i j F, Rep K F (g i j) (gd i j)) (hc : ∀ i j, c i j = true → C i j) : OpS K (rI C g) (o2IC c gd) := by
  intro x y a b d H F e ra rb ho Q q
  obtain ⟨m, h1, ho⟩ := bind_some ho
  obtain ⟨n, h2, ho⟩ := bind_some ho
  by_cases cc : c m n = true
  · rw [if_pos cc] at ho
    cases ho
    rw [asInt_some h1] at ra
    rw [asInt_some h2] at rb
    cases ra
    cases rb
    exact ⟨m, n, rfl, rfl, hc m n cc, q _ H F (Grow.refl e) (h m n F)⟩
  · rw [if_neg cc] at ho
    cases ho
def oAdd := o2I fun i j => .int (i + j)
def oSub := o2I fun i j => .int (i - j)
def cMul (i j : Int) : Bool := decide ((-(2 ^ 64) < i ∧ i < 2 ^ 64) ∨ (-(2 ^ 64) < j ∧ j < 2 ^ 64))
def oMul := o2IC cMul fun i j => .int (i * j)
def cDiv (_ j : Int) : Bool := decide (0 < j ∧ j < 1073741824)
def oDiv := o2IC cDiv fun i j => .int (i / j)
def cMod (_ j : Int) : Bool := decide (0 < j)
def oMod := o2IC cMod fun i j => .int (i % j)
def cPow (i j : Int) : Bool := decide (0 ≤ j ∧ j ≤ 1000 ∧ i.natAbs < 2 ^ 64)
def oPow := o2IC cPow fun i j => .int (i ^ j.toNat)
def oLt := o2I fun i j => .bool (decide (i < j))
def oLe := o2I fun i j => .bool (decide (i ≤ j))
def oGt := o2I fun i j => .bool (decide (j < i))
def oGe := o2I fun i j => .bool (decide (j ≤ i))
theorem ops_add : OpS K (rI0 fun i j => .int (i + j)) oAdd := ops_I0 fun _ _ _ => .int _
theorem ops_sub : OpS K (rI0 fun i j => .int (i - j)) oSub := ops_I0 fun _ _ _ => .int _
theorem ops_lt : OpS K (rI0 fun i j => .bl (decide (i < j))) oLt := ops_I0 fun _ _ _ => .bl _
theorem ops_le : OpS K (rI0 fun i j => .bl (decide (i ≤ j))) oLe := ops_I0 fun _ _ _ => .bl _
theorem ops_gt : OpS K (rI0 fun i j => .bl (decide (j < i))) oGt := ops_I0 fun _ _ _ => .bl _
theorem ops_ge : OpS K (rI0 fun i j => .bl (decide (j ≤ i))) oGe := ops_I0 fun _ _ _ => .bl _
theorem ops_mul : OpS K (rI CMul fun i j => .int (i * j)) oMul := ops_I (fun _ _ _ => .int _) fun i j h => by
  have h := of_decide_eq_true h
  exact h
theorem ops_div : OpS K (rI CDivN fun i j => .int (i.fdiv j)) oDiv := by
  have e : OpS K (rI CDivN fun i j => .int (i.fdiv j)) (o2IC cDiv fun i j => .int (i.fdiv j)) := ops_I (fun _ _ _ => .int _) fun i j h => by
    have h := of_decide_eq_true h
    exact ⟨by omega, by omega⟩
  intro x y a b d H F ex ra rb ho
  refine e x y a b d H F ex ra rb ?_
  obtain ⟨m, h1, ho⟩ := bind_some ho
  obtain ⟨n, h2, ho⟩ := bind_some ho
  unfold o2IC
  rw [h1, h2]
  show (if cDiv m n = true then _ else none) = some d
  by_cases c : cDiv m n = true
  · rw [if_pos c] at ho ⊢
    have c' := of_decide_eq_true c
    show some (PyData.int (m.fdiv n)) = some d
    rw [Int.fdiv_eq_ediv_of_nonneg _ (by omega)]
    exact ho
  · rw [if_neg c] at ho
    cases ho
theorem ops_mod : OpS K (rI (fun _ j => j ≠ 0) fun i j => .int (i.fmod j)) oMod := by
  have e : OpS K (rI (fun _ j => j ≠ 0) fun i j => .int (i.fmod j)) (o2IC cMod fun i j => .int (i.fmod j)) := ops_I (fun _ _ _ => .int _) fun i j h => by
    have h := of_decide_eq_true h
    show j ≠ 0
    omega
  intro x y a b d H F ex ra rb ho
  refine e x y a b d H F ex ra rb ?_
  obtain ⟨m, h1, ho⟩ := bind_some ho
  obtain ⟨n, h2, ho⟩ := bind_some ho
  unfold o2IC
  rw [h1, h2]
  show (if cMod m n = true then _ else none) = some d
  by_cases c : cMod m n = true
  · rw [if_pos c] at ho ⊢
    have c' := of_decide_eq_true c
    show some (PyData.int (m.fmod n)) = some d
    rw [Int.fmod_eq_emod_of_nonneg _ (by omega)]
    exact ho
  · rw [if_neg c] at ho
    cases ho
theorem ops_pow : OpS K (rI CPow fun i j => .int (i ^ j.toNat)) oPow := ops_I (fun _ _ _ => .int _) fun i j h => by
  have h := of_decide_eq_true h
  exact ⟨h.1, by omega, h.2.2⟩
def mun (op : D → Option D) (f : M D) : M D := fun s => (f s).bind fun r => lift (op r.1) r.2
def UnS (K : PySem.W.Frag) (r : V → Hp → VK → Prop) (op : D → Option D) : Prop := ∀ (x : V) (a d : D) (H F : Hp), Ex F H → Rep K F x a → op a = some d → ∀ Q : VK, (∀ v H' F', Grow H F H' F' → Rep K F' v d → Q v H') → r x H Q
theorem snd_un {r : V → Hp → VK → Prop} {op : D → Option D} {f : M D} (ha : Snd K Ee ta f) (hr : UnS K r op) : Snd K Ee (tUn r ta) (mun op f) := by
  intro s σ sx σx B H F hl R Q w
  refine ha s σ sx σx B H F hl R _ ?_
  refine Post.mono w.bind (fun _ q => q) fun r1 _ q H1 F1 e1 l1 R1 v1 p1 => ?_
  have q := q H1 F1 e1 l1 R1
  cases ho : op r1.1 with
  | none => rw [ho] at q; exact q.elim
  | some d =>
    rw [ho] at q
    exact hr v1 r1.1 d H1 F1 R1.exF p1 ho Q fun v H3 F3 g r => q.ok g.f l1 (R1.grown g) v r
def oNeg (a : D) : Option D := (asInt a).bind fun i => some (.int (-i))
theorem uns_neg : UnS K (rU fun i => .int (-i)) oNeg := by
  intro x a d H F e ra ho Q q
  obtain ⟨m, h1, ho⟩ := bind_some ho
  cases ho
  rw [asInt_some h1] at ra
  cases ra
  exact ⟨m, rfl, q _ H F (Grow.refl e) (.int _)⟩
/-! ### == and != -/
def oEq (a b : D) : Option D := if SeqAt.shaped a = true then if SeqAt.shaped b = true then some (.bool (a.eqv b)) else none else none
def oNe (a b : D) : Option D := if SeqAt.shaped a = true then if SeqAt.shaped b = true then some (.bool (!a.eqv b)) else none else none
theorem ops_eq : OpS K (rEqD K) oEq := by
  intro x y a b d H F e ra rb ho Q q
  unfold oEq at ho
  by_cases c1 : SeqAt.shaped a = true
  · by_cases c2 : SeqAt.shaped b = true
    · rw [if_pos c1, if_pos c2] at ho
      cases ho
      exact ⟨a, b, ra.dp e (shaped_lay c1), rb.dp e (shaped_lay c2), c1, c2, q _ H F (Grow.refl e) (.bl _)⟩
    · rw [if_pos c1, if_neg c2] at ho; cases ho
  · rw [if_neg c1] at ho; cases ho
theorem ops_ne : OpS K (rNeD K) oNe := by
  intro x y a b d H F e ra rb ho Q q
  unfold oNe at ho
  by_cases c1 : SeqAt.shaped a = true
  · by_cases c2 : SeqAt.shaped b = true
    · rw [if_pos c1, if_pos c2] at ho
      cases ho
      exact ⟨a, b, ra.dp e (shaped_lay c1), rb.dp e (shaped_lay c2), c1, c2, q _ H F (Grow.refl e) (.bl _)⟩
    · rw [if_pos c1, if_neg c2] at ho; cases ho
  · rw [if_neg c1] at ho; cases ho
/-! ### is None -/
def isNone : D → Bool
  | .none => true
  | _ => false
theorem Rep.isNone {v : V} {d : D} (h : Rep K F v d) : decide (v = .non) = Mir.isNone d := by
  cases h <;> rfl
def oIsN (a b : D) : Option D := if isNone b = true then some (.bool (isNone a)) else none
def oNotN (a b : D) : Option D := if isNone b = true then some (.bool (!isNone a)) else none
theorem ops_isN : OpS K (fun x y H Q => y = .non ∧ Q (.bl (decide (x = .non))) H) oIsN := by
  intro x y a b d H F e ra rb ho Q q
  unfold oIsN at ho
  by_cases c : Mir.isNone b = true
  · rw [if_pos c] at ho
    cases ho
    refine ⟨?_, ?_⟩
    · rw [← rb.isNone] at c
      exact of_decide_eq_true c
    · rw [ra.isNone]
      exact q _ H F (Grow.refl e) (.bl _)
  · rw [if_neg c] at ho; cases ho
theorem ops_notN : OpS K (fun x y H Q => y = .non ∧ Q (.bl (!decide (x = .non))) H) oNotN := by
  intro x y a b d H F e ra rb ho Q q
  unfold oNotN at ho
  by_cases c : Mir.isNone b = true
  · rw [if_pos c] at ho
    cases ho
    refine ⟨?_, ?_⟩
    · rw [← rb.isNone] at c
      exact of_decide_eq_true c
    · rw [ra.isNone]
      exact q _ H F (Grow.refl e) (.bl _)
  · rw [if_neg c] at ho; cases ho
/-! ### is True, is False -/
def asBool : D → Option Bool
  | .bool z => some z
  | _ => none
theorem asBool_some {d : D} {z : Bool} (h : asBool d = some z) : d = .bool z := by
  unfold asBool at h
  split at h <;> cases h
  rfl
def oIsB (a b : D) : Option D := (asBool a).bind fun i => (asBool b).bind fun j => some (.bool (decide (i = j)))
def oNotB (a b : D) : Option D := (asBool a).bind fun i => (asBool b).bind fun j => some (.bool (!decide (i = j)))
theorem ops_isB : OpS K rIsB oIsB := by
  intro x y a b d H F e ra rb ho Q q
  obtain ⟨m, h1, ho⟩ := bind_some ho
  obtain ⟨n, h2, ho⟩ := bind_some ho
  cases ho
  rw [asBool_some h1] at ra
  rw [asBool_some h2] at rb
  cases ra
  cases rb
  exact ⟨m, n, rfl, rfl, q _ H F (Grow.refl e) (.bl _)⟩
theorem ops_notB : OpS K rNotB oNotB := by
  intro x y a b d H F e ra rb ho Q q
  obtain ⟨m, h1, ho⟩ := bind_some ho
  obtain ⟨n, h2, ho⟩ := bind_some ho
  cases ho
  rw [asBool_some h1] at ra
  rw [asBool_some h2] at rb
  cases ra
  cases rb
  exact ⟨m, n, rfl, rfl, q _ H F (Grow.refl e) (.bl _)⟩
/-! ### in, not in: flat data in a list or a tuple of flat data -/
def flatD : D → Bool
  | .none => true
  | .bool _ => true
  | .int _ => true
  | .str _ => true
  | _ => false
theorem Rep.flat {v : V} {d : D} (h : Rep K F v d) (c : flatD d = true) : flatV v = true := by
  cases h <;> first | rfl | cases c
theorem RepL.flat : ∀ {vs : List V} {ds : List D}, RepL K F vs ds → ds.all flatD = true → vs.all flatV = true
  | _, _, .nil, _ => rfl
  | _, _, .cons a b, c => by
    rw [List.all_cons, Bool.and_eq_true] at c
    rw [List.all_cons, Bool.and_eq_true]
    exact ⟨a.flat c.1, RepL.flat b c.2⟩
def eqF : D → D → Bool
  | .none, .none => true
  | .bool a, .bool b => a == b
  | .bool a, .int b => (if a then (1 : Int) else 0) == b
  | .int a, .bool b => a == (if b then (1 : Int) else 0)
  | .int a, .int b => a == b
  | .str a, .str b => a == b
  | _, _ => false
theorem Rep.eqF {v w : V} {d e : D} (h : Rep K F v d) (h' : Rep K F w e) (c : flatD d = true) (c' : flatD e = true) : eqV v w = Mir.eqF d e := by
  cases h <;> cases h' <;> first | rfl | cases c | cases c'
theorem RepL.inV {v : V} {d : D} (h : Rep K F v d) (c : flatD d = true) : ∀ {vs : List V} {ds : List D}, RepL K F vs ds → ds.all flatD = true → L2.inV v vs = ds.any fun z => Mir.eqF z d
  | _, _, .nil, _ => rfl
  | _, _, .cons a b, q => by
    rw [List.all_cons, Bool.and_eq_true] at q
    have ih := RepL.inV h c b q.2
    show (eqV _ v || _) = (Mir.eqF _ d || _)
    rw [a.eqF h q.1 c]
    exact congrArg _ ih
def asSeq : D → Option (List D)
  | .list z => some z
  | .tuple z => some z
  | _ => none
def oIn (neg : Bool) (a b : D) : Option D := if flatD a = true then (asSeq b).bind fun l => if l.all flatD = true then some (.bool (if neg then !(l.any fun z => eqF z a) else l.any fun z => eqF z a)) else none else none
theorem Rep.seq {v : V} {d : D} {l : List D} (e : Ex F H) (h : Rep K F v d) (c : asSeq d = some l) : ∃ p vs, v = .ref p ∧ (SqL K H p vs ∨ SqT K H p vs) ∧ RepL K F vs l := by
  cases h with
  | lst a b => cases c; exact ⟨_, _, rfl, .inl (.inl (.inl (e _ _ a))), b⟩
  | tup a b => cases c; exact ⟨_, _, rfl, .inr (ex_t e a), b⟩
  | non => cases c
  | bl _ => cases c
  | int _ => cases c
  | str _ => cases c
  | dic _ _ => cases c
theorem ops_in {neg : Bool} : OpS K (rIn K neg) (oIn neg) := by
  intro x y a b d H F e ra rb ho Q q
  unfold oIn at ho
  by_cases c1 : flatD a = true
  · rw [if_pos c1] at ho
    obtain ⟨l, h1, ho⟩ := bind_some ho
    by_cases c2 : l.all flatD = true
    · rw [if_pos c2] at ho
      cases ho
      obtain ⟨p, vs, rfl, hs, rl⟩ := rb.seq e h1
      refine ⟨p, vs, rfl, hs, ra.flat c1, rl.flat c2, ?_⟩
      rw [rl.inV ra c1 c2]
      exact q _ H F (Grow.refl e) (.bl _)
    · rw [if_neg c2] at ho; cases ho
  · rw [if_neg c1] at ho; cases ho
/-! ### + of tuples, of lists; * of a list; slices -/
def oCatT (a b : D) : Option D := (asTup a).bind fun l => (asTup b).bind fun m => if l.length + m.length ≤ 100000 then some (.tuple (l ++ m)) else none
theorem ops_catT : OpS K (rCatA K) oCatT := by
  intro x y a b d H F e ra rb ho Q q
  obtain ⟨l, h1, ho⟩ := bind_some ho
  obtain ⟨m, h2, ho⟩ := bind_some ho
  by_cases c : l.length + m.length ≤ 100000
  · rw [if_pos c] at ho
    cases ho
    rw [asTup_some h1] at ra
    rw [asTup_some h2] at rb
    have ra0 := ra
    have rb0 := rb
    cases ra with
    | @tup p vs _ hp rl =>
    cases rb with
    | @tup p' ws _ hp' rl' =>
    refine ⟨p, p', vs, ws, rfl, rfl, ex_t e hp, ex_t e hp', by rw [rl.length, rl'.length]; exact sz_of c, fun z => ?_, fun _ z => ?_, fun _ _ t ht => ?_⟩
    · subst z
      cases rl
      exact q _ H F (Grow.refl e) rb0
    · subst z
      cases rl'
      rw [List.append_nil] at q
      exact q _ H F (Grow.refl e) ra0
    · have g : Grow H F (upd H t (.tup (vs ++ ws))) (upd F t (.tup (vs ++ ws))) := Grow.new1 e ht
      exact q _ _ _ g (.tup (.inl (.inl upd_same)) ((rl.append rl').mono g.f))
  · rw [if_neg c] at ho; cases ho
/-- an operation that makes a new list -/
def OpL (K : PySem.W.Frag) (r : R2) (op : D → D → Option (List D)) : Prop := ∀ (x y : V) (a b : D) (l : List D) (H F : Hp), Ex F H → Rep K F x a → Rep K F y b → op a b = some l →
  ∀ Q : VK, (∀ p ws, H p = none → RepL K F ws l → Q (.ref p) (upd H p (.lst ws))) → r x y H Q
def mopL (op : D → D → Option (List D)) (f g : M D) : M (List D) := fun s => (f s).bind fun r1 => (g r1.2).bind fun r2 => lift (op r1.1 r2.1) r2.2
theorem sndl_op {r : R2} {op : D → D → Option (List D)} {f g : M D} (ha : Snd K Ee ta f) (hb : Snd K Ee tb g) (hr : OpL K r op) : SndL K Ee (tOp r ta tb) (mopL op f g) := by
  intro s σ sx σx B H F hl R Q w
  refine ha s σ sx σx B H F hl R _ ?_
  refine Post.mono w.of_bind (fun _ q => q) fun r1 _ q H1 F1 e1 l1 R1 v1 p1 => ?_
  have q := q H1 F1 e1 l1 R1
  refine hb _ σ sx σx B H1 F1 l1 R1 _ ?_
  refine Post.mono q.of_bind (fun _ q => q) fun r2 _ q H2 F2 e2 l2 R2 v2 p2 => ?_
  have q := q H2 F2 e2 l2 R2
  cases ho : op r1.1 r2.1 with
  | none => rw [ho] at q; exact q.elim
  | some l =>
    rw [ho] at q
    exact hr v1 v2 r1.1 r2.1 l H2 F2 R2.exF (p1.mono e2) p2 ho Q fun p ws hp r => q _ F2 _ (Ex.refl F2) l2 (R2.fresh l2 hp r)
def oCat (a b : D) : Option (List D) := (asList a).bind fun l => (asList b).bind fun m => if l.length + m.length ≤ 100000 then some (l ++ m) else none
theorem opl_cat : OpL K rCat oCat := by
  intro x y a b d H F e ra rb ho Q q
  obtain ⟨l, h1, ho⟩ := bind_some ho
  obtain ⟨m, h2, ho⟩ := bind_some ho
  by_cases c : l.length + m.length ≤ 100000
  · rw [if_pos c] at ho
    cases ho
    rw [asList_some h1] at ra
    rw [asList_some h2] at rb
    cases ra with
    | @lst p vs _ hp rl =>
    cases rb with
    | @lst p' ws _ hp' rl' =>
    exact ⟨p, p', vs, ws, rfl, rfl, e _ _ hp, e _ _ hp', by rw [rl.length, rl'.length]; exact sz_of c, fun t ht => q t _ ht (rl.append rl')⟩
  · rw [if_neg c] at ho; cases ho
theorem RepL.rep {vs : List V} {ds : List D} (h : RepL K F vs ds) : ∀ n, RepL K F (List.replicate n vs).flatten (List.replicate n ds).flatten
  | 0 => .nil
  | n + 1 => by
    rw [List.replicate_succ, List.replicate_succ, List.flatten_cons, List.flatten_cons]
    exact h.append (RepL.rep h n)
def oRep (a b : D) : Option (List D) := (asList a).bind fun l => (asInt b).bind fun m => if m < 100000 ∧ -100000 < m ∧ l.length * m.toNat ≤ 100000 then some (List.replicate m.toNat l).flatten else none
theorem opl_rep : OpL K rRep oRep := by
  intro x y a b d H F e ra rb ho Q q
  obtain ⟨l, h1, ho⟩ := bind_some ho
  obtain ⟨m, h2, ho⟩ := bind_some ho
  by_cases c : m < 100000 ∧ -100000 < m ∧ l.length * m.toNat ≤ 100000
  · rw [if_pos c] at ho
    cases ho
    rw [asList_some h1] at ra
    rw [asInt_some h2] at rb
    cases ra with
    | @lst p vs _ hp rl =>
    cases rb
    exact ⟨p, m, vs, rfl, rfl, e _ _ hp, by omega, by omega, by rw [rl.length]; exact sz_of c.2.2, fun t ht => q t _ ht (rl.rep _)⟩
  · rw [if_neg c] at ho; cases ho
/-! slices -/
def SndO (K : PySem.W.Frag) (Ee : EEs) (to : TO) (f : M (Option Int)) : Prop := ∀ (s : SD) (σ : L2.St) (sx : SD) (σx : L2.St) (B H F : Hp), s.length = σ.length → Rel K B H F (s ++ sx) (σ ++ σx) →
  ∀ Q : Option Int → Hp → Prop, Wish K Ee B F sx σ σx (f s) (fun b H' F' => Q b H') → to σ H Q
def mnopart : M (Option Int) := fun s => .ok (none, s)
theorem sndo_none : SndO K Ee tNoPart mnopart := by
  intro s σ sx σx B H F hl R Q w
  exact w.here hl R
def mpart (f : M D) : M (Option Int) := fun s => (f s).bind fun r => (toRs (asInt r.1)).bind fun z => .ok (some z, r.2)
theorem sndo_some {f : M D} (h : Snd K Ee te f) : SndO K Ee (tPart te) (mpart f) := by
  intro s σ sx σx B H F hl R Q w
  refine h s σ sx σx B H F hl R _ ?_
  refine Post.mono w.bind (fun _ q => q) fun r _ q H1 F1 e1 l1 R1 v p => ?_
  have q := Post.bind (q H1 F1 e1 l1 R1)
  cases h2 : asInt r.1 with
  | none => rw [h2] at q; exact q.elim
  | some z =>
  rw [h2] at q
  rw [asInt_some h2] at p
  cases p
  exact ⟨z, rfl, q H1 F1 (Ex.refl F1) l1 R1⟩
def cutD (xs : List D) (lo hi : Option Int) : List D := List.take (HT.sIx xs.length xs.length hi - HT.sIx xs.length 0 lo) (List.drop (HT.sIx xs.length 0 lo) xs)
theorem RepL.cut {vs : List V} {ds : List D} (h : RepL K F vs ds) (lo hi : Option Int) : RepL K F (cutV vs lo hi) (cutD ds lo hi) := by
  unfold cutV cutD
  rw [h.length]
  exact (h.drop _).take _
def mslT (f : M D) (g h : M (Option Int)) : M D := fun s => (f s).bind fun r => (g r.2).bind fun r1 => (h r1.2).bind fun r2 => (toRs (asTup r.1)).bind fun l => .ok (.tuple (cutD l r1.1 r2.1), r2.2)
theorem snd_slT {tl th : TO} {f : M D} {g h : M (Option Int)} (h1 : Snd K Ee te f) (h2 : SndO K Ee tl g) (h3 : SndO K Ee th h) : Snd K Ee (tSl (rSlA K) te tl th) (mslT f g h) := by
  intro s σ sx σx B H F hl R Q w
  refine h1 s σ sx σx B H F hl R _ ?_
  refine Post.mono w.bind (fun _ q => q) fun r _ q H1 F1 e1 l1 R1 v p => ?_
  refine h2 r.2 σ sx σx B H1 F1 l1 R1 _ ?_
  refine Post.mono (q H1 F1 e1 l1 R1).bind (fun _ q => q) fun r2 _ q H2 F2 e2 l2 R2 => ?_
  refine h3 r2.2 σ sx σx B H2 F2 l2 R2 _ ?_
  refine Post.mono (q H2 F2 e2 l2 R2).bind (fun _ q => q) fun r3 _ q H3 F3 e3 l3 R3 => ?_
  have q := Post.bind (q H3 F3 e3 l3 R3)
  cases h0 : asTup r.1 with
  | none => rw [h0] at q; exact q.elim
  | some l =>
  rw [h0] at q
  rw [asTup_some h0] at p
  have p' := (p.mono e2).mono e3
  have q : ∀ H' F', Ex F3 F' → r3.2.length = σ.length → Rel K B H' F' (r3.2 ++ sx) (σ ++ σx) → ∀ v, Rep K F' v (.tuple (cutD l r2.1 r3.1)) → Q v H' := q
  have p'' := p'
  cases p' with
  | @tup a vs _ hp rl =>
  refine ⟨a, vs, rfl, ex_t R3.exF hp, fun z => ?_, fun _ t ht => ?_⟩
  · have e : cutD l r2.1 r3.1 = l := by
      unfold cutD
      rw [← rl.length, z.1, z.2]
      show List.take vs.length l = l
      rw [rl.length]
      exact List.take_length
    rw [e] at q
    exact q H3 F3 (Ex.refl F3) l3 R3 _ p''
  · have g : Grow H3 F3 (upd H3 t (.tup (cutV vs r2.1 r3.1))) (upd F3 t (.tup (cutV vs r2.1 r3.1))) := Grow.new1 R3.exF ht
    exact q _ _ g.f l3 (R3.grown g) _ (.tup (.inl (.inl upd_same)) ((rl.cut _ _).mono g.f))
def mslL (f : M D) (g h : M (Option Int)) : M (List D) := fun s => (f s).bind fun r => (g r.2).bind fun r1 => (h r1.2).bind fun r2 => (toRs (asList r.1)).bind fun l => .ok (cutD l r1.1 r2.1, r2.2)
theorem sndl_slL {tl th : TO} {f : M D} {g h : M (Option Int)} (h1 : Snd K Ee te f) (h2 : SndO K Ee tl g) (h3 : SndO K Ee th h) : SndL K Ee (tSl (rSlL K) te tl th) (mslL f g h) := by
  intro s σ sx σx B H F hl R Q w
  refine h1 s σ sx σx B H F hl R _ ?_
  refine Post.mono w.of_bind (fun _ q => q) fun r _ q H1 F1 e1 l1 R1 v p => ?_
  refine h2 r.2 σ sx σx B H1 F1 l1 R1 _ ?_
  refine Post.mono (q H1 F1 e1 l1 R1).of_bind (fun _ q => q) fun r2 _ q H2 F2 e2 l2 R2 => ?_
  refine h3 r2.2 σ sx σx B H2 F2 l2 R2 _ ?_
  refine Post.mono (q H2 F2 e2 l2 R2).of_bind (fun _ q => q) fun r3 _ q H3 F3 e3 l3 R3 => ?_
  have q := Post.bind (q H3 F3 e3 l3 R3)
  cases h0 : asList r.1 with
  | none => rw [h0] at q; exact q.elim
  | some l =>
  rw [h0] at q
  rw [asList_some h0] at p
  have p' := (p.mono e2).mono e3
  cases p' with
  | @lst a vs _ hp rl =>
  exact ⟨a, vs, rfl, .inl (.inl (R3.exF _ _ hp)), fun t ht => q _ F3 _ (Ex.refl F3) l3 (R3.fresh l3 ht (rl.cut _ _))⟩
end
end Mir
namespace Mir
open PySem L2 Evl
inductive Ty6 where
  | int | bool | str | tup | lst | dct
  deriving DecidableEq
def Ty6.name : Ty6 → String
  | .int => "int"
  | .bool => "bool"
  | .str => "str"
  | .tup => "tuple"
  | .lst => "list"
  | .dct => "dict"
def tyD : D → String
  | .none => "NoneType"
  | .bool _ => "bool"
  | .int _ => "int"
  | .str _ => "str"
  | .list _ => "list"
  | .tuple _ => "tuple"
  | .dict _ => "dict"
def isT : Ty6 → D → Bool
  | .int, .int _ => true
  | .int, .bool _ => true
  | .bool, .bool _ => true
  | .str, .str _ => true
  | .tup, .tuple _ => true
  | .lst, .list _ => true
  | .dct, .dict _ => true
  | _, _ => false
inductive Tk where
  | non | bool | int | str | lst | tup | dct
def tk : D → Tk
  | .none => .non
  | .bool _ => .bool
  | .int _ => .int
  | .str _ => .str
  | .list _ => .lst
  | .tuple _ => .tup
  | .dict _ => .dct
def Tk.name : Tk → String
  | .non => "NoneType"
  | .bool => "bool"
  | .int => "int"
  | .str => "str"
  | .lst => "list"
  | .tup => "tuple"
  | .dct => "dict"
def isK : Ty6 → Tk → Bool
  | .int, .int => true
  | .int, .bool => true
  | .bool, .bool => true
  | .str, .str => true
  | .tup, .tup => true
  | .lst, .lst => true
  | .dct, .dct => true
  | _, _ => false
theorem kit_isK (T : Ty6) (k : Tk) : kitB k.name T.name = some (isK T k) := by
  cases k <;> cases T <;> decide +kernel
theorem kit_isT (T : Ty6) (d : D) : kitB (tyD d) T.name = some (isT T d) := by
  have h1 : tyD d = (tk d).name := by cases d <;> rfl
  have h2 : isT T d = isK T (tk d) := by cases d <;> cases T <;> rfl
  rw [h1, h2]
  exact kit_isK T (tk d)
section
variable {K : PySem.W.Frag} {Ee : EEs} {B H F H' F' F1 : Hp} {s sx s' s1 : SD} {σ σ' σx : L2.St} {te ta tb ti tj : TE} {k : Nat} {tt tu : TT} {ts tr : TS} {i j x : Nat}
theorem Rep.tyx {v : V} {d : D} (e : Ex F H) (h : Rep K F v d) : TyX K H v (.type (tyD d)) := by
  cases h with
  | non => exact .base .non
  | bl b => exact .base (.bl b)
  | int i => exact .base (.int i)
  | str y => exact .base (.str y)
  | lst a b => exact .base (.lst (e _ _ a))
  | tup a b =>
    rcases a with (a | ⟨o, a⟩) | ⟨o, its, n, h1, h2, _⟩
    · exact .base (.tup (e _ _ a))
    · exact .fTuple (e _ _ a)
    · exact .kTuple h1 h2
  | dic a b => exact .base (.dK (e _ _ a))
/-- isinstance(e, T) -/
theorem snd_isi {f : M D} (T : Ty6) (h : Snd K Ee te f) : Snd K Ee (tCB (rIsi K) (tCons te (tCons (tC (.ty T.name)) tNil))) (mun (fun d => some (.bool (isT T d))) f) := by
  intro s σ sx σx B H F hl R Q w
  refine h s σ sx σx B H F hl R _ ?_
  refine Post.mono w.bind (fun _ q => q) fun r1 _ q H1 F1 e1 l1 R1 v1 p1 => ?_
  have q := q H1 F1 e1 l1 R1
  exact ⟨v1, .ty T.name, .type (tyD r1.1), .type T.name, isT T r1.1, rfl, .ty _, p1.tyx R1.exF, kit_ty (kit_isT T r1.1), q.here l1 R1 _ (.bl _)⟩
/-! built-ins -/
def oLen : List D → Option D
  | [.list l] => some (.int l.length)
  | [.tuple l] => some (.int l.length)
  | [.str x] => if x.length ≤ 100000 then some (.int x.length) else none
  | _ => none
theorem calls_len : CallS K (fun xs H Q => ∃ x n, xs = [x] ∧ LenV K x H n ∧ Q (.int (n : Nat)) H) oLen := by
  intro vs ds d H F e r ho Q q
  unfold oLen at ho
  split at ho
  · cases ho
    obtain ⟨v, rfl, rv⟩ := repL1 r
    cases rv with
    | @lst a ws _ h1 h2 => exact ⟨_, _, rfl, .inl ⟨ws, .inl (.inl (e _ _ h1)), h2.length.symm⟩, q _ H F (Grow.refl e) (.int _)⟩
  · cases ho
    obtain ⟨v, rfl, rv⟩ := repL1 r
    cases rv with
    | @tup a ws _ h1 h2 => exact ⟨_, _, rfl, .inr ⟨ws, ex_t e h1, h2.length.symm⟩, q _ H F (Grow.refl e) (.int _)⟩
  · rename_i x
    by_cases c : x.length ≤ 100000
    · rw [if_pos c] at ho
      cases ho
      obtain ⟨v, rfl, rv⟩ := repL1 r
      cases rv
      exact ⟨_, _, rfl, ⟨sz_of c, rfl⟩, q _ H F (Grow.refl e) (.int _)⟩
    · rw [if_neg c] at ho; cases ho
  · cases ho
def oLenS (l : List D) : Option D := some (.int l.length)
theorem callsl_len : CallSL K (fun xs H Q => ∃ x n, xs = [x] ∧ LenV K x H n ∧ Q (.int (n : Nat)) H) oLenS := by
  intro p vs l d H F e hp rl ho Q q
  cases ho
  exact ⟨_, _, rfl, .inl ⟨vs, .inl (.inl hp), rl.length.symm⟩, q _ H F (Grow.refl e) (.int _)⟩
def oAbs : List D → Option D
  | [.int i] => some (.int (if i < 0 then -i else i))
  | _ => none
theorem calls_abs : CallS K (fun xs H Q => ∃ i : Int, xs = [.int i] ∧ Q (.int (if i < 0 then -i else i)) H) oAbs := by
  intro vs ds d H F e r ho Q q
  unfold oAbs at ho
  split at ho
  · cases ho
    obtain ⟨v, rfl, rv⟩ := repL1 r
    cases rv
    exact ⟨_, rfl, q _ H F (Grow.refl e) (.int _)⟩
  · cases ho
def oInt : List D → Option D
  | [.int i] => some (.int i)
  | [.bool b] => some (.int (if b then 1 else 0))
  | _ => none
theorem calls_int : CallS K (fun xs H Q => (∃ i : Int, xs = [.int i] ∧ Q (.int i) H) ∨ ∃ k : Bool, xs = [.bl k] ∧ Q (.int (if k = true then 1 else 0)) H) oInt := by
  intro vs ds d H F e r ho Q q
  unfold oInt at ho
  split at ho
  · cases ho
    obtain ⟨v, rfl, rv⟩ := repL1 r
    cases rv
    exact .inl ⟨_, rfl, q _ H F (Grow.refl e) (.int _)⟩
  · cases ho
    obtain ⟨v, rfl, rv⟩ := repL1 r
    cases rv
    exact .inr ⟨_, rfl, q _ H F (Grow.refl e) (.int _)⟩
  · cases ho
def oMax2 : List D → Option D
  | [.int i, .int j] => some (.int (if j > i then j else i))
  | _ => none
theorem calls_max2 : CallS K (fun xs H Q => ∃ i j : Int, xs = [.int i, .int j] ∧ Q (.int (if j > i then j else i)) H) oMax2 := by
  intro vs ds d H F e r ho Q q
  unfold oMax2 at ho
  split at ho
  · cases ho
    obtain ⟨v, w, rfl, rv, rw'⟩ := repL2 r
    cases rv
    cases rw'
    exact ⟨_, _, rfl, q _ H F (Grow.refl e) (.int _)⟩
  · cases ho
def oMin2 : List D → Option D
  | [.int i, .int j] => some (.int (if j < i then j else i))
  | _ => none
theorem calls_min2 : CallS K (fun xs H Q => ∃ i j : Int, xs = [.int i, .int j] ∧ Q (.int (if j < i then j else i)) H) oMin2 := by
  intro vs ds d H F e r ho Q q
  unfold oMin2 at ho
  split at ho
  · cases ho
    obtain ⟨v, w, rfl, rv, rw'⟩ := repL2 r
    cases rv
    cases rw'
    exact ⟨_, _, rfl, q _ H F (Grow.refl e) (.int _)⟩
  · cases ho
def allBools : List D → Option (List Bool)
  | [] => some []
  | .bool b :: l => (allBools l).bind fun bs => some (b :: bs)
  | _ => none
theorem repL_bools : ∀ {vs : List V} {ds : List D} {bs : List Bool}, RepL K F vs ds → allBools ds = some bs → vs = bs.map V.bl
  | _, _, _, .nil, h => by cases h; rfl
  | _, _, bs, .cons (d := d) a b, h => by
    cases d with
    | bool c =>
      obtain ⟨cs, h1, h2⟩ := bind_some h
      cases h2
      cases a
      rw [repL_bools b h1]
      rfl
    | none => cases h
    | int _ => cases h
    | str _ => cases h
    | list _ => cases h
    | tuple _ => cases h
    | dict _ => cases h
def allInts : List D → Option (List Int)
  | [] => some []
  | .int b :: l => (allInts l).bind fun bs => some (b :: bs)
  | _ => none
theorem repL_ints : ∀ {vs : List V} {ds : List D} {bs : List Int}, RepL K F vs ds → allInts ds = some bs → vs = bs.map V.int
  | _, _, _, .nil, h => by cases h; rfl
  | _, _, bs, .cons (d := d) a b, h => by
    cases d with
    | int c =>
      obtain ⟨cs, h1, h2⟩ := bind_some h
      cases h2
      cases a
      rw [repL_ints b h1]
      rfl
    | none => cases h
    | bool _ => cases h
    | str _ => cases h
    | list _ => cases h
    | tuple _ => cases h
    | dict _ => cases h
def oAllL (l : List D) : Option D := (allBools l).bind fun bs => some (.bool (bs.all id))
def oAnyL (l : List D) : Option D := (allBools l).bind fun bs => some (.bool (bs.any id))
def oSumL (l : List D) : Option D := (allInts l).bind fun bs => some (.int bs.sum)
def on1 (f : List D → Option D) : List D → Option D
  | [.list l] => f l
  | _ => none
theorem calls_on1 {r : List V → Hp → VK → Prop} {f : List D → Option D} (h : CallSL K r f) : CallS K r (on1 f) := by
  intro vs ds d H F e r' ho Q q
  unfold on1 at ho
  split at ho
  · obtain ⟨v, rfl, rv⟩ := repL1 r'
    cases rv with
    | @lst a ws _ h1 h2 => exact h a ws _ d H F e (e _ _ h1) h2 ho Q q
  · cases ho
theorem callsl_all : CallSL K (rAll K) oAllL := by
  intro p vs l d H F e hp rl ho Q q
  obtain ⟨bs, h1, h2⟩ := bind_some ho
  cases h2
  have := repL_bools rl h1
  subst this
  exact ⟨p, bs, rfl, .inl (.inl hp), q _ H F (Grow.refl e) (.bl _)⟩
theorem callsl_any : CallSL K (rAny K) oAnyL := by
  intro p vs l d H F e hp rl ho Q q
  obtain ⟨bs, h1, h2⟩ := bind_some ho
  cases h2
  have := repL_bools rl h1
  subst this
  exact ⟨p, bs, rfl, .inl (.inl hp), q _ H F (Grow.refl e) (.bl _)⟩
theorem callsl_sum : CallSL K (rSum K) oSumL := by
  intro p vs l d H F e hp rl ho Q q
  obtain ⟨bs, h1, h2⟩ := bind_some ho
  cases h2
  have := repL_ints rl h1
  subst this
  exact ⟨p, bs, rfl, .inl (.inl hp), q _ H F (Grow.refl e) (.int _)⟩
/-- the least of a list -/
def minI : List Int → Option Int
  | [] => none
  | a :: r => match minI r with
    | none => some a
    | some m => some (if m < a then m else a)
theorem minI_spec : ∀ {l : List Int} {m : Int}, minI l = some m → m ∈ l ∧ ∀ y ∈ l, m ≤ y
  | [], _, h => by cases h
  | a :: r, m, h => by
    unfold minI at h
    cases e : minI r with
    | none =>
      rw [e] at h
      have h : some a = some m := h
      cases h
      cases r with
      | nil => exact ⟨by simp, by simp⟩
      | cons b r =>
        unfold minI at e
        split at e <;> cases e
    | some n =>
      rw [e] at h
      have h : some (if n < a then n else a) = some m := h
      obtain ⟨h1, h2⟩ := minI_spec e
      by_cases c : n < a
      · rw [if_pos c] at h
        cases h
        exact ⟨List.mem_cons_of_mem _ h1, fun y hy => by
          rcases List.mem_cons.mp hy with rfl | hy
          · omega
          · exact h2 y hy⟩
      · rw [if_neg c] at h
        cases h
        exact ⟨by simp, fun y hy => by
          rcases List.mem_cons.mp hy with rfl | hy
          · omega
          · have := h2 y hy; omega⟩
def oMinL (l : List D) : Option D := (allInts l).bind fun bs => (minI bs).bind fun m => some (.int m)
theorem callsl_min : CallSL K (rMin K) oMinL := by
  intro p vs l d H F e hp rl ho Q q
  obtain ⟨bs, h1, ho⟩ := bind_some ho
  obtain ⟨m, h2, h3⟩ := bind_some ho
  cases h3
  have := repL_ints rl h1
  subst this
  obtain ⟨g1, g2⟩ := minI_spec h2
  refine ⟨p, bs, rfl, .inl (.inl hp), List.length_pos_of_mem g1, fun n hn hle => ?_⟩
  have e1 : n = m := by
    have := hle m g1
    have := g2 n hn
    omega
  subst e1
  exact q _ H F (Grow.refl e) (.int _)
/-- tuple(xs), list(xs) -/
def oTupOf : List D → Option D
  | [.list l] => some (.tuple l)
  | [.tuple l] => some (.tuple l)
  | _ => none
theorem calls_tup : CallS K (fun xs H Q => ∃ (p : Addr) (ys : List V), xs = [V.ref p] ∧ ((SqL K H p ys ∧ ∀ l : Addr, H l = none → Q (.ref l) (upd H l (.tup ys))) ∨ SqT K H p ys ∧ Q (.ref p) H)) oTupOf := by
  intro vs ds d H F e r ho Q q
  unfold oTupOf at ho
  split at ho
  · cases ho
    obtain ⟨v, rfl, rv⟩ := repL1 r
    cases rv with
    | @lst a ws _ h1 h2 =>
      refine ⟨a, ws, rfl, .inl ⟨.inl (.inl (e _ _ h1)), fun t ht => ?_⟩⟩
      have g : Grow H F (upd H t (.tup ws)) (upd F t (.tup ws)) := Grow.new1 e ht
      exact q _ _ _ g (.tup (.inl (.inl upd_same)) (h2.mono g.f))
  · cases ho
    obtain ⟨v, rfl, rv⟩ := repL1 r
    have rv0 := rv
    cases rv with
    | @tup a ws _ h1 h2 => exact ⟨a, ws, rfl, .inr ⟨ex_t e h1, q _ H F (Grow.refl e) rv0⟩⟩
  · cases ho
def oTupS (l : List D) : Option D := some (.tuple l)
theorem callsl_tup : CallSL K (fun xs H Q => ∃ (p : Addr) (ys : List V), xs = [V.ref p] ∧ ((SqL K H p ys ∧ ∀ l : Addr, H l = none → Q (.ref l) (upd H l (.tup ys))) ∨ SqT K H p ys ∧ Q (.ref p) H)) oTupS := by
  intro p vs l d H F e hp rl ho Q q
  cases ho
  refine ⟨p, vs, rfl, .inl ⟨.inl (.inl hp), fun t ht => ?_⟩⟩
  have g : Grow H F (upd H t (.tup vs)) (upd F t (.tup vs)) := Grow.new1 e ht
  exact q _ _ _ g (.tup (.inl (.inl upd_same)) (rl.mono g.f))
def oListOf : List D → Option (List D)
  | [.list l] => some l
  | [.tuple l] => some l
  | _ => none
theorem calll_list : CallL K (fun xs H Q => ∃ (p : Addr) (ys : List V), xs = [V.ref p] ∧ (SqL K H p ys ∨ SqT K H p ys) ∧ ∀ l : Addr, H l = none → Q (.ref l) (upd H l (.lst ys))) oListOf := by
  intro vs ds l H F e r ho Q q
  unfold oListOf at ho
  split at ho
  · cases ho
    obtain ⟨v, rfl, rv⟩ := repL1 r
    cases rv with
    | @lst a ws _ h1 h2 => exact ⟨a, ws, rfl, .inl (.inl (.inl (e _ _ h1))), fun t ht => q t _ ht h2⟩
  · cases ho
    obtain ⟨v, rfl, rv⟩ := repL1 r
    cases rv with
    | @tup a ws _ h1 h2 => exact ⟨a, ws, rfl, .inr (ex_t e h1), fun t ht => q t _ ht h2⟩
  · cases ho
theorem callsll_list : CallSLL K (fun xs H Q => ∃ (p : Addr) (ys : List V), xs = [V.ref p] ∧ (SqL K H p ys ∨ SqT K H p ys) ∧ ∀ l : Addr, H l = none → Q (.ref l) (upd H l (.lst ys))) some := by
  intro p vs l m H F e hp rl ho Q q
  cases ho
  exact ⟨p, vs, rfl, .inl (.inl (.inl hp)), fun t ht => q t _ ht rl⟩
/-! chained comparisons -/
def mchain (op op' : D → D → Option D) (f g h : M D) : M D := fun s => (f s).bind fun r1 => (g r1.2).bind fun r2 => (toRs ((op r1.1 r2.1).bind asBool)).bind fun b => if b then (h r2.2).bind fun r3 => lift (op' r2.1 r3.1) r3.2 else .ok (.bool false, r2.2)
/-- an operation that leaves the heap as it is -/
def OpP (K : PySem.W.Frag) (r : R2) (op : D → D → Option D) : Prop := ∀ (x y : V) (a b : D) (c : Bool) (H F : Hp), Ex F H → Rep K F x a → Rep K F y b → op a b = some (.bool c) → ∀ Q : VK, Q (.bl c) H → r x y H Q
theorem snd_chain {r r' : R2} {tc : TE} {op op' : D → D → Option D} {f g h : M D} (h1 : Snd K Ee ta f) (h2 : Snd K Ee tb g) (h3 : Snd K Ee tc h) (hr : OpP K r op) (hr' : OpS K r' op') : Snd K Ee (tChain r r' ta tb tc) (mchain op op' f g h) := by
  intro s σ sx σx B H F hl R Q w
  refine h1 s σ sx σx B H F hl R _ ?_
  refine Post.mono w.bind (fun _ q => q) fun r1 _ q H1 F1 e1 l1 R1 v1 p1 => ?_
  refine h2 r1.2 σ sx σx B H1 F1 l1 R1 _ ?_
  refine Post.mono (q H1 F1 e1 l1 R1).bind (fun _ q => q) fun r2 _ q H2 F2 e2 l2 R2 v2 p2 => ?_
  have q := Post.bind (q H2 F2 e2 l2 R2)
  cases h0 : (op r1.1 r2.1).bind asBool with
  | none => rw [h0] at q; exact q.elim
  | some b =>
  rw [h0] at q
  obtain ⟨d, hd, hb⟩ := bind_some h0
  rw [asBool_some hb] at hd
  refine hr v1 v2 r1.1 r2.1 b H2 F2 R2.exF (p1.mono e2) p2 hd _ ⟨b, rfl, ?_⟩
  cases b with
  | false =>
    have q : Wish K Ee B F2 sx σ σx (.ok (.bool false, r2.2)) (fun d H' F' => ∀ v, Rep K F' v d → Q v H') := q
    exact q.here l2 R2 _ (.bl false)
  | true =>
    have q : Wish K Ee B F2 sx σ σx ((h r2.2).bind fun r3 => lift (op' r2.1 r3.1) r3.2) (fun d H' F' => ∀ v, Rep K F' v d → Q v H') := q
    refine h3 r2.2 σ sx σx B H2 F2 l2 R2 _ ?_
    refine Post.mono q.bind (fun _ q => q) fun r3 _ q H3 F3 e3 l3 R3 v3 p3 => ?_
    have q := q H3 F3 e3 l3 R3
    cases ho : op' r2.1 r3.1 with
    | none => rw [ho] at q; exact q.elim
    | some d' =>
      rw [ho] at q
      exact hr' v2 v3 r2.1 r3.1 d' H3 F3 R3.exF (p2.mono e3) p3 ho Q fun v H4 F4 g r => q.ok g.f l3 (R3.grown g) v r
theorem opp_I0 {p : Int → Int → Bool} : OpP K (rI0 fun i j => .bl (p i j)) (o2I fun i j => .bool (p i j)) := by
  intro x y a b c H F e ra rb ho Q q
  obtain ⟨m, h1, ho⟩ := bind_some ho
  obtain ⟨n, h2, ho⟩ := bind_some ho
  cases ho
  rw [asInt_some h1] at ra
  rw [asInt_some h2] at rb
  cases ra
  cases rb
  exact ⟨m, n, rfl, rfl, q⟩
end
end Mir
namespace Mir
open PySem L2 Evl
/-- an expression that changes nothing of the def's own -/
def SndP (K : PySem.W.Frag) (te : TE) (f : SD → Option D) : Prop := ∀ (s : SD) (σ : L2.St) (sx : SD) (σx : L2.St) (B H F : Hp), s.length = σ.length → Rel K B H F (s ++ sx) (σ ++ σx) →
  ∀ d, f s = some d → ∀ Q : VK, (∀ v H' F', Grow H F H' F' → Rep K F' v d → Q v H') → te σ H Q
/-- the lists of a list of lists of the def's own -/
def ownLL (s : SD) (i : Nat) : Option (List (List D)) := match s[i]? with
  | some (some (.oll l)) => some l
  | _ => none
section
variable {K : PySem.W.Frag} {Ee : EEs} {B H F H' F' F1 : Hp} {s sx s' s1 : SD} {σ σ' σx : L2.St} {te ta tb ti tj : TE} {k : Nat} {tt tu : TT} {ts tr : TS} {i j x : Nat}
theorem Grow.trans {H1 F1 H2 F2 : Hp} (a : Grow H F H1 F1) (b : Grow H1 F1 H2 F2) : Grow H F H2 F2 := ⟨a.h.trans b.h, a.f.trans b.f, b.fh, fun p o h => by
  rcases b.new p o h with q | q
  · exact a.new p o q
  · exact .inr (fresh_back a.h q)⟩
theorem Snd.ofP {f : SD → Option D} (h : SndP K te f) : Snd K Ee te (fun s => lift (f s) s) := by
  intro s σ sx σx B H F hl R Q w
  cases e : f s with
  | none =>
    have w : Wish K Ee B F sx σ σx (lift (f s) s) (fun d H' F' => ∀ v, Rep K F' v d → Q v H') := w
    rw [e] at w
    exact w.elim
  | some d =>
    have w : Wish K Ee B F sx σ σx (lift (f s) s) (fun d H' F' => ∀ v, Rep K F' v d → Q v H') := w
    rw [e] at w
    exact h s σ sx σx B H F hl R d e Q fun v H' F' g r => w.ok g.f hl (R.grown g) v r
def pv' (i : Nat) : SD → Option D := fun s => match s[i]? with
  | some (some (.d x)) => some x
  | _ => none
theorem sndp_var : SndP K (tVar i) (pv' i) := by
  intro s σ sx σx B H F hl R d e Q q
  unfold pv' at e
  split at e
  · rename_i x' h
    cases e
    have hi := (List.getElem?_eq_some_iff.mp h).1
    obtain ⟨v, hv, r⟩ := R.get (i := i) (x := d) (by rw [List.getElem?_append_left hi]; exact h)
    rw [List.getElem?_append_left (by omega)] at hv
    exact ⟨v, hv, q v H F (Grow.refl R.exF) r⟩
  · cases e
theorem sndp_c {v : V} {d : D} (h : ∀ F, Rep K F v d) : SndP K (tC v) (fun _ => some d) := by
  intro s σ sx σx B H F hl R d' e Q q
  cases e
  exact q v H F (Grow.refl R.exF) (h F)
def pop (op : D → D → Option D) (f g : SD → Option D) : SD → Option D := fun s => (f s).bind fun a => (g s).bind fun b => op a b
theorem sndp_op {r : R2} {op : D → D → Option D} {f g : SD → Option D} (ha : SndP K ta f) (hb : SndP K tb g) (hr : OpS K r op) : SndP K (tOp r ta tb) (pop op f g) := by
  intro s σ sx σx B H F hl R d e Q q
  obtain ⟨a, h1, e⟩ := bind_some e
  obtain ⟨b, h2, e⟩ := bind_some e
  refine ha s σ sx σx B H F hl R a h1 _ fun v H1 F1 g1 r1 => ?_
  refine hb s σ sx σx B H1 F1 hl (R.grown g1) b h2 _ fun w H2 F2 g2 r2 => ?_
  exact hr v w a b d H2 F2 g2.fh (r1.mono g2.f) r2 e Q fun z H3 F3 g3 r3 => q z H3 F3 ((g1.trans g2).trans g3) r3
/-- xs[e], xs a slot's list -/
def pixS (i : Nat) (f : SD → Option D) : SD → Option D := fun s => (slotL s i).bind fun l => (f s).bind fun a => (asInt a).bind fun z => atI l z
theorem sndp_ixS {f : SD → Option D} (h : SndP K te f) : SndP K (tOp (rIxL K) (tVar i) te) (pixS i f) := by
  intro s σ sx σx B H F hl R d e Q q
  obtain ⟨l, h1, e⟩ := bind_some e
  obtain ⟨a, h2, e⟩ := bind_some e
  obtain ⟨z, h3, e⟩ := bind_some e
  rw [asInt_some h3] at h2
  obtain ⟨p, vs, hp, hH, rl⟩ := R.slotL hl h1
  refine ⟨.ref p, hp, h s σ sx σx B H F hl R _ h2 _ fun v H1 F1 g1 r1 => ?_⟩
  cases r1
  obtain ⟨v, hv, rv⟩ := repL_atI rl e
  exact ⟨p, vs, z, v, rfl, rfl, .inl (.inl (g1.h _ _ hH)), hv, q v H1 F1 g1 (rv.mono g1.f)⟩
theorem ownLL_some {l : List (List D)} (h : ownLL s i = some l) : s[i]? = some (some (.oll l)) := by
  unfold ownLL at h
  split at h
  · rename_i e
    cases h
    exact e
  · cases h
theorem ListsR.at {mine : Addr → Prop} : ∀ {qs : List Addr} {ls : List (List D)} {n : Nat} {l : List D}, ListsR K H F mine qs ls → ls[n]? = some l → ∃ q vs, qs[n]? = some q ∧ mine q ∧ H q = some (.lst vs) ∧ RepL K F vs l
  | [], [], _, _, _, h => by simp at h
  | q :: qs, l' :: ls, 0, l, ⟨a, ⟨vs, b, c⟩, n, t⟩, h => by
    simp at h
    subst h
    exact ⟨q, vs, rfl, a, b, c⟩
  | q :: qs, l' :: ls, n + 1, l, ⟨a, ⟨vs, b, c⟩, nn, t⟩, h => by
    obtain ⟨q', vs', h1, h2⟩ := ListsR.at (n := n) t (by simpa using h)
    exact ⟨q', vs', by simpa using h1, h2⟩
  | [], _ :: _, _, _, h, _ => h.elim
  | _ :: _, [], _, _, h, _ => h.elim
theorem ListsR.len {mine : Addr → Prop} : ∀ {qs : List Addr} {ls : List (List D)}, ListsR K H F mine qs ls → qs.length = ls.length
  | [], [], _ => rfl
  | _ :: _, _ :: _, ⟨_, _, _, t⟩ => congrArg (· + 1) (ListsR.len t)
  | [], _ :: _, h => h.elim
  | _ :: _, [], h => h.elim
/-- one of the lists changes -/
theorem ListsR.put {mine : Addr → Prop} {vs' : List V} {l' : List D} (r : RepL K F vs' l') : ∀ {qs : List Addr} {ls : List (List D)} {n : Nat} {q : Addr}, ListsR K H F mine qs ls → qs[n]? = some q → ListsR K (upd H q (.lst vs')) F mine qs (ls.set n l')
  | [], [], _, _, _, h => by simp at h
  | q :: qs, l0 :: ls, 0, q', ⟨a, ⟨vs, b, c⟩, n, t⟩, h => by
    simp at h
    subst h
    refine ⟨a, ⟨vs', upd_same, r⟩, n, ?_⟩
    have key : ∀ (qs : List Addr) (ls : List (List D)), ¬ q ∈ qs → ListsR K H F mine qs ls → ListsR K (upd H q (.lst vs')) F mine qs ls := by
      intro qs
      induction qs with
      | nil => intro ls _ h; cases ls <;> exact h
      | cons x qs ih =>
        intro ls hn h
        cases ls with
        | nil => exact h
        | cons l ls =>
          obtain ⟨a, ⟨ws, b, c⟩, n, t⟩ := h
          rw [List.mem_cons] at hn
          exact ⟨a, ⟨ws, by rw [upd_ne (fun z => hn (.inl z.symm))]; exact b, c⟩, n, ih ls (fun z => hn (.inr z)) t⟩
    exact key qs ls n t
  | q :: qs, l0 :: ls, n + 1, q', ⟨a, ⟨vs, b, c⟩, nn, t⟩, h => by
    have hq : qs[n]? = some q' := by simpa using h
    have hne : q ≠ q' := fun z => nn (z ▸ List.mem_of_getElem? hq)
    exact ⟨a, ⟨vs, by rw [upd_ne hne]; exact b, c⟩, nn, ListsR.put r t hq⟩
  | [], _ :: _, _, _, h, _ => h.elim
  | _ :: _, [], _, _, h, _ => h.elim
/-- a list within a list of lists of the def's own is changed -/
theorem Rel.mutLL {ls : List (List D)} (R : Rel K B H F s σ) (h : s[i]? = some (some (.oll ls))) : ∃ (p : Addr) (qs : List Addr), σ[i]? = some (some (.ref p)) ∧ H p = some (.lst (qs.map .ref)) ∧ qs.length = ls.length ∧
    (∀ n l, ls[n]? = some l → ∃ q vs, qs[n]? = some q ∧ H q = some (.lst vs) ∧ RepL K F vs l ∧ ∀ vs' l', RepL K F vs' l' → Rel K B (upd H q (.lst vs')) F (s.set i (some (.oll (ls.set n l')))) σ) := by
  obtain ⟨len, exB, exF, dis, own, h1, h2⟩ := R
  obtain ⟨v, hv, p, qs, rfl, a, b, np, c⟩ := h2 i _ h
  refine ⟨p, qs, hv, b, c.len, fun n l hn => ?_⟩
  obtain ⟨q, vs, hq, mq, hH, rl⟩ := c.at hn
  have mq : own q = some i := mq
  refine ⟨q, vs, hq, hH, rl, fun vs' l' r => ⟨by simpa using len, fun x o hx => ?_, fun x o hx => ?_, dis, own, h1, fun j y hj => ?_⟩⟩
  · rw [upd_ne (ne_of_none hx (h1 q i mq).2)]; exact exB x o hx
  · rw [upd_ne (ne_of_none hx (h1 q i mq).1)]; exact exF x o hx
  · rw [List.getElem?_set] at hj
    by_cases ci : i = j
    · subst ci
      rw [if_pos rfl] at hj
      by_cases l : i < s.length
      · rw [if_pos l] at hj
        cases hj
        have hpq : p ≠ q := fun z => np (z ▸ List.mem_of_getElem? hq)
        exact ⟨_, hv, p, qs, rfl, a, by rw [upd_ne hpq]; exact b, np, c.put r hq⟩
      · rw [if_neg l] at hj; cases hj
    · rw [if_neg ci] at hj
      obtain ⟨w, hw, hr'⟩ := h2 j y hj
      refine ⟨w, hw, hr'.mono (fun _ q => q) (fun x o hx ho => ?_) (Ex.refl F)⟩
      have hx' : own x = some j := hx
      rw [upd_ne (fun z => by subst z; rw [mq] at hx'; exact ci (Option.some.inj hx'))]
      exact ho
/-- xs[e][e'], xs a slot's list of lists of its own -/
def pix2 (i : Nat) (f g : SD → Option D) : SD → Option D := fun s => (ownLL s i).bind fun ls => (f s).bind fun a => (asInt a).bind fun z => (atI ls z).bind fun l => (g s).bind fun b => (asInt b).bind fun y => atI l y
theorem atI_ref {qs : List Addr} {z : Int} {n : Nat} (h : ixN qs.length z = some n) {q : Addr} (hq : qs[n]? = some q) : atI (qs.map V.ref) z = some (.ref q) := by
  unfold atI
  rw [List.length_map, h]
  show (qs.map V.ref)[n]? = _
  rw [List.getElem?_map, hq]
  rfl
theorem atI_some {α : Type} {l : List α} {z : Int} {a : α} (h : atI l z = some a) : ∃ n, ixN l.length z = some n ∧ l[n]? = some a := by
  unfold atI at h
  exact bind_some h
theorem sndp_ix2 {f g : SD → Option D} (h : SndP K ti f) (h' : SndP K tj g) : SndP K (tOp (rIxL K) (tOp (rIxL K) (tVar i) ti) tj) (pix2 i f g) := by
  intro s σ sx σx B H F hl R d e Q q
  obtain ⟨ls, h1, e⟩ := bind_some e
  obtain ⟨a, h2, e⟩ := bind_some e
  obtain ⟨z, h3, e⟩ := bind_some e
  obtain ⟨l, h4, e⟩ := bind_some e
  obtain ⟨b, h5, e⟩ := bind_some e
  obtain ⟨y, h6, e⟩ := bind_some e
  rw [asInt_some h3] at h2
  rw [asInt_some h6] at h5
  have hs := ownLL_some h1
  have hi := (List.getElem?_eq_some_iff.mp hs).1
  obtain ⟨p, qs, hp, hH, hlen, hm⟩ := R.mutLL (i := i) (ls := ls) (by rw [List.getElem?_append_left hi]; exact hs)
  rw [List.getElem?_append_left (by omega)] at hp
  refine ⟨.ref p, hp, h s σ sx σx B H F hl R _ h2 _ fun v H1 F1 g1 r1 => ?_⟩
  cases r1
  obtain ⟨n, hn, hln⟩ := atI_some h4
  obtain ⟨q', vs, hq', hHq, rl, _⟩ := hm n l hln
  refine ⟨p, _, z, .ref q', rfl, rfl, .inl (.inl (g1.h _ _ hH)), atI_ref (by rw [hlen]; exact hn) hq', ?_⟩
  refine h' s σ sx σx B H1 F1 hl (R.grown g1) _ h5 _ fun w H2 F2 g2 r2 => ?_
  cases r2
  obtain ⟨v, hv, rv⟩ := repL_atI rl e
  exact ⟨q', vs, y, v, rfl, rfl, .inl (.inl (g2.h _ _ (g1.h _ _ hHq))), hv, q v H2 F2 (g1.trans g2) ((rv.mono g1.f).mono g2.f)⟩
/-- xs[e][e'] = e'' -/
def sput2 (i : Nat) (f : M D) (g h : SD → Option D) : SD → Rs (Fl × SD) := fun s => (f s).bind fun r => (toRs (ownLL r.2 i)).bind fun ls => (toRs ((g r.2).bind asInt)).bind fun z => (toRs ((h r.2).bind asInt)).bind fun y =>
  (toRs (ixN ls.length z)).bind fun n => (toRs ls[n]?).bind fun l => (toRs (ixN l.length y)).bind fun m => .ok (.nx, r.2.set i (some (.oll (ls.set n (l.set m r.1)))))
theorem snds_put2 {f : M D} {g h : SD → Option D} (h0 : Snd K Ee te f) (h1 : SndP K ti g) (h2 : SndP K tj h) : SndS K Ee k (tAsg te (gSub (tOp (rIxL K) (tVar i) ti) tj rSetL)) (sput2 i f g h) := by
  intro s σ B H F R Dn w
  refine h0 s σ [] [] B H F R.len R.nil _ ?_
  refine Post.mono (Post.bind w) (fun _ q => q) fun r _ q H1 F1 e1 l1 R1 v p1 => ?_
  obtain ⟨d, s1⟩ := r
  have q := Post.bind q
  cases c0 : ownLL s1 i with
  | none => rw [c0] at q; exact q.elim
  | some ls =>
  rw [c0] at q
  have q := Post.bind q
  cases c1 : (g s1).bind asInt with
  | none => rw [c1] at q; exact q.elim
  | some z =>
  rw [c1] at q
  have q := Post.bind q
  cases c2 : (h s1).bind asInt with
  | none => rw [c2] at q; exact q.elim
  | some y =>
  rw [c2] at q
  have q := Post.bind q
  cases c3 : ixN ls.length z with
  | none => rw [c3] at q; exact q.elim
  | some n =>
  rw [c3] at q
  have q := Post.bind q
  cases c4 : ls[n]? with
  | none => rw [c4] at q; exact q.elim
  | some l =>
  rw [c4] at q
  have q := Post.bind q
  cases c5 : ixN l.length y with
  | none => rw [c5] at q; exact q.elim
  | some m =>
  rw [c5] at q
  obtain ⟨a, g1, g2⟩ := bind_some c1
  obtain ⟨b, g3, g4⟩ := bind_some c2
  rw [asInt_some g2] at g1
  rw [asInt_some g4] at g3
  have hs := ownLL_some c0
  obtain ⟨p, qs, hp, hH, hlen, hm⟩ := R1.unnil.mutLL hs
  refine ⟨.ref p, hp, h1 s1 σ [] [] B H1 F1 l1 R1 _ g1 _ fun w1 H2 F2 gr2 r2 => ?_⟩
  cases r2
  obtain ⟨q', vs, hq', hHq, rl, _⟩ := hm n l c4
  refine ⟨p, _, z, .ref q', rfl, rfl, .inl (.inl (gr2.h _ _ hH)), atI_ref (by rw [hlen]; exact c3) hq', ?_⟩
  refine h2 s1 σ [] [] B H2 F2 l1 (R1.grown gr2) _ g3 _ fun w3 H3 F3 gr3 r3 => ?_
  cases r3
  have gr := gr2.trans gr3
  obtain ⟨p2, qs2, hp2, hH2, hlen2, hm2⟩ := (R1.grown gr).unnil.mutLL hs
  rw [hp] at hp2
  cases hp2
  have eqs : qs2.map V.ref = qs.map V.ref := by
    have := gr.h _ _ hH
    rw [hH2] at this
    injection this with this
    injection this
  have eqs' : qs2 = qs := by
    exact (List.map_inj_right (fun a b z => by cases z; rfl)).mp eqs
  subst eqs'
  obtain ⟨q2, vs2, hq2, hHq2, rl2, hput⟩ := hm2 n l c4
  rw [hq'] at hq2
  cases hq2
  refine ⟨q', vs2, y, m, rfl, rfl, hHq2, by rw [rl2.length]; exact c5, ?_⟩
  exact q σ _ F3 (e1.trans gr.f) (Keep.refl k σ) (hput _ _ (rl2.set m (p1.mono gr.f)))
/-- xs[e].append(e') -/
def sapp2 (i : Nat) (g h : SD → Option D) : SD → Rs (Fl × SD) := fun s => (toRs (ownLL s i)).bind fun ls => (toRs ((g s).bind asInt)).bind fun z => (toRs (h s)).bind fun d =>
  (toRs (ixN ls.length z)).bind fun n => (toRs ls[n]?).bind fun l => if l.length < 100000 then .ok (.nx, s.set i (some (.oll (ls.set n (l ++ [d]))))) else .bad
theorem snds_app2 {g h : SD → Option D} (h1 : SndP K ti g) (h2 : SndP K te h) : SndS K Ee k (tDrop (tBM K "list" rAppend (tOp (rIxL K) (tVar i) ti) (tCons te tNil))) (sapp2 i g h) := by
  intro s σ B H F R Dn q
  have q := Post.bind q
  cases c0 : ownLL s i with
  | none => rw [c0] at q; exact q.elim
  | some ls =>
  rw [c0] at q
  have q := Post.bind q
  cases c1 : (g s).bind asInt with
  | none => rw [c1] at q; exact q.elim
  | some z =>
  rw [c1] at q
  have q := Post.bind q
  cases c2 : h s with
  | none => rw [c2] at q; exact q.elim
  | some d =>
  rw [c2] at q
  have q := Post.bind q
  cases c3 : ixN ls.length z with
  | none => rw [c3] at q; exact q.elim
  | some n =>
  rw [c3] at q
  have q := Post.bind q
  cases c4 : ls[n]? with
  | none => rw [c4] at q; exact q.elim
  | some l =>
  rw [c4] at q
  rcases Nat.lt_or_ge l.length 100000 with c5 | c5
  · have q : WishS K Ee B F k σ (if l.length < 100000 then .ok (.nx, s.set i (some (.oll (ls.set n (l ++ [d]))))) else .bad) Dn := q
    rw [if_pos c5] at q
    obtain ⟨a, g1, g2⟩ := bind_some c1
    rw [asInt_some g2] at g1
    have hs := ownLL_some c0
    obtain ⟨p, qs, hp, hH, hlen, hm⟩ := R.mutLL hs
    refine ⟨.ref p, hp, h1 s σ [] [] B H F R.len R.nil _ g1 _ fun w1 H2 F2 gr2 r2 => ?_⟩
    cases r2
    obtain ⟨q', vs, hq', hHq, rl, _⟩ := hm n l c4
    refine ⟨p, _, z, .ref q', rfl, rfl, .inl (.inl (gr2.h _ _ hH)), atI_ref (by rw [hlen]; exact c3) hq', ?_⟩
    refine ⟨.inl ⟨rfl, vs, .inl (.inl (gr2.h _ _ hHq))⟩, ?_⟩
    refine h2 s σ [] [] B H2 F2 R.len (R.nil.grown gr2) _ c2 _ fun w3 H3 F3 gr3 r3 => ?_
    have gr := gr2.trans gr3
    obtain ⟨p2, qs2, hp2, hH2, hlen2, hm2⟩ := (R.grown gr).mutLL hs
    rw [hp] at hp2
    cases hp2
    have eqs : qs2.map V.ref = qs.map V.ref := by
      have := gr.h _ _ hH
      rw [hH2] at this
      injection this with this
      injection this
    have eqs' : qs2 = qs := by
      exact (List.map_inj_right (fun a b z => by cases z; rfl)).mp eqs
    subst eqs'
    obtain ⟨q2, vs2, hq2, hHq2, rl2, hput⟩ := hm2 n l c4
    rw [hq'] at hq2
    cases hq2
    refine ⟨q', vs2, w3, rfl, rfl, hHq2, by rw [rl2.length]; exact sz_lt c5, ?_⟩
    exact q σ _ F3 gr.f (Keep.refl k σ) (hput _ _ (rl2.append (.one r3)))
  · have q : WishS K Ee B F k σ (if l.length < 100000 then .ok (.nx, s.set i (some (.oll (ls.set n (l ++ [d]))))) else .bad) Dn := q
    rw [if_neg (by omega)] at q
    exact q.elim
/-! lists of lists made in a comprehension: what is in flight takes another one in -/
theorem ListsR.snoc {mine mine' : Addr → Prop} {q : Addr} {vs : List V} {l : List D} (hm : ∀ a, mine a → mine' a) (hq : mine' q) (hH : H q = some (.lst vs)) (r : RepL K F vs l) : ∀ {qs : List Addr} {ls : List (List D)}, ¬ q ∈ qs → ListsR K H F mine qs ls → ListsR K H F mine' (qs ++ [q]) (ls ++ [l])
  | [], [], _, _ => ⟨hq, ⟨vs, hH, r⟩, by simp, trivial⟩
  | x :: qs, l0 :: ls, hn, ⟨a, b, n, t⟩ => by
    rw [List.mem_cons] at hn
    refine ⟨hm _ a, b, ?_, ListsR.snoc hm hq hH r (fun z => hn (.inr z)) t⟩
    show ¬ x ∈ qs ++ [q]
    rw [List.mem_append, List.mem_singleton]
    rintro (z | z)
    · exact n z
    · exact hn (.inl z.symm)
  | [], _ :: _, _, h => h.elim
  | _ :: _, [], _, h => h.elim
end
end Mir
namespace Mir
open PySem L2 Evl
section
variable {K : PySem.W.Frag} {Ee : EEs} {B H F H' F' F1 : Hp} {s sx s' s1 : SD} {σ σ' σx : L2.St} {te ta tb ti tj : TE} {k : Nat} {tt tu : TT} {ts tr : TS} {i j x : Nat}
/-- what is in flight becomes one more of a list of lists -/
theorem Rel.merge {l : List D} {ls : List (List D)} {v : V} (R : Rel K B H F (s ++ some (.ol l) :: sx) (σ ++ some v :: σx)) (hl : s.length = σ.length) (hj : (s ++ sx)[j]? = some (some (.oll ls))) :
    ∃ (p : Addr) (qs : List Addr), (σ ++ σx)[j]? = some (some (.ref p)) ∧ H p = some (.lst (qs.map .ref)) ∧ qs.length = ls.length ∧ Rel K B (upd H p (.lst (qs.map .ref ++ [v]))) F ((s ++ sx).set j (some (.oll (ls ++ [l])))) (σ ++ σx) := by
  obtain ⟨len, exB, exF, dis, own, h1, h2⟩ := R
  obtain ⟨w, hw, q, vs, rfl, mq, hHq, rq⟩ := h2 s.length (.ol l) (by simp)
  have ew : v = .ref q := by
    rw [hl] at hw
    simpa using hw
  subst ew
  have mq : own q = some s.length := mq
  -- index of the list of lists in the longer list
  let up : Nat → Nat := fun m => if m < s.length then m else m + 1
  have hup : ∀ m (y : Option SV), (s ++ sx)[m]? = some y → (s ++ some (.ol l) :: sx)[up m]? = some y := fun m y h => by
    show (s ++ some (.ol l) :: sx)[if m < s.length then m else m + 1]? = some y
    by_cases c : m < s.length
    · rw [if_pos c]
      rw [List.getElem?_append_left c] at h ⊢
      exact h
    · rw [if_neg c]
      rw [List.getElem?_append_right (by omega)] at h ⊢
      rw [show m + 1 - s.length = (m - s.length) + 1 by omega, List.getElem?_cons_succ]
      exact h
  have hdn : ∀ m (z : Option V), (σ ++ some (.ref q) :: σx)[up m]? = some z → (σ ++ σx)[m]? = some z := fun m z h => by
    have h : (σ ++ some (.ref q) :: σx)[if m < s.length then m else m + 1]? = some z := h
    by_cases c : m < s.length
    · rw [if_pos c] at h
      rw [List.getElem?_append_left (by omega)] at h ⊢
      exact h
    · rw [if_neg c] at h
      rw [List.getElem?_append_right (by omega)] at h ⊢
      rw [show m + 1 - σ.length = (m - σ.length) + 1 by omega, List.getElem?_cons_succ] at h
      exact h
  let own' : Addr → Option Nat := fun a => match own a with
    | none => none
    | some m => if m = s.length then some j else if m < s.length then some m else some (m - 1)
  have hown : ∀ a m, own a = some (up m) → own' a = some m := fun a m ha => by
    have ha : own a = some (if m < s.length then m else m + 1) := ha
    show (match own a with | none => none | some m => if m = s.length then some j else if m < s.length then some m else some (m - 1)) = some m
    rw [ha]
    by_cases c : m < s.length
    · rw [if_pos c]
      show (if m = s.length then some j else if m < s.length then some m else some (m - 1)) = some m
      rw [if_neg (by omega), if_pos c]
    · rw [if_neg c]
      show (if m + 1 = s.length then some j else if m + 1 < s.length then some (m + 1) else some (m + 1 - 1)) = some m
      rw [if_neg (by omega), if_neg (by omega)]
      rfl
  have hq' : own' q = some j := by
    show (match own q with | none => none | some m => if m = s.length then some j else if m < s.length then some m else some (m - 1)) = some j
    rw [mq]
    show (if s.length = s.length then some j else _) = some j
    rw [if_pos rfl]
  obtain ⟨w2, hw2, p, qs, rfl, mp, hHp, np, c⟩ := h2 (up j) (.oll ls) (hup j _ hj)
  have mp : own p = some (up j) := mp
  have upne : up j ≠ s.length := by
    show (if j < s.length then j else j + 1) ≠ s.length
    by_cases c : j < s.length
    · rw [if_pos c]; omega
    · rw [if_neg c]; omega
  have hpq : p ≠ q := fun z => by
    rw [z, mq] at mp
    exact upne (Option.some.inj mp).symm
  have hqn : ¬ q ∈ qs := fun hm => by
    have key : ∀ (qs : List Addr) (ls : List (List D)), ListsR K H F (fun a => own a = some (up j)) qs ls → q ∈ qs → own q = some (up j) := by
      intro qs
      induction qs with
      | nil => intro ls _ h; cases h
      | cons x qs ih =>
        intro ls h hm
        cases ls with
        | nil => exact h.elim
        | cons l ls =>
          obtain ⟨a, b, n, t⟩ := h
          rcases List.mem_cons.mp hm with rfl | hm
          · exact a
          · exact ih ls t hm
    have := key qs ls c hm
    rw [mq] at this
    exact upne (Option.some.inj this).symm
  refine ⟨p, qs, hdn j _ hw2, hHp, c.len, by simp at len ⊢; omega, fun x o hx => ?_, fun x o hx => ?_, dis, own', fun a m ha => ?_, fun m y hm => ?_⟩
  · rw [upd_ne (ne_of_none hx (h1 p _ mp).2)]; exact exB x o hx
  · rw [upd_ne (ne_of_none hx (h1 p _ mp).1)]; exact exF x o hx
  · have ha : (match own a with | none => none | some m => if m = s.length then some j else if m < s.length then some m else some (m - 1)) = some m := ha
    cases e : own a with
    | none => rw [e] at ha; cases ha
    | some m' => exact h1 a m' e
  · rw [List.getElem?_set] at hm
    by_cases ci : j = m
    · subst ci
      rw [if_pos rfl] at hm
      by_cases lj : j < (s ++ sx).length
      · rw [if_pos lj] at hm
        cases hm
        refine ⟨.ref p, hdn j _ hw2, p, qs ++ [q], rfl, hown p j mp, ?_, ?_, ?_⟩
        · rw [upd_same, List.map_append]
          rfl
        · rw [List.mem_append, List.mem_singleton]
          rintro (z | z)
          · exact np z
          · exact hpq z
        · have c1 : ListsR K (upd H p (.lst (qs.map .ref ++ [.ref q]))) F (fun a => own a = some (up j)) qs ls := by
            have key : ∀ (qs' : List Addr) (ls : List (List D)), ¬ p ∈ qs' → ListsR K H F (fun a => own a = some (up j)) qs' ls → ListsR K (upd H p (.lst (qs.map .ref ++ [.ref q]))) F (fun a => own a = some (up j)) qs' ls := by
              intro qs'
              induction qs' with
              | nil => intro ls _ h; cases ls <;> exact h
              | cons x qs' ih =>
                intro ls hn h
                cases ls with
                | nil => exact h
                | cons l ls =>
                  obtain ⟨a, ⟨ws, b, c⟩, n, t⟩ := h
                  rw [List.mem_cons] at hn
                  exact ⟨a, ⟨ws, by rw [upd_ne (fun z => hn (.inl z.symm))]; exact b, c⟩, n, ih ls (fun z => hn (.inr z)) t⟩
            exact key qs ls np c
          exact c1.snoc (mine' := fun a => own' a = some j) (fun a ha => hown a j ha) hq' (by rw [upd_ne (Ne.symm hpq)]; exact hHq) rq hqn
      · rw [if_neg lj] at hm; cases hm
    · rw [if_neg ci] at hm
      obtain ⟨w, hw', hr⟩ := h2 (up m) y (hup m _ hm)
      refine ⟨w, hdn m _ hw', hr.mono (fun a ha => hown a m ha) (fun x o hx ho => ?_) (Ex.refl F)⟩
      have hx : own x = some (up m) := hx
      have upinj : up m ≠ up j := by
        show (if m < s.length then m else m + 1) ≠ (if j < s.length then j else j + 1)
        by_cases a1 : m < s.length <;> by_cases a2 : j < s.length
        · rw [if_pos a1, if_pos a2]; omega
        · rw [if_pos a1, if_neg a2]; omega
        · rw [if_neg a1, if_pos a2]; omega
        · rw [if_neg a1, if_neg a2]; omega
      rw [upd_ne (fun z => by subst z; rw [mp] at hx; exact upinj (Option.some.inj hx).symm)]
      exact ho
def mLL (f : M (List (List D))) : M SV := fun s => (f s).bind fun r => .ok (.oll r.1, r.2)
theorem Rel.toLL (R : Rel K B H F (s ++ some (.ol []) :: sx) (σ ++ some v :: σx)) : Rel K B H F (s ++ some (.oll []) :: sx) (σ ++ some v :: σx) := by
  obtain ⟨len, exB, exF, dis, own, h1, h2⟩ := R
  refine ⟨by simpa using len, exB, exF, dis, own, h1, fun i y h => ?_⟩
  by_cases c : i = s.length
  · subst c
    obtain ⟨w, hw, p, vs, rfl, a, b, r⟩ := h2 s.length (.ol []) (by simp)
    have e : y = .oll [] := by simpa using h.symm
    subst e
    cases r
    exact ⟨_, hw, p, [], rfl, a, b, by simp, trivial⟩
  · have h' : (s ++ some (.ol []) :: sx)[i]? = some (some y) := by
      rcases Nat.lt_or_ge i s.length with q | q
      · rw [List.getElem?_append_left q] at h ⊢
        exact h
      · rw [List.getElem?_append_right q] at h ⊢
        obtain ⟨m, hm⟩ : ∃ m, i - s.length = m + 1 := ⟨i - s.length - 1, by omega⟩
        rw [hm] at h ⊢
        exact h
    exact h2 i y h'
theorem sndv_lcL {wi : TI} {g : TG} {idx vs : List Nat} {f : M (List D)} {fg : D → SD → Option SD} {ft : M Bool} {fe : M (List D)} (hi : SndI K Ee wi f) (hg : SndG K Ee idx g fg) (ht : SndT K Ee tt ft) (he : SndL K Ee te fe) (hk : ∀ j, j ∈ idx → j ∈ vs) :
    SndV K Ee (tLc wi g tt te vs) (mLL (mlcomp f fg ft fe vs)) := by
  intro s σ sx σx B H F hl R Q w
  refine hi s σ sx σx B H F hl R _ ?_
  have w := Post.bind (Post.bind w)
  refine Post.mono w (fun _ q => q) fun r _ q H1 F1 e1 l1 R1 J hJ D0 hD => ?_
  obtain ⟨ds, s1⟩ := r
  have q : WishV K Ee B F sx σ σx ((if ds.length ≤ 100000 then (mlc fg ft fe vs ds (wipeS s1 vs)).bind fun z => .ok (z.1, unwipe s1 z.2 vs) else .bad).bind fun r => .ok (.oll r.1, r.2)) Q := by
    by_cases cz : ds.length ≤ 100000
    · rw [if_pos cz]
      have q : Post (if ds.length ≤ 100000 then (mlc fg ft fe vs ds (wipeS s1 vs)).bind fun z => .ok (z.1, unwipe s1 z.2 vs) else .bad) _ _ := q
      rw [if_pos cz] at q
      cases hh : mlc fg ft fe vs ds (wipeS s1 vs) with
      | ok z => rw [hh] at q; exact q
      | err z => rw [hh] at q; exact q
      | bad => rw [hh] at q; exact q
    · rw [if_neg cz]
      have q : Post (if ds.length ≤ 100000 then (mlc fg ft fe vs ds (wipeS s1 vs)).bind fun z => .ok (z.1, unwipe s1 z.2 vs) else .bad) _ _ := q
      rw [if_neg cz] at q
      exact q
  rcases Nat.lt_or_ge 100000 ds.length with cz | cz
  · rw [if_neg (by omega)] at q
    exact q.elim
  rw [if_pos cz] at q
  have q := Post.bind (Post.bind q)
  have l1' : s1.length = σ.length := l1
  let Want : List (List D) → Rs (List (List D) × SD) → Prop := fun acc r => Post r (fun e => ∀ H' F', Nxt B F H' F' → Ee e H' F') fun z => ∀ H' F', Ex F1 F' → z.2.length = σ.length → Rel K B H' F' (z.2 ++ some (.oll (acc ++ z.1)) :: sx) (wipe σ vs ++ some (.ref D0) :: σx) → Q (.ref D0) H'
  have w0 : Want [] (mlc fg ft fe vs ds (wipeS s1 vs)) := by
    refine Post.mono q (fun _ q => q) fun z _ q H' F' e hz R' => ?_
    exact q H' F' (.ref D0) (e1.trans e) (by show (unwipe s1 z.2 vs).length = _; rw [unwipe_len]; exact hz) (R'.unwipe hz R1 l1' e)
  have R2 : Rel K B (upd H1 D0 (.lst [])) F1 (wipeS s1 vs ++ some (.oll []) :: sx) (wipe σ vs ++ some (.ref D0) :: σx) := ((R1.wipe l1').fresh (by rw [wipeS_len, wipe_length]; exact l1') hD .nil).toLL
  refine ⟨fun i m H2 => m = ds.length - i ∧ i ≤ ds.length ∧ ∃ s2 F2 acc, Ex F1 F2 ∧ acc.length ≤ i ∧ s2.length = σ.length ∧ Rel K B H2 F2 (s2 ++ some (.oll acc) :: sx) (wipe σ vs ++ some (.ref D0) :: σx) ∧ Want acc (mlc fg ft fe vs (ds.drop i) s2),
    ⟨ds.length, by simp, Nat.zero_le _, wipeS s1 vs, F1, [], Ex.refl _, Nat.le_refl _, by rw [wipeS_len]; exact l1', R2, by simpa using w0⟩, ?_⟩
  rintro i m H2 ⟨rfl, hi', s2, F2, acc, e2, hacc, hl2, R2, w2⟩
  obtain ⟨hgo, hstop, hy⟩ := hJ H2 F2 e2 R2.exF
  by_cases hlt : i < ds.length
  · refine .inr ⟨hgo i hlt, fun H3 => ∃ s3 F3 acc, Ex F1 F3 ∧ acc.length ≤ i + 1 ∧ s3.length = σ.length ∧ Rel K B H3 F3 (s3 ++ some (.oll acc) :: sx) (wipe σ vs ++ some (.ref D0) :: σx) ∧ Want acc (mlc fg ft fe vs (ds.drop (i + 1)) s3),
      fun H3 ⟨s3, F3, acc3, a1, a2, a3, a4, a5⟩ => ⟨ds.length - (i + 1), by omega, rfl, hlt, s3, F3, acc3, a1, a2, a3, a4, a5⟩, fun x H3 hyl => ?_⟩
    obtain ⟨F3, g3, rp⟩ := hy i ds[i] x H3 (by simp [hlt]) hyl
    have e3 : ds.drop i = ds[i] :: ds.drop (i + 1) := List.drop_eq_getElem_cons hlt
    rw [e3] at w2
    have w2 : Want acc ((toRs (fg ds[i] s2)).bind fun s1 => (ft s1).bind fun r => if r.1 then (fe r.2).bind fun q => (mlc fg ft fe vs (ds.drop (i + 1)) (wipeS q.2 vs)).bind fun z => .ok (q.1 :: z.1, z.2) else mlc fg ft fe vs (ds.drop (i + 1)) (wipeS r.2 vs)) := w2
    have R3 := R2.grown g3
    refine hg ds[i] x s2 (wipe σ vs) _ _ B H3 F3 (by rw [wipe_length]; exact hl2) R3 rp _ ?_
    cases hh : fg ds[i] s2 with
    | none => rw [hh] at w2; exact w2.elim
    | some s4 =>
      rw [hh] at w2
      refine fun σ4 H4 F4 e4 l4 l4' k4 R4 => ?_
      have hw4 : wipe σ4 vs = wipe σ vs := wipe_keep hk (by rw [l4', wipe_length]) k4
      refine ⟨hw4, ?_⟩
      have eF4 : Ex F F4 := ((e1.trans e2).trans g3.f).trans e4
      have e14 : Ex F1 F4 := (e2.trans g3.f).trans e4
      refine ht s4 σ4 _ _ B H4 F4 l4 R4 _ ?_
      refine Post.mono (Post.bind w2) (fun _ q H' F' n => q H' F' (n.ahead eF4)) fun r _ q H5 F5 e5 l5 R5 => ?_
      obtain ⟨b, s5⟩ := r
      have l4σ : σ4.length = σ.length := by rw [l4', wipe_length]
      cases b with
      | false =>
        have R6 : Rel K B H5 F5 (wipeS s5 vs ++ some (.oll acc) :: sx) (wipe σ vs ++ some (.ref D0) :: σx) := by
          have := R5.wipe (vs := vs) l5
          rw [hw4] at this
          exact this
        exact ⟨wipeS s5 vs, F5, acc, e14.trans e5, by omega, by rw [wipeS_len, ← l4σ]; exact l5, R6, q⟩
      | true =>
        refine he s5 σ4 _ _ B H5 F5 l5 R5 _ ?_
        refine Post.mono (Post.bind q) (fun _ q H' F' n => q H' F' (n.ahead (eF4.trans e5))) fun r _ q H6 F6 v6 e6 l6 R6 => ?_
        obtain ⟨d6, s6⟩ := r
        obtain ⟨p, qs, hp, hHp, lac, R7⟩ := R6.merge (j := s6.length) (ls := acc) l6 (by simp)
        have ep : p = D0 := by
          have l6' : s6.length = σ4.length := l6
          rw [l6'] at hp
          simpa using hp.symm
        subst ep
        have R7 : Rel K B (upd H6 p (.lst (qs.map .ref ++ [v6]))) F6 (s6 ++ some (.oll (acc ++ [d6])) :: sx) (σ4 ++ some (.ref p) :: σx) := by
          rw [List.set_append_right _ _ (Nat.le_refl _)] at R7
          simpa using R7
        refine ⟨qs.map .ref, hHp, by rw [List.length_map, lac]; exact sz_lt (by omega), wipeS s6 vs, F6, acc ++ [d6], (e14.trans e5).trans e6, by simp; omega, by rw [wipeS_len, ← l4σ]; exact l6, ?_, ?_⟩
        · have := R7.wipe (vs := vs) l6
          rw [hw4] at this
          exact this
        · refine Post.mono (Post.bind q) (fun _ q => q) fun z _ q H' F' e hz Rz => ?_
          refine q H' F' e hz ?_
          rw [List.append_assoc] at Rz
          exact Rz
  · have e : i = ds.length := by omega
    subst e
    rw [List.drop_length] at w2
    exact .inl ⟨hstop, w2 H2 F2 e2 hl2 (by rw [List.append_nil]; exact R2)⟩
/-- xs.append(a new list), xs a list of lists of the def's own -/
def sappL (i : Nat) (f : M (List D)) : SD → Rs (Fl × SD) := fun s => (toRs (ownLL s i)).bind fun _ => (f s).bind fun r => (toRs (ownLL r.2 i)).bind fun ls => if ls.length < 100000 then .ok (.nx, r.2.set i (some (.oll (ls ++ [r.1])))) else .bad
theorem snds_appL {f : M (List D)} (h : SndL K Ee te f) : SndS K Ee k (tDrop (tBM K "list" rAppend (tVar i) (tCons te tNil))) (sappL i f) := by
  intro s σ B H F R Dn q
  have q := Post.bind q
  cases c0 : ownLL s i with
  | none => rw [c0] at q; exact q.elim
  | some ls0 =>
  rw [c0] at q
  obtain ⟨p, qs, hp, hH, hlen, _⟩ := R.mutLL (ownLL_some c0)
  refine ⟨.ref p, hp, .inl ⟨rfl, _, .inl (.inl hH)⟩, ?_⟩
  refine h s σ [] [] B H F R.len R.nil _ ?_
  refine Post.mono (Post.bind q) (fun _ q => q) fun r _ q H1 F1 v e1 l1 R1 => ?_
  have q := Post.bind q
  cases c1 : ownLL r.2 i with
  | none => rw [c1] at q; exact q.elim
  | some ls =>
  rw [c1] at q
  have hs := ownLL_some c1
  obtain ⟨p2, qs2, hp2, hH2, lac, R2⟩ := R1.merge (j := i) (ls := ls) l1 (by rw [List.append_nil]; exact hs)
  rw [List.append_nil, hp] at hp2
  cases hp2
  rcases Nat.lt_or_ge ls.length 100000 with c5 | c5
  · have q : WishS K Ee B F k σ (if ls.length < 100000 then .ok (.nx, r.2.set i (some (.oll (ls ++ [r.1])))) else .bad) Dn := q
    rw [if_pos c5] at q
    refine ⟨p, qs2.map .ref, v, rfl, rfl, hH2, by rw [List.length_map, lac]; exact sz_lt c5, ?_⟩
    rw [List.append_nil, List.append_nil] at R2
    exact q σ _ F1 e1 (Keep.refl k σ) R2
  · have q : WishS K Ee B F k σ (if ls.length < 100000 then .ok (.nx, r.2.set i (some (.oll (ls ++ [r.1])))) else .bad) Dn := q
    rw [if_neg (by omega)] at q
    exact q.elim
end
end Mir
namespace Mir
open PySem L2 Evl
/-- how a def's errors are wished for: by what is wished of the class, its own dict, the heap -/
abbrev EO := XK → EEs
/-- what a def promises that changes nothing of its caller's: n arguments, m the mirror -/
def spP (K : PySem.W.Frag) (eo : EO) (n : Nat) (m : List D → Rs D) : Sp := fun vs H Q E => vs.length = n ∧ ∃ (ds : List D) (F B : Hp), Ex F H ∧ Ex B H ∧ Dis B F ∧ RepL K F vs ds ∧
  Post (m ds) (fun e => ∀ H' F', Nxt B F H' F' → eo E e H' F') fun d => ∀ v H' F', Nxt B F H' F' → Rep K F' v d → Q v H'
/-- the same with a list of the caller's as the first argument, which may be changed -/
def spH (K : PySem.W.Frag) (eo : EO) (n : Nat) (m : List D → List D → Rs (D × List D)) : Sp := fun vs H Q E => vs.length = n ∧ ∃ (p : Addr) (vr ws : List V) (l ds : List D) (F B : Hp), vs = .ref p :: vr ∧ H p = some (.lst ws) ∧ RepL K F ws l ∧ RepL K F vr ds ∧ F p = none ∧ B p = none ∧ Ex F H ∧ Ex B H ∧ Dis B F ∧
  Post (m l ds) (fun _ => False) fun r => ∀ v H' F' ws', Nxt B F H' F' → F' p = none → H' p = some (.lst ws') → RepL K F' ws' r.2 → Rep K F' v r.1 → Q v H'
def startS (N : Nat) (ds : List D) : SD := ds.map (fun d => some (.d d)) ++ List.replicate (N - ds.length) none
def startH (N : Nat) (l ds : List D) : SD := some (.ol l) :: (ds.map (fun d => some (.d d)) ++ List.replicate (N - (ds.length + 1)) none)
def mdef (N : Nat) (body : SD → Rs (Fl × SD)) : List D → Rs D := fun ds => (body (startS N ds)).bind fun r => match r.1 with
  | .rt d => .ok d
  | .nx => .ok .none
  | _ => .bad
def mdefH (N : Nat) (body : SD → Rs (Fl × SD)) : List D → List D → Rs (D × List D) := fun l ds => (body (startH N l ds)).bind fun r => (toRs (ownL r.2 0)).bind fun l' => match r.1 with
  | .rt d => .ok (d, l')
  | .nx => .ok (.none, l')
  | _ => .bad
section
variable {K : PySem.W.Frag} {eo : EO} {E : XK} {B H F H' F' F1 : Hp} {s sx s' s1 : SD} {σ σ' σx : L2.St} {te ta tb ti tj : TE} {k : Nat} {tt tu : TT} {ts tr : TS} {i j x : Nat}
theorem start_get {ds : List D} {vs : List V} (r : RepL K F vs ds) {n m i : Nat} {x : SV} (h : (ds.map (fun d => (some (SV.d d) : Option SV)) ++ List.replicate n none)[i]? = some (some x)) :
    ∃ v, (vs.map some ++ List.replicate m none : L2.St)[i]? = some (some v) ∧ ∃ d, x = .d d ∧ Rep K F v d := by
  rcases Nat.lt_or_ge i ds.length with c | c
  · rw [List.getElem?_append_left (by simpa using c), List.getElem?_map] at h
    cases e : ds[i]? with
    | none => rw [e] at h; cases h
    | some d =>
      rw [e] at h
      cases h
      obtain ⟨v, hv, rv⟩ := r.get e
      refine ⟨v, ?_, d, rfl, rv⟩
      rw [List.getElem?_append_left (by rw [List.length_map, r.length]; exact c), List.getElem?_map, hv]
      rfl
  · rw [List.getElem?_append_right (by simpa using c), List.getElem?_replicate] at h
    split at h <;> cases h
theorem rel_start {N : List Str} {ds : List D} {vs : List V} (hF : Ex F H) (hB : Ex B H) (hD : Dis B F) (r : RepL K F vs ds) (hn : vs.length ≤ N.length) : Rel K B H F (startS N.length ds) (L2.start N vs) := by
  have hl := r.length
  refine ⟨?_, hB, hF, hD, fun _ => none, ⟨(fun _ _ h => by cases h), fun i x h => ?_⟩⟩
  · unfold startS L2.start
    simp
    omega
  · obtain ⟨v, hv, d, rfl, rv⟩ := start_get (m := N.length - vs.length) r h
    exact ⟨v, hv, rv⟩
theorem rel_startH {N : List Str} {l ds : List D} {p : Addr} {ws vr : List V} (hF : Ex F H) (hB : Ex B H) (hD : Dis B F) (hp : H p = some (.lst ws)) (rl : RepL K F ws l) (r : RepL K F vr ds) (f1 : F p = none) (f2 : B p = none) (hn : vr.length + 1 ≤ N.length) :
    Rel K B H F (startH N.length l ds) (L2.start N (.ref p :: vr)) := by
  have hl := r.length
  refine ⟨?_, hB, hF, hD, fun a => if a = p then some 0 else none, fun a i h => ?_, fun i x h => ?_⟩
  · unfold startH L2.start
    simp
    omega
  · by_cases c : a = p
    · subst c; exact ⟨f1, f2⟩
    · have h : (if a = p then some 0 else none) = some i := h
      rw [if_neg c] at h; cases h
  · cases i with
    | zero =>
      have e : x = .ol l := by simpa [startH] using h.symm
      subst e
      exact ⟨.ref p, by simp [L2.start], p, ws, rfl, if_pos rfl, hp, rl⟩
    | succ i =>
      have h' : (ds.map (fun d => (some (SV.d d) : Option SV)) ++ List.replicate (N.length - (ds.length + 1)) none)[i]? = some (some x) := by
        simpa [startH] using h
      obtain ⟨v, hv, d, rfl, rv⟩ := start_get (m := N.length - (vr.length + 1)) r h'
      exact ⟨v, by simpa [L2.start] using hv, rv⟩
/-- what the caller's own things ask of a callee -/
theorem Rel.guard (R : Rel K B H F s σ) : ∃ B', Ex B' H ∧ Dis B' F ∧ Ex B B' ∧ ∀ H' F', Nxt B' F H' F' → Rel K B H' F' s σ ∧ Nxt B F H' F' := by
  obtain ⟨len, exB, exF, dis, own, h1, h2⟩ := R
  let B' : Hp := fun a => if own a = none then B a else H a
  have eBB : Ex B B' := fun a o h => by
    show (if own a = none then B a else H a) = some o
    by_cases c : own a = none
    · rw [if_pos c]; exact h
    · rw [if_neg c]; exact exB a o h
  have eB : Ex B' H := fun a o h => by
    have h : (if own a = none then B a else H a) = some o := h
    by_cases c : own a = none
    · rw [if_pos c] at h; exact exB a o h
    · rw [if_neg c] at h; exact h
  refine ⟨B', eB, fun a o h => ?_, eBB, fun H' F' ⟨n1, n2, n3, n4⟩ => ?_⟩
  · have h : (if own a = none then B a else H a) = some o := h
    by_cases c : own a = none
    · rw [if_pos c] at h; exact dis a o h
    · cases e : own a with
      | none => exact absurd e c
      | some i => exact (h1 a i e).1
  · have dB : Dis B F' := fun a o h => n4 a o (eBB a o h)
    have eB' : Ex B H' := eBB.trans n3
    let own' : Addr → Option Nat := fun a => if H a = none then none else own a
    have keyo : ∀ a i o, own a = some i → H a = some o → own' a = some i ∧ H' a = some o := fun a i o ha ho => by
      refine ⟨?_, n3 a o ?_⟩
      · show (if H a = none then none else own a) = some i
        rw [if_neg (by rw [ho]; exact fun z => nomatch z)]
        exact ha
      · show (if own a = none then B a else H a) = some o
        rw [if_neg (by rw [ha]; exact fun z => nomatch z)]
        exact ho
    refine ⟨⟨len, eB', n2, dB, own', fun a i h => ?_, fun i x h => ?_⟩, n1, n2, eB', dB⟩
    · have h : (if H a = none then none else own a) = some i := h
      cases e : H a with
      | none => rw [if_pos e] at h; cases h
      | some o =>
        rw [if_neg (by rw [e]; exact fun z => nomatch z)] at h
        refine ⟨n4 a o ?_, (h1 a i h).2⟩
        show (if own a = none then B a else H a) = some o
        rw [if_neg (by rw [h]; exact fun z => nomatch z)]
        exact e
    · obtain ⟨v, hv, hr⟩ := h2 i x h
      refine ⟨v, hv, ?_⟩
      have keyL : ∀ (qs : List Addr) (ls : List (List D)), ListsR K H F (fun a => own a = some i) qs ls → ListsR K H' F' (fun a => own' a = some i) qs ls := by
        intro qs
        induction qs with
        | nil => intro ls h; cases ls <;> exact h
        | cons q qs ih =>
          intro ls h
          cases ls with
          | nil => exact h
          | cons l ls =>
            obtain ⟨a, ⟨vs, b, c⟩, n, t⟩ := h
            obtain ⟨k1, k2⟩ := keyo _ _ _ a b
            exact ⟨k1, ⟨vs, k2, c.mono n1⟩, n, ih ls t⟩
      cases x with
      | d x => exact Rep.mono n1 hr
      | ol l =>
        obtain ⟨p, vs, e, a, b, c⟩ := hr
        obtain ⟨k1, k2⟩ := keyo _ _ _ a b
        exact ⟨p, vs, e, k1, k2, c.mono n1⟩
      | oll ls =>
        obtain ⟨p, qs, e, a, b, n, c⟩ := hr
        obtain ⟨k1, k2⟩ := keyo _ _ _ a b
        exact ⟨p, qs, e, k1, k2, n, keyL _ _ c⟩
      | od l =>
        obtain ⟨p, kvs, e, a, b, c, d⟩ := hr
        obtain ⟨k1, k2⟩ := keyo _ _ _ a b
        exact ⟨p, kvs, e, k1, k2, c, d.mono n1⟩
      | scr l =>
        obtain ⟨p, e, a⟩ := hr
        exact ⟨p, e, ex_l n1 a⟩
/-- f(a, ..) -/
def mcallP (m : List D → Rs D) (f : M (List D)) : M D := fun s => (f s).bind fun r => (m r.1).bind fun d => .ok (d, r.2)
theorem snd_call {n : Nat} {tr : TA} {f : M (List D)} {m : List D → Rs D} (h : SndA K (eo E) tr f) (hn : ∀ s ds s', f s = .ok (ds, s') → ds.length = n) : Snd K (eo E) (tCall (spP K eo n m) [] E tr) (mcallP m f) := by
  intro s σ sx σx B H F hl R Q w
  refine h s σ sx σx B H F hl R _ ?_
  refine Post.mono w.bind (fun _ q => q) fun r hr q H1 F1 e1 l1 R1 vs p1 => ?_
  have q := Post.bind (q H1 F1 e1 l1 R1)
  obtain ⟨B', g1, g2, g3, g4⟩ := R1.guard
  show spP K eo n m (vs ++ []) H1 Q E
  rw [List.append_nil]
  refine ⟨by rw [p1.length]; exact hn s r.1 r.2 hr, r.1, F1, B', R1.exF, g1, g2, p1, ?_⟩
  refine Post.mono q (fun e q H' F' nx => q H' F' (g4 H' F' nx).2) fun d hd q v H' F' nx rv => ?_
  exact q H' F' nx.1 l1 (g4 H' F' nx).1 v rv
/-- f(), no argument -/
theorem snd_call0 {m : List D → Rs D} : Snd K (eo E) (tCall (spP K eo 0 m) [] E tNil) (mcallP m (fun s => .ok ([], s))) :=
  snd_call (snda_nil) fun s ds s' h => by cases h; rfl
/-- a call that makes a list, which the caller then has for itself: not here; see mcallP -/
theorem Rel.lend {l : List D} (R : Rel K B H F s σ) (h : s[i]? = some (some (.ol l))) : ∃ p vs B', σ[i]? = some (some (.ref p)) ∧ H p = some (.lst vs) ∧ RepL K F vs l ∧ F p = none ∧ B' p = none ∧ Ex B' H ∧ Dis B' F ∧
    ∀ H' F' vs' l', Nxt B' F H' F' → F' p = none → H' p = some (.lst vs') → RepL K F' vs' l' → Rel K B H' F' (s.set i (some (.ol l'))) σ ∧ Nxt B F H' F' := by
  obtain ⟨len, exB, exF, dis, own, h1, h2⟩ := R
  obtain ⟨v, hv, p, vs, rfl, mp, hp, rl⟩ := h2 i _ h
  have mp : own p = some i := mp
  let B' : Hp := fun a => if a = p then none else if own a = none then B a else H a
  have hBp : B p = none := (h1 p i mp).2
  have eBB : Ex B B' := fun a o h => by
    show (if a = p then none else if own a = none then B a else H a) = some o
    by_cases c0 : a = p
    · subst c0; rw [hBp] at h; cases h
    rw [if_neg c0]
    by_cases c : own a = none
    · rw [if_pos c]; exact h
    · rw [if_neg c]; exact exB a o h
  have eB : Ex B' H := fun a o h => by
    have h : (if a = p then none else if own a = none then B a else H a) = some o := h
    by_cases c0 : a = p
    · rw [if_pos c0] at h; cases h
    rw [if_neg c0] at h
    by_cases c : own a = none
    · rw [if_pos c] at h; exact exB a o h
    · rw [if_neg c] at h; exact h
  refine ⟨p, vs, B', hv, hp, rl, (h1 p i mp).1, if_pos rfl, eB, fun a o h => ?_, fun H' F' vs' l' ⟨n1, n2, n3, n4⟩ hF' hH' r' => ?_⟩
  · have h : (if a = p then none else if own a = none then B a else H a) = some o := h
    by_cases c0 : a = p
    · rw [if_pos c0] at h; cases h
    rw [if_neg c0] at h
    by_cases c : own a = none
    · rw [if_pos c] at h; exact dis a o h
    · cases e : own a with
      | none => exact absurd e c
      | some i => exact (h1 a i e).1
  · have dB : Dis B F' := fun a o h => n4 a o (eBB a o h)
    have eB' : Ex B H' := eBB.trans n3
    let own' : Addr → Option Nat := fun a => if a = p then some i else if H a = none then none else own a
    have keyo : ∀ a j o, a ≠ p → own a = some j → H a = some o → own' a = some j ∧ H' a = some o := fun a j o c0 ha ho => by
      refine ⟨?_, n3 a o ?_⟩
      · show (if a = p then some i else if H a = none then none else own a) = some j
        rw [if_neg c0, if_neg (by rw [ho]; exact fun z => nomatch z)]
        exact ha
      · show (if a = p then none else if own a = none then B a else H a) = some o
        rw [if_neg c0, if_neg (by rw [ha]; exact fun z => nomatch z)]
        exact ho
    refine ⟨⟨by simpa using len, eB', n2, dB, own', fun a j h => ?_, fun j y hj => ?_⟩, n1, n2, eB', dB⟩
    · have h : (if a = p then some i else if H a = none then none else own a) = some j := h
      by_cases c0 : a = p
      · subst c0
        exact ⟨hF', hBp⟩
      rw [if_neg c0] at h
      cases e : H a with
      | none => rw [if_pos e] at h; cases h
      | some o =>
        rw [if_neg (by rw [e]; exact fun z => nomatch z)] at h
        refine ⟨n4 a o ?_, (h1 a j h).2⟩
        show (if a = p then none else if own a = none then B a else H a) = some o
        rw [if_neg c0, if_neg (by rw [h]; exact fun z => nomatch z)]
        exact e
    · rw [List.getElem?_set] at hj
      by_cases c : i = j
      · subst c
        rw [if_pos rfl] at hj
        by_cases l : i < s.length
        · rw [if_pos l] at hj
          cases hj
          exact ⟨_, hv, p, vs', rfl, if_pos rfl, hH', r'⟩
        · rw [if_neg l] at hj; cases hj
      · rw [if_neg c] at hj
        obtain ⟨v, hv', hr⟩ := h2 j y hj
        refine ⟨v, hv', ?_⟩
        have npj : ∀ a, own a = some j → a ≠ p := fun a ha z => by
          subst z
          rw [mp] at ha
          exact c (Option.some.inj ha)
        have keyL : ∀ (qs : List Addr) (ls : List (List D)), ListsR K H F (fun a => own a = some j) qs ls → ListsR K H' F' (fun a => own' a = some j) qs ls := by
          intro qs
          induction qs with
          | nil => intro ls h; cases ls <;> exact h
          | cons q qs ih =>
            intro ls h
            cases ls with
            | nil => exact h
            | cons l ls =>
              obtain ⟨a, ⟨vs, b, c⟩, n, t⟩ := h
              obtain ⟨k1, k2⟩ := keyo _ _ _ (npj _ a) a b
              exact ⟨k1, ⟨vs, k2, c.mono n1⟩, n, ih ls t⟩
        cases y with
        | d x => exact Rep.mono n1 hr
        | ol l =>
          obtain ⟨p', vs, e, a, b, c⟩ := hr
          obtain ⟨k1, k2⟩ := keyo _ _ _ (npj _ a) a b
          exact ⟨p', vs, e, k1, k2, c.mono n1⟩
        | oll ls =>
          obtain ⟨p', qs, e, a, b, n, c⟩ := hr
          obtain ⟨k1, k2⟩ := keyo _ _ _ (npj _ a) a b
          exact ⟨p', qs, e, k1, k2, n, keyL _ _ c⟩
        | od l =>
          obtain ⟨p', kvs, e, a, b, c, d⟩ := hr
          obtain ⟨k1, k2⟩ := keyo _ _ _ (npj _ a) a b
          exact ⟨p', kvs, e, k1, k2, c, d.mono n1⟩
        | scr l =>
          obtain ⟨p', e, a⟩ := hr
          exact ⟨p', e, ex_l n1 a⟩
/-- f(hand, a, ..), hand the list in slot i -/
def noErr {α : Type} : Rs α → Rs α
  | .ok a => .ok a
  | _ => .bad
def mcallH (m : List D → List D → Rs (D × List D)) (i : Nat) (f : M (List D)) : M D := fun s => (toRs (ownL s i)).bind fun _ => (f s).bind fun r => (toRs (ownL r.2 i)).bind fun l => (noErr (m l r.1)).bind fun z => .ok (z.1, r.2.set i (some (.ol z.2)))
theorem snd_callH {n : Nat} {tr : TA} {f : M (List D)} {m : List D → List D → Rs (D × List D)} (h : SndA K (eo E) tr f) (hn : ∀ s ds s', f s = .ok (ds, s') → ds.length + 1 = n) : Snd K (eo E) (tCall (spH K eo n m) [] E (tCons (tVar i) tr)) (mcallH m i f) := by
  intro s σ sx σx B H F hl R Q w
  have w := Post.bind w
  cases c0 : ownL s i with
  | none => rw [c0] at w; exact w.elim
  | some l0 =>
  rw [c0] at w
  have hs0 := ownL_some c0
  have hi0 := (List.getElem?_eq_some_iff.mp hs0).1
  obtain ⟨p, vs, B', hp, _⟩ := R.lend (i := i) (l := l0) (by rw [List.getElem?_append_left hi0]; exact hs0)
  rw [List.getElem?_append_left (by omega)] at hp
  refine ⟨.ref p, hp, ?_⟩
  refine h s σ sx σx B H F hl R _ ?_
  have w : Wish K (eo E) B F sx σ σx ((f s).bind fun r => (toRs (ownL r.2 i)).bind fun l => (noErr (m l r.1)).bind fun z => .ok (z.1, r.2.set i (some (.ol z.2)))) (fun d H' F' => ∀ v, Rep K F' v d → Q v H') := w
  refine Post.mono w.bind (fun _ q => q) fun r hr q H1 F1 e1 l1 R1 vr p1 => ?_
  have q := Post.bind (q H1 F1 e1 l1 R1)
  cases c1 : ownL r.2 i with
  | none => rw [c1] at q; exact q.elim
  | some l =>
  rw [c1] at q
  have hs1 := ownL_some c1
  have hi1 := (List.getElem?_eq_some_iff.mp hs1).1
  obtain ⟨p2, ws, B2, hp2, hH2, rl2, f1, f2, eB2, dB2, back⟩ := R1.lend (i := i) (l := l) (by rw [List.getElem?_append_left hi1]; exact hs1)
  rw [List.getElem?_append_left (by omega), hp] at hp2
  cases hp2
  show spH K eo n m ((.ref p :: vr) ++ []) H1 Q E
  rw [List.append_nil]
  have q := Post.bind q
  refine ⟨by rw [List.length_cons, p1.length]; exact hn s r.1 r.2 hr, p, vr, ws, l, r.1, F1, B2, rfl, hH2, rl2, p1, f1, f2, R1.exF, eB2, dB2, ?_⟩
  cases hm : m l r.1 with
  | bad => rw [hm] at q; exact q.elim
  | err e =>
    rw [hm] at q
    exact q.elim
  | ok z =>
  rw [hm] at q
  intro v H' F' ws' nx fp hp' rl' rv
  obtain ⟨R3, n3⟩ := back H' F' ws' z.2 nx fp hp' rl'
  rw [List.set_append_left _ _ hi1] at R3
  exact q H' F' nx.1 (by simpa using l1) R3 v rv
end
end Mir
namespace Mir
open PySem L2 Evl
def eo0 : EO := fun _ _ _ _ => False
def LenA (f : M (List D)) (n : Nat) : Prop := ∀ s ds s', f s = .ok (ds, s') → ds.length = n
theorem lenA_nil : LenA (fun s => .ok ([], s)) 0 := fun s ds s' h => by cases h; rfl
theorem lenA_cons {f : M D} {g : M (List D)} {n : Nat} (h : LenA g n) : LenA (mcons f g) (n + 1) := fun s ds s' e => by
  unfold mcons at e
  cases h1 : f s with
  | bad => rw [h1] at e; cases e
  | err _ => rw [h1] at e; cases e
  | ok r1 =>
    rw [h1] at e
    have e : ((g r1.2).bind fun r2 => Rs.ok (r1.1 :: r2.1, r2.2)) = .ok (ds, s') := e
    cases h2 : g r1.2 with
    | bad => rw [h2] at e; cases e
    | err _ => rw [h2] at e; cases e
    | ok r2 =>
      rw [h2] at e
      have e : Rs.ok (r1.1 :: r2.1, r2.2) = .ok (ds, s') := e
      cases e
      rw [List.length_cons, h r1.2 r2.1 r2.2 h2]
def mcallQ (m : List D → Rs D) (f : M (List D)) : M D := fun s => (f s).bind fun r => (noErr (m r.1)).bind fun d => .ok (d, r.2)
section
variable {K : PySem.W.Frag} {Ee : EEs} {eo : EO} {E : XK} {B H F H' F' F1 : Hp} {s sx s' s1 : SD} {σ σ' σx : L2.St} {te ta tb ti tj : TE} {k : Nat} {tt tu : TT} {ts tr : TS} {i j x : Nat}
/-- a call of a def that lets no error out -/
theorem snd_callQ {n : Nat} {tr : TA} {f : M (List D)} {m : List D → Rs D} (h : SndA K Ee tr f) (hn : LenA f n) : Snd K Ee (tCall (spP K eo0 n m) [] E0 tr) (mcallQ m f) := by
  intro s σ sx σx B H F hl R Q w
  refine h s σ sx σx B H F hl R _ ?_
  refine Post.mono w.bind (fun _ q => q) fun r hr q H1 F1 e1 l1 R1 vs p1 => ?_
  have q := Post.bind (q H1 F1 e1 l1 R1)
  obtain ⟨B', g1, g2, g3, g4⟩ := R1.guard
  show spP K eo0 n m (vs ++ []) H1 Q E0
  rw [List.append_nil]
  refine ⟨by rw [p1.length]; exact hn s r.1 r.2 hr, r.1, F1, B', R1.exF, g1, g2, p1, ?_⟩
  cases hm : m r.1 with
  | bad => rw [hm] at q; exact q.elim
  | err e => rw [hm] at q; exact q.elim
  | ok d =>
    rw [hm] at q
    exact fun v H' F' nx rv => q H' F' nx.1 l1 (g4 H' F' nx).1 v rv
theorem snd_callHQ {n : Nat} {tr : TA} {f : M (List D)} {m : List D → List D → Rs (D × List D)} (h : SndA K Ee tr f) (hn : LenA f n) : Snd K Ee (tCall (spH K eo0 (n + 1) m) [] E0 (tCons (tVar i) tr)) (mcallH m i f) := by
  intro s σ sx σx B H F hl R Q w
  have w := Post.bind w
  cases c0 : ownL s i with
  | none => rw [c0] at w; exact w.elim
  | some l0 =>
  rw [c0] at w
  have hs0 := ownL_some c0
  have hi0 := (List.getElem?_eq_some_iff.mp hs0).1
  obtain ⟨p, vs, B', hp, _⟩ := R.lend (i := i) (l := l0) (by rw [List.getElem?_append_left hi0]; exact hs0)
  rw [List.getElem?_append_left (by omega)] at hp
  refine ⟨.ref p, hp, ?_⟩
  refine h s σ sx σx B H F hl R _ ?_
  have w : Wish K Ee B F sx σ σx ((f s).bind fun r => (toRs (ownL r.2 i)).bind fun l => (noErr (m l r.1)).bind fun z => .ok (z.1, r.2.set i (some (.ol z.2)))) (fun d H' F' => ∀ v, Rep K F' v d → Q v H') := w
  refine Post.mono w.bind (fun _ q => q) fun r hr q H1 F1 e1 l1 R1 vr p1 => ?_
  have q := Post.bind (q H1 F1 e1 l1 R1)
  cases c1 : ownL r.2 i with
  | none => rw [c1] at q; exact q.elim
  | some l =>
  rw [c1] at q
  have hs1 := ownL_some c1
  have hi1 := (List.getElem?_eq_some_iff.mp hs1).1
  obtain ⟨p2, ws, B2, hp2, hH2, rl2, f1, f2, eB2, dB2, back⟩ := R1.lend (i := i) (l := l) (by rw [List.getElem?_append_left hi1]; exact hs1)
  rw [List.getElem?_append_left (by omega), hp] at hp2
  cases hp2
  show spH K eo0 (n + 1) m ((.ref p :: vr) ++ []) H1 Q E0
  rw [List.append_nil]
  have q := Post.bind q
  refine ⟨by rw [List.length_cons, p1.length, hn s r.1 r.2 hr], p, vr, ws, l, r.1, F1, B2, rfl, hH2, rl2, p1, f1, f2, R1.exF, eB2, dB2, ?_⟩
  cases hm : m l r.1 with
  | bad => rw [hm] at q; exact q.elim
  | err e => rw [hm] at q; exact q.elim
  | ok z =>
  rw [hm] at q
  intro v H' F' ws' nx fp hp' rl' rv
  obtain ⟨R3, n3⟩ := back H' F' ws' z.2 nx fp hp' rl'
  rw [List.set_append_left _ _ hi1] at R3
  exact q H' F' nx.1 (by simpa using l1) R3 v rv
end
section
variable {P : Program} {w : World} {K : PySem.W.Frag} {mg : Str → Option Value} {base : Heap} {x qual : Str} {params : Arguments} {body : List Stmt} {scope : Scope} {dvs : List V} {kws : List (Str × V)} {f : Addr} {fd : FuncData} {N ps : List Str} {k : Nat}
/-- a def keeps the promise of its mirror -/
theorem fn_P {mb : SD → Rs (Fl × SD)} (F : FunD K x qual params body scope dvs kws f fd) (S : FnScope N ps scope) (hps : ps.length ≤ N.length)
    (hb : ∀ (cdv : Value) (A : Around) (outer : List Env) (s : Shared) (H : Hp) (E : XK), Room k (A.deeper (PyProof.Rows.envOfC qual scope s.heap.objs.size f cdv)) →
      ∃ t, PSs (cxOf CX0 P w K mg base N qual scope f cdv A outer s H E).nox body t ∧ SndS K (eo0 E) 0 t mb) : FnOk P w K mg base CX0 (k + 1) f fd ps (spP K eo0 ps.length (mdef N.length mb)) := by
  refine F.ok S (fun vs H Q E h => h.1) (fun cdv A outer s H vs Q E hr h => ?_)
  obtain ⟨t, ht, hs⟩ := hb cdv A outer s H E hr
  refine ⟨t, PSs.nox ht, ?_⟩
  obtain ⟨hn, ds, F', B, eF, eB, dis, rl, post⟩ := h
  refine hs (startS N.length ds) (L2.start N vs) B H F' (rel_start eF eB dis rl (by omega)) _ ?_
  refine Post.mono (Post.bind post) (fun _ q => q) fun r _ q σ' H' F2 e2 kp R2 => ?_
  obtain ⟨fl, s2⟩ := r
  have nx : Nxt B F' H' F2 := ⟨e2, R2.exF, R2.exB, R2.dis⟩
  cases fl with
  | nx => exact q .non H' F2 nx .non
  | rt d => exact fun v rv => q v H' F2 nx rv
  | bk => exact q.elim
  | ct => exact q.elim
theorem fn_H {mb : SD → Rs (Fl × SD)} (F : FunD K x qual params body scope dvs kws f fd) (S : FnScope N ps scope) (hps : ps.length ≤ N.length)
    (hb : ∀ (cdv : Value) (A : Around) (outer : List Env) (s : Shared) (H : Hp) (E : XK), Room k (A.deeper (PyProof.Rows.envOfC qual scope s.heap.objs.size f cdv)) →
      ∃ t, PSs (cxOf CX0 P w K mg base N qual scope f cdv A outer s H E).nox body t ∧ SndS K (eo0 E) 1 t mb) : FnOk P w K mg base CX0 (k + 1) f fd ps (spH K eo0 ps.length (mdefH N.length mb)) := by
  refine F.ok S (fun vs H Q E h => h.1) (fun cdv A outer s H vs Q E hr h => ?_)
  obtain ⟨t, ht, hs⟩ := hb cdv A outer s H E hr
  refine ⟨t, PSs.nox ht, ?_⟩
  obtain ⟨hn, p, vr, ws, l, ds, F', B, rfl, hp, rl, rd, f1, f2, eF, eB, dis, post⟩ := h
  refine hs (startH N.length l ds) (L2.start N (.ref p :: vr)) B H F' (rel_startH eF eB dis hp rl rd f1 f2 (by rw [List.length_cons] at hn; omega)) _ ?_
  have post := Post.bind post
  refine Post.mono post (fun _ q => q.elim) fun r _ q σ' H' F2 e2 kp R2 => ?_
  have q := Post.bind q
  cases c : ownL r.2 0 with
  | none => rw [c] at q; exact q.elim
  | some l' =>
  rw [c] at q
  obtain ⟨p', ws', hp', hH', rl', g1, g2, _⟩ := R2.mutOl (ownL_some c)
  have e0 : (L2.start N (.ref p :: vr))[0]? = some (some (.ref p)) := by simp [L2.start]
  rw [kp.2 0 (by omega), e0] at hp'
  cases hp'
  obtain ⟨fl, s2⟩ := r
  have nx : Nxt B F' H' F2 := ⟨e2, R2.exF, R2.exB, R2.dis⟩
  cases fl with
  | nx => exact q .non H' F2 ws' nx g1 hH' rl' .non
  | rt d => exact fun v rv => q v H' F2 ws' nx g1 hH' rl' rv
  | bk => exact q.elim
  | ct => exact q.elim
end
end Mir
/-! enumerate of a tuple -/
namespace Mir
open PySem L2 Evl PyProof.Rows
theorem meets_enumerate_newT (t : Addr) (items : Array Value) :
    Meets (Builtin.«enumerate.__new__» ⟨[.type "enumerate", .ref t], []⟩) (fun _ R sh => sh.heap.IsTuple t items ∧
      R (.ok (.ret (.ref (sh.heap.push { cls := .type "tuple_iterator", data := .fields #[.ref t, .int 0 0] }).objs.size)))
        { sh with heap := (sh.heap.push { cls := .type "tuple_iterator", data := .fields #[.ref t, .int 0 0] }).push { cls := .type "enumerate", data := .fields #[.none, .bool false, .ref sh.heap.objs.size, rawInt 0, .none, .none] } }) :=
  .of_wp fun pgm wd Ar R sh hh => by
    obtain ⟨hp, g, d, tk, os⟩ := sh; obtain ⟨h1, hh⟩ := hh
    have hsub := sub_enumerate
    have q1 : ∀ {A' : Around} {Ev : Value → Shared → Prop} {Q : Value → Shared → Prop}, Q (.ref hp.objs.size) ⟨hp.push { cls := .type "tuple_iterator", data := .fields #[.ref t, .int 0 0] }, g, d, tk, os⟩ → wpAny (model pgm wd) A' (pyIter (.ref t)) Q Ev ⟨hp, g, d, tk, os⟩ :=
      fun q => wpAny_pyIter_tuple h1 q
    wp_walk using q1
    refine wpAny_stack_any fun stt => wpAny_pure ?_
    split
    · rename_i c _ _ _ _ _
      cases (c == (Value.type "enumerate"))
      · wp_walk using q1
        exact ⟨_, rfl, hh⟩
      · wp_walk using q1
        exact ⟨_, rfl, hh⟩
    · wp_walk using q1
      exact ⟨_, rfl, hh⟩
section
variable {pgm : Program} {wd : World} {Ar : Around} {Ev : Value → Shared → Prop} {sh : Shared}
theorem call_enumerate_tuple {t : Addr} {items : Array Value} {Q : Value → Shared → Prop} (hL : sh.heap.IsTuple t items)
    (hh : ∀ hh', IsEnum hh' (sh.heap.objs.size + 1) sh.heap.objs.size 0 .none → hh'.IsTupleIter sh.heap.objs.size t 0 → hh'.objs.size = sh.heap.objs.size + 2 →
      (∀ b o, sh.heap.get? b = some o → hh'.get? b = some o) → Q (.ref (sh.heap.objs.size + 1)) { sh with heap := hh' }) :
    wpAny (model pgm wd) Ar (call (.type "enumerate") [.ref t]) Q Ev sh := by
  refine callType_new F.called_enumerate (by decide) (F.typeCall_enumerate_1 _)
    (F.newCall_enumerate_1 _) (fun x => F.args_object_init_2 x _) F.entry_enumerate_new
    (meets_enumerate_newT t items) ⟨hL, ?_⟩
  have hz : (sh.heap.push { cls := .type "tuple_iterator", data := .fields #[.ref t, .int 0 0] }).objs.size = sh.heap.objs.size + 1 := Heap.size_push ..
  show _ ∧ _
  rw [hz]
  have hen : IsEnum ((sh.heap.push { cls := .type "tuple_iterator", data := .fields #[.ref t, .int 0 0] }).push
      { cls := .type "enumerate", data := .fields #[.none, .bool false, .ref sh.heap.objs.size, rawInt 0, .none, .none] }) (sh.heap.objs.size + 1) sh.heap.objs.size 0 .none := by
    have := Heap.get?_push_size (sh.heap.push { cls := .type "tuple_iterator", data := .fields #[.ref t, .int 0 0] })
      (o := { cls := .type "enumerate", data := .fields #[.none, .bool false, .ref sh.heap.objs.size, rawInt 0, .none, .none] }) rfl
    rw [hz] at this; exact this
  refine ⟨⟨_, hen, rfl⟩, hh _ hen ⟨_, Heap.get?_push_of_some _ (Heap.get?_push_size _ rfl), rfl, rfl⟩ (by rw [Heap.size_push, hz]) fun b o x => Heap.get?_push_of_some _ (Heap.get?_push_of_some _ x)⟩
end
def IteT (K : PySem.W.Frag) (a : Addr) : It :=
  { go := fun i H => ∃ xs x, SqT K H a xs ∧ xs[i]? = some x,
    yld := fun i H v H' => ∃ T x, v = .ref T ∧ H T = none ∧ H' = upd H T (.tup [.int (i : Nat), x]) ∧ ∀ xs, SqT K H a xs → xs[i]? = some x,
    stop := fun i H => ∃ xs, SqT K H a xs ∧ xs.length ≤ i }
theorem next_enumT_end {pgm : Program} {wd : World} {Ar : Around} {Ev : Value → Shared → Prop} {sh : Shared} {en it l : Addr} {i : Nat} {items : Array Value} {od0 : Value} {Q : Option Value → Shared → Prop} (hh : Ar.handled = none)
    (hen : IsEnum sh.heap en it i od0) (hjt : sh.heap.IsTupleIter it l i) (hl : sh.heap.IsTuple l items) (hx : items[i]? = none)
    (hQ : ∀ hh', Heap.ExtBut it sh.heap hh' → Q none { sh with heap := hh' }) : wpAny (model pgm wd) Ar (pyNext (.ref en)) Q Ev sh := by
  have hT : sh.TypeIs (.ref en) "enumerate" := ⟨_, hen, rfl⟩
  unfold pyNext
  refine wpAny_bind (wpAny_attempt (wpAny_callSpecial?_slot
    (name := Str.ofString "__next__") hT F.slot_enumerate_next
    (wpAny_call_entry F.slot_enumerate_next hT
      F.entry_enumerate_next ?_ (F.args_enumerate_next_1 _))))
  show wpAny _ _ (field (.ref en) 2 >>= _) _ _ _
  refine wpAny_bind (wpAny_field hen rfl (x := .ref it) rfl ?_)
  refine wpAny_bind (wpAny_nextOf_tuple_end hh hjt hl hx fun hh' x he' hx' => ?_)
  obtain ⟨o, hob, hcl⟩ := hx'
  refine wpAny_bind (wpAny_isInstance (T := "StopIteration") (b := true) ⟨o, hob, hcl⟩ isSubtype_stop ?_)
  exact wpAny_pure (hQ _ he')
theorem turn_enumT {P : Program} {wd : World} {K : PySem.W.Frag} {elts : List Expr} {kk : Nat} {tpos : Pos} (a en it : Addr) :
    Turn P wd K (.Tuple elts kk tpos) (IteT K a) [en, it] en (fun i hh => (∃ od0, IsEnum hh en it ((i : Nat) : Int) od0) ∧ hh.IsTupleIter it a i ∧ en ≠ it ∧ a ≠ it ∧ en ≠ a) where
  mem := by simp
  obj := fun i hh stt b hbb => by
    obtain ⟨⟨od0, hen⟩, ⟨o, hob, hcl, hdd⟩, _⟩ := stt
    have en' : b = en ∨ b = it := by simpa using hbb
    rcases en' with zz | zz
    · rw [zz]; exact ⟨_, hen, fun v q => nomatch q⟩
    · rw [zz]; exact ⟨o, hob, fun v q => by rw [hdd] at q; cases q⟩
  keep := fun i hh hh' stt k => let ⟨⟨od0, hen⟩, hi, hne⟩ := stt; ⟨⟨od0, k en (by simp) _ hen⟩, hi.at fun o q => k it (by simp) o q, hne⟩
  item := by
    intro X hP hw hK hcl i pins sh σ H Ev I hf stt hg
    subst hP hw hK
    obtain ⟨⟨od0, hen⟩, hjt, hne, hai, hea⟩ := stt
    obtain ⟨xs, x, hqq, hx⟩ := hg
    obtain ⟨jts, rvv, p, hz⟩ := I.tuple hqq
    obtain ⟨u, hu, ru⟩ := rvv.get hx
    have hen2 : en < sh.heap.objs.size := Heap.lt_size hen
    have hjl : it < sh.heap.objs.size := by obtain ⟨_, q, _⟩ := hjt; exact Heap.lt_size q
    have ht : sh.heap.IsTuple a jts.toArray := p
    have D := Draws.tuple (prog := X.prog) (w := X.w) (A := X.A.in1) (I.ok.hd hcl) it a hai jts.toArray
    have hi : i < jts.toArray.size := by simpa using (List.getElem?_eq_some_iff.mp hu).1
    refine wpAny_pyNext_enum_itemD D hen ⟨hjt, ht⟩ hi hne (by simp [hne, hea]) fun y hh' tk hP hob hst' hT hsz hkp => ?_
    have ey : y = u := by
      have hP : jts.toArray[i]? = some y := hP
      rw [List.getElem?_toArray, hu] at hP
      exact (Option.some.inj hP).symm
    subst ey
    refine ⟨_, rfl, wpAny_letOwnedTupleGo_enum (s := { sh with heap := hh', toks := tk + 1 }) hob fun hh'' he' sb => ?_⟩
    have hT2 : hh''.get? sh.heap.objs.size = some { cls := .type "tuple", data := .seq #[.int i tk, y] } := (sb.2 _ (Nat.ne_of_gt hen2)).trans hT
    have nw : ObjOk X.prog X.w (upd H sh.heap.objs.size (.tup [.int (i : Nat), x])) hh'' sh.heap.objs.size (.tup [.int (i : Nat), x]) :=
      ⟨by show 2 ≤ sizeLine; decide, [.int i tk, y], .cons ⟨_, rfl⟩ (.cons ru .nil), ⟨_, hT2, rfl, _, rfl⟩⟩
    have I1 : Inv X pins σ (upd H sh.heap.objs.size (.tup [.int (i : Nat), x])) { sh with heap := hh'', toks := tk + 1 } :=
      I.turnedNew (ch := [en, it]) (fun b obj0 hbb q => (sb.2 b (fun zz => hbb (by simp [zz]))).trans (hkp b obj0 (fun zz => hbb (by simp [zz])) (fun zz => hbb (by simp [zz])) q)) hf (Nat.le_refl _) nw
    refine ⟨.ref sh.heap.objs.size, _, I1, rfl, ⟨_, x, rfl, I.hok.fresh (Nat.le_refl _), rfl, fun ys hy => by rw [I.tuple_inj hy hqq]; exact hx⟩, ⟨⟨y, ?_⟩, hst'.1.at fun o q => (sb.2 it (Ne.symm hne)).trans q, hne, hai, hea⟩, fun b hbb => ?_⟩
    · have e1 : (((i + 1) : Nat) : Int) = ((i : Nat) : Int) + 1 := by omega
      rw [e1]; exact he'
    · have hbb' : b < sh.heap.objs.size := by
        have en' : b = en ∨ b = it := by simpa using hbb
        rcases en' with zz | zz
        · rw [zz]; exact hen2
        · rw [zz]; exact hjl
      rw [upd_ne (Nat.ne_of_lt hbb')]
      exact (hf b hbb).1
  done := by
    intro X hP hw hK hcl i pins sh σ H Ev I hf stt hg
    subst hP hw hK
    obtain ⟨⟨od0, hen⟩, hjt, hne, hai, hea⟩ := stt
    obtain ⟨xs, hqq, hx⟩ := hg
    obtain ⟨jts, rvv, p, hz⟩ := I.tuple hqq
    obtain ⟨g0, g1, g2, g3, g4, g5⟩ := hf it (by simp)
    have hl := rvv.length
    exact next_enumT_end (I.ok.hd hcl) hen hjt p (by simp; omega) fun hh' eb => ⟨rfl, I.turned (t' := sh.toks) (fun b o hbb q => eb b o hbb q) g0 g1 g3 g4 g5⟩
  self := fun Ar i sh Q Ev stt hh => let ⟨⟨_, hen⟩, _⟩ := stt; wpAny_pyIter_enum hen hh
/-- enumerate(a tuple) -/
def iEnumT (K : PySem.W.Frag) (ta : TA) : TI := fun σ H R => ta σ H fun vs H1 => ∃ a xs, vs = [.ref a] ∧ SqT K H1 a xs ∧ R (IteT K a) H1
theorem pi_enumT {X : Cx} {en : Expr} {ta : TA} {p pos tpos : Pos} {elts : List Expr} {kk : Nat} (hg : Gl X "enumerate") (hm : X.mg "enumerate" = none) (ha : PA X [en] ta) (hs : starEach [en] X.env = [(false, eval en X.env)] := by rfl) :
    PI X (.Tuple elts kk tpos) (.Call (.Name "enumerate" p) [en] [] pos) (iEnumT X.K ta) := by
  refine ⟨fun pins sh σ H R I hh => ?_⟩
  refine Call_ (ld_blt I hg hm boot_enumerate (PyProof.Rows.callWith_type1 (thn (ha.run pos pins sh σ H _ I hh) fun uvs sh1 ⟨vs, H1, I1, r1, q1⟩ => ?_) hs rfl))
  obtain ⟨a, xs, ex, hqq, q⟩ := q1
  subst ex
  cases r1 with
  | cons r rr =>
    cases rr
    cases r
    obtain ⟨jts, rvv, p', hz⟩ := I1.tuple hqq
    refine call_enumerate_tuple p' fun hh' hen hjt hsz hkp => wpAny_pyIter_enum hen ?_
    have I2 : Inv X pins σ H1 { sh1 with heap := hh' } := I1.kept (t' := sh1.toks) hkp
    have hal : a < sh1.heap.objs.size := by
      obtain ⟨o, hob, _⟩ := p'
      exact Heap.lt_size hob
    refine ⟨sh1.heap.objs.size + 1, [sh1.heap.objs.size + 1, sh1.heap.objs.size], _, _, H1, rfl, I2, turn_enumT a (sh1.heap.objs.size + 1) sh1.heap.objs.size, ⟨⟨.none, hen⟩, hjt, Nat.succ_ne_self _, Nat.ne_of_lt hal, Nat.ne_of_gt (Nat.lt_succ_of_lt hal)⟩, fun b hbb => ?_, q⟩
    have en' : b = sh1.heap.objs.size + 1 ∨ b = sh1.heap.objs.size := by simpa using hbb
    have hll : sh1.heap.objs.size ≤ b := by
      rcases en' with zz | zz
      · rw [zz]; exact Nat.le_add_right _ _
      · rw [zz]; exact Nat.le_refl _
    exact I1.fpOk hll (I1.hok.fresh hll)
section
variable {K : PySem.W.Frag} {Ee : EEs} {B H F H' F' F1 : Hp} {sh sx s' sh1 : SD} {σ σ' σx : L2.St} {te ta tb ti tj : TE} {k : Nat} {i j x : Nat}
theorem isIt_enumT {a : Addr} {vs : List V} {ds : List D} (hh : SqT K F a vs) (r : RepL K F vs ds) : IsIt K F (IteT K a) (enumD ds) := by
  intro H2 F2 e1 e2
  have h2 : SqT K H2 a vs := ex_t e2 (ex_t e1 hh)
  refine ⟨fun i hi => ?_, ⟨vs, h2, by rw [enumD_len, r.length]; exact Nat.le_refl _⟩, fun i d x H3 hdd y => ?_⟩
  · rw [enumD_len] at hi
    obtain ⟨v, hv, _⟩ := r.get (i := i) (d := ds[i]) (by simp [hi])
    exact ⟨vs, v, h2, hv⟩
  · obtain ⟨zz, hz, rfl⟩ := enumD_get hdd
    obtain ⟨v, hv, rp⟩ := r.get hz
    obtain ⟨T, wd, rfl, hT, rfl, y2⟩ := y
    have := y2 vs h2
    rw [hv] at this
    cases this
    have g : Grow H2 F2 (upd H2 T (.tup [.int (i : Nat), v])) (upd F2 T (.tup [.int (i : Nat), v])) := Grow.new1 e2 hT
    exact ⟨_, g, .tup (.inl (.inl upd_same)) (.cons (.int _) (.cons ((rp.mono e1).mono g.f) .nil))⟩
def oEnumT : List D → Option (List D)
  | [.tuple ds] => some (enumD ds)
  | _ => none
theorem sndi_enumT {ta : TA} {f : M (List D)} (hh : SndA K Ee ta f) : SndI K Ee (iEnumT K ta) (mit oEnumT f) := by
  intro sh σ sx σx B H F hl R Q wd
  refine hh sh σ sx σx B H F hl R _ ?_
  refine Post.mono wd.bind (fun _ q => q) fun r1 _ q H1 F1 e1 l1 R1 v1 p1 => ?_
  have q := q H1 F1 e1 l1 R1
  obtain ⟨ds, sh1⟩ := r1
  have q : Wish K Ee B F1 sx σ σx (lift (oEnumT ds) sh1) _ := q
  unfold oEnumT at q
  split at q
  · obtain ⟨v, rfl, r⟩ := repL1 p1
    cases r with
    | @tup a vs ds h1 h2 => exact ⟨a, vs, rfl, ex_t R1.exF h1, q.here l1 R1 _ (isIt_enumT h1 h2)⟩
  · exact q.elim
end
end Mir
namespace Mir
open PySem L2 Evl
/-- a def that others call: where it stands, what it promises -/
structure Callee (P : Program) (w : World) (K : PySem.W.Frag) (mg : Str → Option Value) (base : Heap) (k : Nat) (x : Str) (ps : List Str) (sp : Sp) : Prop where
  ex : ∃ (f : Addr) (fd : FuncData), FnOk P w K mg base CX0 k f fd ps sp ∧ mg x = some (.ref f) ∧ PySem.W.keepIn K (.ref f) = true ∧ Binds K fd ps []
/-- what _law_hand promises: of the script's ints a new list -/
def spScr (K : PySem.W.Frag) (m : List Int → Rs (List D)) : Sp := fun vs H Q E => ∃ (p : Addr) (ns : List Int) (F B : Hp), vs = [.ref p] ∧ SqL K F p (ns.map V.int) ∧ Ex F H ∧ Ex B H ∧ Dis B F ∧
  Post (m ns) (fun _ => False) fun l => ∀ q H' F' ws, Nxt B F H' F' → F' q = none → B q = none → H' q = some (.lst ws) → RepL K F' ws l → H q = none → Q (.ref q) H'
/-- the script's slot -/
def scrOf (s : SD) (i : Nat) : Option (List Int) := match s[i]? with
  | some (some (.scr l)) => some l
  | _ => none
section
variable {K : PySem.W.Frag} {Ee : EEs} {B H F H' F' F1 : Hp} {s sx s' s1 : SD} {σ σ' σx : L2.St} {te ta tb ti tj : TE} {k : Nat} {i j x : Nat}
theorem scrOf_some {l : List Int} (h : scrOf s i = some l) : s[i]? = some (some (.scr l)) := by
  unfold scrOf at h
  split at h
  · rename_i e
    cases h
    exact e
  · cases h
theorem Rel.scr {l : List Int} (R : Rel K B H F s σ) (h : s[i]? = some (some (.scr l))) : ∃ p, σ[i]? = some (some (.ref p)) ∧ SqL K F p (l.map V.int) := by
  obtain ⟨own, _, h2⟩ := R.own
  obtain ⟨v, hv, p, rfl, hp⟩ := h2 i _ h
  exact ⟨p, hv, hp⟩
theorem repL_int : ∀ l : List Int, RepL K F (l.map V.int) (l.map PyData.int)
  | [] => .nil
  | a :: l => .cons (.int a) (repL_int l)
/-- script[:k] -/
def mscr (i k : Nat) : M (List D) := fun s => (toRs (scrOf s i)).bind fun l => .ok ((l.take k).map PyData.int, s)
theorem sndl_scr {n : Nat} : SndL K Ee (tSl (rSlL K) (tVar i) tNoPart (tPart (tC (.int (n : Nat))))) (mscr i n) := by
  intro s σ sx σx B H F hl R Q w
  have w := Post.bind w
  cases c : scrOf s i with
  | none => rw [c] at w; exact w.elim
  | some l =>
  rw [c] at w
  have hs := scrOf_some c
  have hi := (List.getElem?_eq_some_iff.mp hs).1
  obtain ⟨p, hp, hS⟩ := R.scr (i := i) (l := l) (by rw [List.getElem?_append_left hi]; exact hs)
  rw [List.getElem?_append_left (by omega)] at hp
  refine ⟨.ref p, hp, (n : Int), rfl, p, l.map V.int, rfl, ex_l R.exF hS, fun q hq => ?_⟩
  have e : cutV (l.map V.int) none (some (n : Int)) = (l.take n).map V.int := by
    unfold cutV
    rw [HT.sIx_nat]
    show List.take (min n (l.map V.int).length - 0) (List.drop 0 (l.map V.int)) = _
    rw [List.drop_zero, Nat.sub_zero, List.map_take]
    rcases Nat.le_total n (l.map V.int).length with h | h
    · rw [Nat.min_eq_left h]
    · rw [Nat.min_eq_right h, List.take_of_length_le (Nat.le_refl _), List.take_of_length_le h]
  rw [e]
  exact w _ F _ (Ex.refl F) hl (R.fresh hl hq (repL_int _))
/-- _law_hand(script) -/
def mcallScr (m : List Int → Rs (List D)) (i : Nat) : M (List D) := fun s => (toRs (scrOf s i)).bind fun l => (noErr (m l)).bind fun r => .ok (r, s)
theorem sndl_callScr {m : List Int → Rs (List D)} : SndL K Ee (tCall (spScr K m) [] E0 (tCons (tVar i) tNil)) (mcallScr m i) := by
  intro s σ sx σx B H F hl R Q w
  have w := Post.bind w
  cases c : scrOf s i with
  | none => rw [c] at w; exact w.elim
  | some l =>
  rw [c] at w
  have hs := scrOf_some c
  have hi := (List.getElem?_eq_some_iff.mp hs).1
  obtain ⟨p, hp, hS⟩ := R.scr (i := i) (l := l) (by rw [List.getElem?_append_left hi]; exact hs)
  rw [List.getElem?_append_left (by omega)] at hp
  refine ⟨.ref p, hp, ?_⟩
  obtain ⟨B', g1, g2, g3, g4⟩ := R.guard
  have w := Post.bind w
  refine ⟨p, l, F, B', rfl, hS, R.exF, g1, g2, ?_⟩
  cases hm : m l with
  | bad => rw [hm] at w; exact w.elim
  | err e => rw [hm] at w; exact w.elim
  | ok r =>
  rw [hm] at w
  intro q H' F' ws nx fq bq hq rl hn
  obtain ⟨R', nx'⟩ := g4 H' F' nx
  -- the new list is taken into flight: as if it were fresh in the heap without it
  let H'' : Hp := fun a => if a = q then none else H' a
  have e1 : upd H'' q (.lst ws) = H' := by
    funext a
    unfold upd
    by_cases z : a = q
    · rw [if_pos z, z, hq]
    · rw [if_neg z]
      show (if a = q then none else H' a) = H' a
      rw [if_neg z]
  have nq : ∀ a o, H a = some o → a ≠ q := fun a o h z => by
    rw [z, hn] at h
    cases h
  have eF'' : Ex F' H'' := fun a o h => by
    show (if a = q then none else H' a) = some o
    rw [if_neg (fun z => by rw [z, fq] at h; cases h)]
    exact nx.2.1 a o h
  have eB'' : Ex B' H'' := fun a o h => by
    show (if a = q then none else H' a) = some o
    rw [if_neg (fun z => by rw [z, bq] at h; cases h)]
    exact nx.2.2.1 a o h
  have R'' := (g4 H'' F' ⟨nx.1, eF'', eB'', nx.2.2.2⟩).1
  have R3 := R''.fresh (p := q) (vs := ws) (l := r) hl (by show (if q = q then none else H' q) = none; rw [if_pos rfl]) rl
  rw [e1] at R3
  exact w H' F' (.ref q) nx.1 hl R3
end
section
variable {P : Program} {w : World} {K : PySem.W.Frag} {mg : Str → Option Value} {base : Heap} {x qual : Str} {params : Arguments} {body : List Stmt} {scope : Scope} {dvs : List V} {kws : List (Str × V)} {f : Addr} {fd : FuncData} {N ps : List Str} {k : Nat}
def startScr (N : Nat) (l : List Int) : SD := some (.scr l) :: List.replicate (N - 1) none
theorem rel_startScr {H F B : Hp} {N : List Str} {l : List Int} {p : Addr} (hF : Ex F H) (hB : Ex B H) (hD : Dis B F) (hS : SqL K F p (l.map V.int)) (hn : 1 ≤ N.length) : Rel K B H F (startScr N.length l) (L2.start N [.ref p]) := by
  refine ⟨?_, hB, hF, hD, fun _ => none, ⟨(fun _ _ h => by cases h), fun i x h => ?_⟩⟩
  · unfold startScr L2.start
    simp
  · cases i with
    | zero =>
      have e : x = .scr l := by simpa [startScr] using h.symm
      subst e
      exact ⟨.ref p, by simp [L2.start], p, rfl, hS⟩
    | succ i =>
      have h : (List.replicate (N.length - 1) none : SD)[i]? = some (some x) := by simpa [startScr] using h
      rw [List.getElem?_replicate] at h
      split at h <;> cases h
def mhand (N : Nat) (f : SD → Rs (Fl × SD)) (g : M (List D)) : List Int → Rs (List D) := fun ns => (f (startScr N ns)).bind fun r => match r.1 with
  | .nx => (g r.2).bind fun q => .ok q.1
  | _ => .bad
/-- _law_hand: some statements, then a list that is handed back -/
theorem fn_scr {mf : SD → Rs (Fl × SD)} {mg' : M (List D)} {x1 : Str} (F : FunD K x qual params body scope dvs kws f fd) (S : FnScope N [x1] scope) (hN : 1 ≤ N.length)
    (hb : ∀ (cdv : Value) (A : Around) (outer : List Env) (s : Shared) (H : Hp) (E : XK), Room k (A.deeper (PyProof.Rows.envOfC qual scope s.heap.objs.size f cdv)) →
      ∃ ts te, PSs (cxOf CX0 P w K mg base N qual scope f cdv A outer s H E).nox body (tSeq ts (tRet te)) ∧ SndS K (eo0 E) 0 ts mf ∧ SndL K (eo0 E) te mg') : FnOk P w K mg base CX0 (k + 1) f fd [x1] (spScr K (mhand N.length mf mg')) := by
  refine F.ok S (fun vs H Q E h => ?_) (fun cdv A outer s H vs Q E hr h => ?_)
  · obtain ⟨p, ns, F, B, rfl, _⟩ := h
    rfl
  obtain ⟨ts, te, ht, hs, hte⟩ := hb cdv A outer s H E hr
  refine ⟨_, PSs.nox ht, ?_⟩
  obtain ⟨p, ns, F', B, rfl, hS, eF, eB, dis, post⟩ := h
  -- what is tracked and is not F's is kept, too
  let B2 : Hp := fun a => if F' a = none then H a else none
  have b1 : Ex B2 H := fun a o h => by
    have h : (if F' a = none then H a else none) = some o := h
    by_cases c : F' a = none
    · rw [if_pos c] at h; exact h
    · rw [if_neg c] at h; cases h
  have b2 : Dis B2 F' := fun a o h => by
    have h : (if F' a = none then H a else none) = some o := h
    by_cases c : F' a = none
    · exact c
    · rw [if_neg c] at h; cases h
  have b3 : Ex B B2 := fun a o h => by
    show (if F' a = none then H a else none) = some o
    rw [if_pos (dis a o h)]
    exact eB a o h
  refine hs (startScr N.length ns) (L2.start N [.ref p]) B2 H F' (rel_startScr eF b1 b2 hS hN) _ ?_
  refine Post.mono (Post.bind post) (fun _ q => q.elim) fun r _ q σ' H1 F1 e1 kp R1 => ?_
  obtain ⟨fl, s1⟩ := r
  cases fl with
  | rt d => exact q.elim
  | bk => exact q.elim
  | ct => exact q.elim
  | nx =>
    refine hte s1 σ' [] [] B2 H1 F1 R1.len R1.nil _ ?_
    refine Post.mono (Post.bind q) (fun _ q => q.elim) fun r _ q H2 F2 v e2 l2 R2 => ?_
    obtain ⟨q', ws, hq, hH, rl, g1, g2, _⟩ := R2.mutOl (i := r.2.length) (l := r.1) (by simp)
    have ev : v = .ref q' := by
      rw [l2] at hq
      simpa using hq
    subst ev
    have f0 : F' q' = none := fresh_back (e1.trans e2) g1
    have h0 : H q' = none := by
      have g2 : (if F' q' = none then H q' else none) = none := g2
      rw [if_pos f0] at g2
      exact g2
    have nx : Nxt B F' H2 F2 := ⟨e1.trans e2, R2.exF, b3.trans R2.exB, fun a o h => R2.dis a o (b3 a o h)⟩
    exact q q' H2 F2 ws nx g1 (fresh_back b3 g2) hH rl h0
/-- law(script): the mirror of its body, from the script -/
def mlaw (N : Nat) (body : SD → Rs (Fl × SD)) : List Int → Rs D := fun ns => (body (startScr N ns)).bind fun r => match r.1 with
  | .rt d => .ok d
  | _ => .bad
def spLaw (K : PySem.W.Frag) (ok : List Int → Prop) : Sp := fun vs H Q _ => ∃ (p : Addr) (ns : List Int), vs = [.ref p] ∧ SqL K H p (ns.map V.int) ∧ ok ns ∧ ∀ H', Q (.bl true) H'
theorem fn_law {ok : List Int → Prop} {mb : SD → Rs (Fl × SD)} {x1 : Str} (F : FunD K x qual params body scope dvs kws f fd) (S : FnScope N [x1] scope) (hN : 1 ≤ N.length)
    (hb : ∀ (cdv : Value) (A : Around) (outer : List Env) (s : Shared) (H : Hp) (E : XK), Room k (A.deeper (PyProof.Rows.envOfC qual scope s.heap.objs.size f cdv)) →
      ∃ ts, PSs (cxOf CX0 P w K mg base N qual scope f cdv A outer s H E).nox body ts ∧ SndS K (eo0 E) 0 ts mb)
    (hok : ∀ ns, ok ns → mlaw N.length mb ns = .ok (.bool true)) : FnOk P w K mg base CX0 (k + 1) f fd [x1] (spLaw K ok) := by
  refine F.ok S (fun vs H Q E h => ?_) (fun cdv A outer s H vs Q E hr h => ?_)
  · obtain ⟨p, ns, rfl, _⟩ := h
    rfl
  obtain ⟨ts, ht, hs⟩ := hb cdv A outer s H E hr
  refine ⟨_, PSs.nox ht, ?_⟩
  obtain ⟨p, ns, rfl, hS, hns, post⟩ := h
  have hm := hok ns hns
  refine hs (startScr N.length ns) (L2.start N [.ref p]) (fun _ => none) H H (rel_startScr (Ex.refl H) (fun _ _ h => by cases h) (fun _ _ h => by cases h) hS hN) _ ?_
  unfold mlaw at hm
  cases hb' : mb (startScr N.length ns) with
  | bad => rw [hb'] at hm; cases hm
  | err e => rw [hb'] at hm; cases hm
  | ok r =>
    rw [hb'] at hm
    obtain ⟨fl, s2⟩ := r
    cases fl with
    | rt d =>
      cases hm
      exact fun σ' H' F' e kp R v rv => by
        cases rv
        exact post H'
    | nx => cases hm
    | bk => cases hm
    | ct => cases hm
end
end Mir
namespace Mir
open PySem L2 Evl
def mnil : M (List D) := fun s => .ok ([], s)
def oLst (ds : List D) : Option (List D) := if ds.length ≤ 100000 then some ds else none
def oTup (ds : List D) : Option D := if ds.length ≤ 100000 then some (.tuple ds) else none
def mfrz (f : M (List D)) : M D := fun s => (f s).bind fun r => .ok (.list r.1, r.2)
def misi (T : Ty6) (f : M D) : M D := mun (fun d => some (.bool (isT T d))) f
def snever : SD → Rs (Fl × SD) := fun _ => .bad
def mP (f : SD → Option D) : M D := fun s => lift (f s) s
section
variable {K : PySem.W.Frag} {Ee : EEs} {B H F H' F' F1 : Hp} {s sx s' s1 : SD} {σ σ' σx : L2.St} {te ta tb ti tj : TE} {k : Nat} {i j x : Nat}
def mrevL (f : M D) : M (List D) := fun s => (f s).bind fun r => (toRs (asList r.1)).bind fun l => .ok (l.reverse, r.2)
theorem sndl_rev {f : M D} (h : Snd K Ee te f) : SndL K Ee (tRevL K te) (mrevL f) := by
  intro s σ sx σx B H F hl R Q w
  refine h s σ sx σx B H F hl R _ ?_
  refine Post.mono w.of_bind (fun _ q => q) fun r _ q H1 F1 e1 l1 R1 v p => ?_
  have q := Post.bind (q H1 F1 e1 l1 R1)
  cases h0 : asList r.1 with
  | none => rw [h0] at q; exact q.elim
  | some l =>
  rw [h0] at q
  rw [asList_some h0] at p
  cases p with
  | @lst a vs _ hp rl =>
  exact ⟨a, vs, rfl, .inl (.inl (R1.exF _ _ hp)), fun t ht => q _ F1 _ (Ex.refl F1) l1 (R1.fresh l1 ht rl.reverse)⟩
def gput (i : Nat) (p : SD → Option D) : D → SD → Option SD := fun d s => (ownL s i).bind fun l => ((p s).bind asInt).bind fun z => (ixN l.length z).bind fun j => some (s.set i (some (.ol (l.set j d))))
theorem sndg_put {p : SD → Option D} (h : SndP K ti p) : SndG K Ee [] (gSub (tVar i) ti rSetL) (gput i p) := by
  intro d v s σ sx σx B H F hl R r Q w
  have w := PostO.bind w
  cases c0 : ownL s i with
  | none => rw [c0] at w; exact w.elim
  | some l =>
  rw [c0] at w
  have w := PostO.bind w
  cases c1 : (p s).bind asInt with
  | none => rw [c1] at w; exact w.elim
  | some z =>
  rw [c1] at w
  have w := PostO.bind w
  cases c2 : ixN l.length z with
  | none => rw [c2] at w; exact w.elim
  | some j =>
  rw [c2] at w
  obtain ⟨a, g1, g2⟩ := bind_some c1
  rw [asInt_some g2] at g1
  have hs := ownL_some c0
  have hi := (List.getElem?_eq_some_iff.mp hs).1
  obtain ⟨q, vs, hp, hH, rl, _⟩ := R.mutOl (i := i) (l := l) (by rw [List.getElem?_append_left hi]; exact hs)
  rw [List.getElem?_append_left (by omega)] at hp
  refine ⟨.ref q, hp, h s σ sx σx B H F hl R _ g1 _ fun w1 H2 F2 gr r2 => ?_⟩
  cases r2
  obtain ⟨q2, vs2, hp2, hH2, rl2, _, _, hput⟩ := (R.grown gr).mutOl (i := i) (l := l) (by rw [List.getElem?_append_left hi]; exact hs)
  rw [List.getElem?_append_left (by omega), hp] at hp2
  cases hp2
  refine ⟨q, vs2, z, j, rfl, rfl, hH2, by rw [rl2.length]; exact c2, ?_⟩
  have R3 := hput _ _ (rl2.set j (r.mono gr.f))
  rw [List.set_append_left _ _ hi] at R3
  exact w σ _ F2 gr.f (by simpa using hl) rfl (fun _ _ => rfl) R3
end
end Mir
/-! sorted of tuples (int, tuple of ints) -/
namespace Nst
open PySem PyProof.Rows SrtO
section
variable {prog : Program} {w : World} {A : Around} {E : Value → Shared → Prop} {sz : Shared}
def IsNest (h : Heap) (v : Value) (x : Int) (nsz : List Int) : Prop :=
  ∃ (a : Addr) (o : Obj) (t : Tok) (b : Addr) (itsz : List Value) (n : Nat), v = .ref a ∧ h.get? a = some o ∧ o.cls = .type "tuple" ∧ o.data = .seq #[.int x t, .ref b] n ∧ h.IsTuple b itsz.toArray ∧ IntsAre itsz nsz
theorem IsNest.keeps {h h' : Heap} {v : Value} {x : Int} {nsz : List Int} (p : IsNest h v x nsz) (k : ∀ b o, h.get? b = some o → o.cls = .type "tuple" → h'.get? b = some o) : IsNest h' v x nsz := by
  obtain ⟨a, o, t, b, itsz, n, e, hoz, hcz, hdz, ⟨ob, hb, cb, nb⟩, hi⟩ := p
  exact ⟨a, o, t, b, itsz, n, e, k _ _ hoz hcz, hcz, hdz, ⟨ob, k _ _ hb cb, cb, nb⟩, hi⟩
theorem ints_uniq : ∀ {vsz : List Value} {nsz msz : List Int}, IntsAre vsz nsz → IntsAre vsz msz → nsz = msz
  | _, _, _, .nil, .nil => rfl
  | _, _, _, .cons n t r, .cons _ _ r' => by rw [ints_uniq r r']
theorem IsNest.uniq {h : Heap} {v : Value} {x y : Int} {nsz msz : List Int} (p : IsNest h v x nsz) (qz : IsNest h v y msz) : x = y ∧ nsz = msz := by
  obtain ⟨a, o, t, b, itsz, n, rfl, hoz, hcz, hdz, ⟨ob, hb, cb, nb, db⟩, hi⟩ := p
  obtain ⟨a', o', t', b', its', n', e, hoz', hc', hdz', ⟨ob', hb', cb', nb', db'⟩, hi'⟩ := qz
  cases e
  rw [hoz] at hoz'
  cases hoz'
  rw [hdz] at hdz'
  injection hdz' with hd1 hd2
  have h1z := congrArg Array.toList hd1
  injection h1z with h2z h3z
  injection h2z with h4 h5
  injection h3z with h6 h7
  injection h6 with h8
  subst h8
  rw [hb] at hb'
  cases hb'
  rw [db] at db'
  injection db' with db1 db2
  have h9 : itsz = its' := by simpa using congrArg Array.toList db1
  subst h9
  exact ⟨h4, ints_uniq hi hi'⟩
theorem reads_ints {h : Heap} : ∀ {vsz : List Value} {nsz : List Int}, IntsAre vsz nsz → ReadsAll h vsz (nsz.map PyData.int) []
  | _, _, .nil => .nil
  | _, _, .cons n t r => ReadsAll.cons (as := []) (bs := []) (Reads.int n t) (reads_ints r)
theorem ints_lay : ∀ (nsz : List Int), PyData.canLayAll0 (nsz.map PyData.int) = true
  | [] => rfl
  | n :: nsz => by show (true && _) = true; rw [ints_lay nsz]; rfl
theorem ints_depth : ∀ (nsz : List Int), PyData.depthAll (nsz.map PyData.int) = 0
  | [] => rfl
  | n :: nsz => by show max 0 _ = 0; rw [ints_depth nsz]; rfl
theorem ints_eqv : ∀ (nsz msz : List Int), PyData.eqvAll (nsz.map PyData.int) (msz.map PyData.int) = decide (nsz = msz)
  | [], [] => by simp only [PyData.eqvAll, List.map_nil, decide_true]
  | [], _ :: _ => by (simp [PyData.eqvAll])
  | _ :: _, [] => by (simp [PyData.eqvAll])
  | n :: nsz, m :: msz => by
    simp only [List.map_cons, PyData.eqvAll, PyData.eqv, ints_eqv nsz msz]
    by_cases e : n = m
    · subst e; by_cases e2z : nsz = msz
      · subst e2z; simp
      · simp [e2z]
    · simp [e]
theorem lex_at : ∀ (nsz msz : List Int) (i : Nat) (e r : Nat → Bool), (∀ jz, e (i + jz) = decide (nsz.getD jz 0 = msz.getD jz 0)) → (∀ jz, r (i + jz) = decide (nsz.getD jz 0 < msz.getD jz 0)) →
    Ob.lexAt e r (decide (nsz.length < msz.length)) i (min nsz.length msz.length) = HT.lexLt nsz msz
  | [], [], i, e, r, _, _ => rfl
  | [], m :: msz, i, e, r, _, _ => by simp [Ob.lexAt, HT.lexLt]
  | n :: nsz, [], i, e, r, _, _ => by simp [Ob.lexAt, HT.lexLt]
  | n :: nsz, m :: msz, i, e, r, he, hr => by
    have ih := lex_at nsz msz (i + 1) e r (fun jz => by have := he (jz + 1); rw [show i + 1 + jz = i + (jz + 1) by omega, this]; rfl) (fun jz => by have := hr (jz + 1); rw [show i + 1 + jz = i + (jz + 1) by omega, this]; rfl)
    have h0 := he 0
    have h1z := hr 0
    rw [Nat.add_zero] at h0 h1z
    rw [show min (n :: nsz).length (m :: msz).length = min nsz.length msz.length + 1 by simp only [List.length_cons]; omega, Ob.lexAt_succ, HT.lexLt_cons, h0, h1z]
    have hdz : decide ((n :: nsz).length < (m :: msz).length) = decide (nsz.length < msz.length) := by
      simp only [List.length_cons, Nat.add_lt_add_iff_right]
    rw [hdz, ih]
    show (if decide (n = m) = true then _ else decide (n < m)) = _
    by_cases h : n = m
    · rw [if_pos h, if_pos (decide_eq_true h)]
    · rw [if_neg h, if_neg (by rw [decide_eq_false h]; exact Bool.false_ne_true)]
theorem lex_self : ∀ nsz : List Int, HT.lexLt nsz nsz = false
  | [] => rfl
  | n :: nsz => by rw [HT.lexLt_cons, if_pos rfl]; exact lex_self nsz
theorem tup_eq {b b' : Addr} {itsz its' : List Value} {nsz msz : List Int} (hu : A.units + 1 < cLine) (hb : sz.heap.IsTuple b itsz.toArray) (hb' : sz.heap.IsTuple b' its'.toArray) (hi : IntsAre itsz nsz) (hi' : IntsAre its' msz) :
    SeqAt.EqAt A sz (.ref b) (.ref b') (decide (nsz = msz)) := by
  obtain ⟨o, hoz, hcz, n, hdz⟩ := hb
  obtain ⟨o', hoz', hc', n', hdz'⟩ := hb'
  have r1 : Reads sz.heap (.ref b) (.tuple (nsz.map PyData.int)) [] := Reads.tuple hoz hcz hdz (by simpa using reads_ints hi)
  have r2 : Reads sz.heap (.ref b') (.tuple (msz.map PyData.int)) [] := Reads.tuple hoz' hc' hdz' (by simpa using reads_ints hi')
  have qz := SeqAt.eqAt_reads _ _ A sz _ _ _ _ r1 r2 (by simp [PyData.canLay0, ints_lay]) (by simp [PyData.canLay0, ints_lay]) (by simp only [PyData.depth, ints_depth]; omega)
  simp only [PyData.eqv, ints_eqv] at qz
  exact qz
theorem tup_lt {b b' : Addr} {itsz its' : List Value} {nsz msz : List Int} (hu : A.units < cLine) (hb : sz.heap.IsTuple b itsz.toArray) (hb' : sz.heap.IsTuple b' its'.toArray) (i1 : IntsAre itsz nsz) (i2 : IntsAre its' msz) :
    Ob.RcOp .Lt A sz (.ref b) (.ref b') (HT.lexLt nsz msz) := by
  have e1z : itsz.toArray.size = nsz.length := by rw [List.size_toArray]; exact i1.length
  have e2z : its'.toArray.size = msz.length := by rw [List.size_toArray]; exact i2.length
  have at1z : ∀ jz (h1z : jz < itsz.toArray.size), ∃ t, itsz.toArray[jz] = .int (nsz.getD jz 0) t := fun jz h1z => PyProof.Rows.IntsAre.int_at i1 _ _ (by simp at h1z; simp [h1z])
  have at2z : ∀ jz (h1z : jz < its'.toArray.size), ∃ t, its'.toArray[jz] = .int (msz.getD jz 0) t := fun jz h1z => PyProof.Rows.IntsAre.int_at i2 _ _ (by simp at h1z; simp [h1z])
  have Rz := Ob.RcOp.tuples_lt (A := A) (s := sz) (e := fun jz => decide (nsz.getD jz 0 = msz.getD jz 0)) (r := fun jz => decide (nsz.getD jz 0 < msz.getD jz 0)) hb hb' hu (fun jz h1z h2z => by
    obtain ⟨t, et⟩ := at1z jz h1z
    obtain ⟨t', et'⟩ := at2z jz h2z
    rw [et, et']
    have zz : (nsz.getD jz 0 == msz.getD jz 0) = decide (nsz.getD jz 0 = msz.getD jz 0) := by
      by_cases qz : nsz.getD jz 0 = msz.getD jz 0
      · rw [decide_eq_true qz]; exact beq_iff_eq.mpr qz
      · rw [decide_eq_false qz]; exact beq_eq_false_iff_ne.mpr qz
    rw [← zz]
    exact SeqAt.EqAt.int_int _ _ _ _) (fun jz h1z h2z _ => by
    obtain ⟨t, et⟩ := at1z jz h1z
    obtain ⟨t', et'⟩ := at2z jz h2z
    rw [et, et']
    exact Ob.RcOp.lt_int _ _ _ _)
  rw [e1z, e2z, lex_at nsz msz 0 _ _ (fun jz => by rw [Nat.zero_add]) (fun jz => by rw [Nat.zero_add])] at Rz
  exact Rz
def Keyed' (h : Heap) (k : Value → List Int) (v : Value) : Prop := ∃ x nsz, k v = x :: nsz ∧ IsNest h v x nsz
theorem nest_cmp {vsz : List Value} {k : Value → List Int} (hu : A.units + 1 < cLine) (hp : ∀ v ∈ vsz, Keyed' sz.heap k v) : Cmp prog w A sz (tuples' true) (fun p => p.1 ∈ vsz) (lt2 fun v u => HT.lexLt (k v) (k u)) := by
  intro p qz hmz hmz'
  obtain ⟨x, nsz, kx, a, o, t, b, itsz, n, e, hoz, hcz, hdz, hb, hi⟩ := hp _ hmz
  obtain ⟨x', msz, kx', a', o', t', b', its', n', e', hoz', hc', hdz', hb', hi'⟩ := hp _ hmz'
  show wpAny (model prog w) A (keyLt' (tuples' true) p.1 qz.1) (fun r s' => s' = sz ∧ r = HT.lexLt (k p.1) (k qz.1)) (fun _ _ => False) sz
  rw [kx, kx', e, e', HT.lexLt_cons]
  refine PySem.W.kat_lt hoz hdz hoz' hdz' ?_
  show PySem.W.KatLex prog w A true (decide (2 < 2)) _ [(.int x t, .int x' t'), (.ref b, .ref b')] 0 sz
  refine PySem.W.kat_cons (SeqAt.EqAt.int_int (A := _) x t x' t' prog w _ _ ?_)
  refine PySem.W.kat_go (fun e1z => ?_) (fun e1z => ?_)
  · have exz : x = x' := by simpa using e1z
    refine PySem.W.kat_yes (PySem.W.kat_cons (tup_eq hu hb hb' hi hi' prog w _ _ ?_))
    refine PySem.W.kat_go (fun e2z => ?_) (fun e2z => ?_)
    · have ey : nsz = msz := by simpa using e2z
      refine PySem.W.kat_yes (PySem.W.kat_nil ⟨rfl, ?_⟩)
      rw [if_pos exz, ey, lex_self]
      rfl
    · refine PySem.W.kat_no (PySem.W.kat_one _ _ (tup_lt (by omega) hb hb' hi hi' prog w _ _ ?_))
      exact ⟨rfl, by rw [if_pos exz]⟩
  · have exz : ¬ x = x' := by simpa using e1z
    refine PySem.W.kat_no (oneLt_int ⟨rfl, ?_⟩)
    rw [if_neg exz]
theorem firsts {h : Heap} : ∀ {vsz : List Value}, (∀ v ∈ vsz, ∃ x nsz, IsNest h v x nsz) → ∃ fsz : List Value, PySem.W.KatTups h vsz fsz ∧ fsz.length = vsz.length ∧ ∀ f ∈ fsz, ∃ x t, f = Value.int x t
  | [], _ => ⟨[], PySem.W.KatTups.nil, rfl, fun _ hmz => by simp at hmz⟩
  | v :: vsz, hp => by
    obtain ⟨fsz, h1z, h2z, h3z⟩ := firsts (vsz := vsz) fun v' hmz => hp v' (List.mem_cons_of_mem _ hmz)
    obtain ⟨x, nsz, a, o, t, b, itsz, n, e, hoz, hcz, hdz, _⟩ := hp v (List.mem_cons_self ..)
    subst e
    refine ⟨.int x t :: fsz, PySem.W.KatTups.cons hoz hcz hdz rfl h1z, by rw [List.length_cons, List.length_cons, h2z], fun f hmz => ?_⟩
    rcases List.mem_cons.mp hmz with rfl | hmz
    · exact ⟨x, t, rfl⟩
    · exact h3z f hmz
theorem nest_sortable {a : Addr} {vsz : List Value} {k : Value → List Int} (hu : A.units + 1 < cLine) (h0 : 0 < vsz.length) (hp : ∀ v ∈ vsz, Keyed' sz.heap k v) (ha : ∀ o, sz.heap.get? a = some o → o.cls ≠ .type "tuple") : SortableO prog w A sz a vsz fun v u => HT.lexLt (k v) (k u) := by
  intro h' keep
  have hp' : ∀ v ∈ vsz, Keyed' h' k v := fun v hmz => by
    obtain ⟨x, nsz, e, p⟩ := hp v hmz
    exact ⟨x, nsz, e, p.keeps fun b o e c => keep b o (fun zz => by subst zz; exact ha o e c) e⟩
  obtain ⟨fsz, h1z, h2z, h3z⟩ := firsts fun v hmz => by
    obtain ⟨x, nsz, _, p⟩ := hp' v hmz
    exact ⟨x, nsz, p⟩
  refine ⟨tuples' true, fun Q E hq => ?_, nest_cmp hu hp'⟩
  refine PySem.W.kat_kind (T := .type "int") h1z (by omega) (fun f hmz => ?_) (by rfl) ?_
  · obtain ⟨x, t, rfl⟩ := h3z f hmz
    exact PySem.W.Looks.now
  · have e : ((Value.type "int") != (Value.type "tuple")) = true := by first | rfl | decide +kernel
    rw [e]
    exact hq
end
end Nst

namespace Mir
open PySem L2 Evl
/-- a value (int, tuple of ints), by itsz key -/
def NestV (K : PySem.W.Frag) (H : Hp) (y : V) (k : List Int) : Prop := ∃ (a b : Addr) (x : Int) (nsz : List Int), y = .ref a ∧ SqT K H a [.int x, .ref b] ∧ SqT K H b (nsz.map V.int) ∧ k = x :: nsz
def rSortedN (K : PySem.W.Frag) : List V → Hp → VK → Prop := fun vsz H Q => ∃ (a : Addr) (yk : List (V × List Int)), vsz = [.ref a] ∧ SqL K H a (yk.map (·.1)) ∧ (∀ p, p ∈ yk → NestV K H p.1 p.2) ∧
  ∀ (zk : List (V × List Int)) (p : Addr), SrtO.Srtd (fun x y => HT.lexLt x.2 y.2) zk → zk.Perm yk → H p = none → Q (.ref p) (upd H p (.lst (zk.map (·.1))))
section
variable {X : Cx}
open Classical in
noncomputable def keyOf (h : Heap) (u : Value) : List Int := if e : ∃ x nsz, Nst.IsNest h u x nsz then e.choose :: e.choose_spec.choose else []
theorem keyOf_eq {h : Heap} {u : Value} {x : Int} {nsz : List Int} (p : Nst.IsNest h u x nsz) : keyOf h u = x :: nsz := by
  have e : ∃ x nsz, Nst.IsNest h u x nsz := ⟨x, nsz, p⟩
  unfold keyOf
  rw [dif_pos e]
  obtain ⟨a, b⟩ := e.choose_spec.choose_spec.uniq p
  exact List.cons_eq_cons.mpr ⟨a, b⟩
theorem nestV_is {pinsz : _} {σ : _} {H : Hp} {sz : Shared} (I : Inv X pinsz σ H sz) {y : V} {u : Value} {k : List Int} (h : NestV X.K H y k) (r : RelV y u) : ∃ x nsz, k = x :: nsz ∧ Nst.IsNest sz.heap u x nsz := by
  obtain ⟨a, b, x, nsz, rfl, h1z, h2z, rfl⟩ := h
  cases r
  obtain ⟨itsz, r1, ⟨o, hoz, hcz, n, hdz⟩, _⟩ := I.tuple h1z
  obtain ⟨its2, r2, p2, _⟩ := I.tuple h2z
  cases r1 with
  | cons q1 r1 =>
  cases r1 with
  | cons q2 r1 =>
  cases r1
  obtain ⟨t, rfl⟩ := q1
  cases q2
  exact ⟨x, nsz, rfl, a, o, t, b, its2, n, rfl, hoz, hcz, hdz, p2, Vals.ints r2⟩
theorem cr_sortedN (hu : X.A.units + 64 < cLine) : CallR X (.builtin "sorted") (rSortedN X.K) := by
  intro pinsz sz σ H vsz usz Q I r h
  obtain ⟨a, yk, rfl, hs, hk, qz⟩ := h
  obtain ⟨itsz, rvz, hlz, hzz⟩ := I.list hs
  rw [Vals.ref1 r]
  have hyk : ∀ (yk : List (V × List Int)) (itsz : List Value), Vals (yk.map (·.1)) itsz → (∀ p, p ∈ yk → NestV X.K H p.1 p.2) → yk = itsz.map (fun u => (backV u, keyOf sz.heap u)) ∧ (∀ u ∈ itsz, ∃ a, u = Value.ref a) ∧ ∀ u ∈ itsz, Nst.Keyed' sz.heap (keyOf sz.heap) u := by
    intro yk
    induction yk with
    | nil => intro itsz rvz _; cases rvz; exact ⟨rfl, fun u hu => (by cases hu), fun u hu => (by cases hu)⟩
    | cons p yk ih =>
      intro itsz rvz hk
      cases rvz with
      | @cons _ u _ usz q1 rvz =>
      obtain ⟨e1z, e2z, e3⟩ := ih usz rvz fun p hp => hk p (List.mem_cons_of_mem _ hp)
      have hp := hk p (by simp)
      obtain ⟨x, nsz, kx, pn⟩ := nestV_is I hp q1
      obtain ⟨a, b, x', ns', ey, _⟩ := hp
      have q1' : RelV p.1 u := q1
      rw [ey] at q1'
      have eu : u = .ref a := q1'
      have ek := keyOf_eq pn
      refine ⟨?_, fun v hv => ?_, fun v hv => ?_⟩
      · rw [List.map_cons, ← e1z, ek, ← kx, eu]
        show p :: yk = (V.ref a, p.2) :: yk
        rw [← ey]
      · rcases List.mem_cons.mp hv with rfl | hv
        · exact ⟨a, eu⟩
        · exact e2z v hv
      · rcases List.mem_cons.mp hv with rfl | hv
        · exact ⟨x, nsz, ek, pn⟩
        · exact e3 v hv
  obtain ⟨e1z, e2z, e3⟩ := hyk yk itsz rvz hk
  refine SrtO.sorted_ord (NtL.swo_lexL (keyOf sz.heap)) hlz.isList (by rw [← rvz.length]; exact hzz) (fun h2z h₁ a' ha kk => ?_) fun outz h1z h2z => ?_
  · refine Nst.nest_sortable (sz := { sz with heap := h₁ }) (by show X.A.in1.in1.units + 1 < cLine; have e : X.A.in1.in1.units = X.A.units + 2 := rfl; omega) (by omega) (fun v hmz => ?_) fun o e => ?_
    · obtain ⟨x, nsz, exz, p⟩ := e3 v hmz
      exact ⟨x, nsz, exz, p.keeps fun b o e _ => (kk b o e).2⟩
    · have e' := e.symm.trans ha
      cases e'
      intro c
      exact absurd (Value.type.inj c) (by first | decide)
  · have h3z : ∀ u ∈ outz, ∃ a, u = Value.ref a := fun u hu => e2z u (h2z.perm.mem_iff.mp hu)
    obtain ⟨epz, hez'⟩ := PyProof.Rows.sortedAll_at sz.heap itsz outz.toArray
    have k2 : (outz.map fun u => (backV u, keyOf sz.heap u)).Perm yk := by rw [e1z]; exact h2z.perm.map _
    have k3 : SrtO.Srtd (fun x y : V × List Int => HT.lexLt x.2 y.2) (outz.map fun u => (backV u, keyOf sz.heap u)) := List.pairwise_map.mpr h1z
    have k4 : (outz.map fun u => (backV u, keyOf sz.heap u)).map (·.1) = outz.map backV := by rw [List.map_map]; rfl
    have hlenz : (outz.map backV).length ≤ sizeLine := by
      rw [List.length_map, h2z.perm.length_eq, ← rvz.length]
      exact hzz
    have q' := qz _ (sz.heap.objs.size + 1) k3 k2 (I.hok.fresh (Nat.le_succ _))
    rw [k4] at q'
    exact ⟨.ref _, upd H (sz.heap.objs.size + 1) (.lst (outz.map backV)), I.laid (t' := sz.toks) (fun _ _ => PyProof.Rows.sortedAll_old) (Nat.le_succ _) ⟨hlenz, outz, epz, vals_back h3z, hez'⟩, rfl, q'⟩
end
end Mir
namespace Mir
open PySem L2 Evl
/-- the key of (a, (b, c, ..)) : a, b, c, .. -/
def nestKey : D → Option (List Int)
  | .tuple [.int a, .tuple l] => (allInts l).bind fun k => some (a :: k)
  | _ => none
def keyD' (d : D) : List Int := (nestKey d).getD []
def nestLt (x y : D) : Bool := HT.lexLt (keyD' x) (keyD' y)
def nestIns (x : D) : List D → List D
  | [] => [x]
  | y :: l => if nestLt y x then y :: nestIns x l else x :: y :: l
def nestSort : List D → List D
  | [] => []
  | x :: l => nestIns x (nestSort l)
def oSortedN : List D → Option (List D)
  | [.list l] => if l.all (fun d => (nestKey d).isSome) = true then if l.length ≤ 100000 then some (nestSort l) else none else none
  | _ => none
theorem nest_swo : SrtO.Swo nestLt := NtL.swo_lexL keyD'
theorem nestIns_perm (x : D) : ∀ l, (nestIns x l).Perm (x :: l)
  | [] => List.Perm.refl _
  | y :: l => by
    unfold nestIns
    by_cases c : nestLt y x = true
    · rw [if_pos c]
      exact ((nestIns_perm x l).cons y).trans (List.Perm.swap x y l)
    · rw [if_neg c]
theorem nestSort_perm : ∀ l, (nestSort l).Perm l
  | [] => List.Perm.refl _
  | x :: l => (nestIns_perm x _).trans ((nestSort_perm l).cons x)
theorem nestIns_sorted (x : D) : ∀ l, SrtO.Srtd nestLt l → SrtO.Srtd nestLt (nestIns x l)
  | [], _ => List.pairwise_singleton _ _
  | y :: l, h => by
    obtain ⟨h1z, h2z⟩ := List.pairwise_cons.mp h
    unfold nestIns
    by_cases c : nestLt y x = true
    · rw [if_pos c]
      refine List.pairwise_cons.mpr ⟨fun zz hzz => ?_, nestIns_sorted x l h2z⟩
      rcases List.mem_cons.mp ((nestIns_perm x l).mem_iff.mp hzz) with rfl | hzz
      · exact nest_swo.asym _ _ c
      · exact h1z zz hzz
    · rw [if_neg c]
      have c : nestLt y x = false := by simpa using c
      refine List.pairwise_cons.mpr ⟨fun zz hzz => ?_, h⟩
      rcases List.mem_cons.mp hzz with rfl | hzz
      · exact c
      · exact nest_swo.tr x y zz c (h1z zz hzz)
theorem nestSort_sorted : ∀ l, SrtO.Srtd nestLt (nestSort l)
  | [] => List.Pairwise.nil
  | x :: l => nestIns_sorted x _ (nestSort_sorted l)
theorem lex_eq : ∀ a b : List Int, HT.lexLt a b = false → HT.lexLt b a = false → a = b
  | [], [], _, _ => rfl
  | [], _ :: _, h, _ => by rw [HT.lexLt_nil_cons] at h; cases h
  | _ :: _, [], _, h => by rw [HT.lexLt_nil_cons] at h; cases h
  | x :: a, y :: b, h1z, h2z => by
    rw [HT.lexLt_cons] at h1z h2z
    by_cases e : x = y
    · subst e
      rw [if_pos rfl] at h1z h2z
      rw [lex_eq a b h1z h2z]
    · rw [if_neg e] at h1z
      rw [if_neg (fun zz => e zz.symm)] at h2z
      have := of_decide_eq_false h1z
      have := of_decide_eq_false h2z
      omega
theorem allInts_map : ∀ {l : List D} {k : List Int}, allInts l = some k → l = k.map PyData.int
  | [], k, h => by cases h; rfl
  | d :: l, k, h => by
    cases d with
    | int c =>
      obtain ⟨cs, h1z, h2z⟩ := bind_some h
      cases h2z
      rw [allInts_map h1z]
      rfl
    | none => cases h
    | bool b => cases h
    | str b => cases h
    | list b => cases h
    | tuple b => cases h
    | dict b => cases h
theorem nestKey_some {d : D} {k : List Int} (h : nestKey d = some k) : ∃ a nsz, k = a :: nsz ∧ d = .tuple [.int a, .tuple (nsz.map PyData.int)] := by
  unfold nestKey at h
  split at h
  · rename_i a l
    obtain ⟨cs, h1z, h2z⟩ := bind_some h
    cases h2z
    exact ⟨a, cs, rfl, by rw [allInts_map h1z]⟩
  · cases h
theorem nest_anti {x y : D} (hx : (nestKey x).isSome = true) (hy : (nestKey y).isSome = true) (h1z : nestLt x y = false) (h2z : nestLt y x = false) : x = y := by
  have e := lex_eq _ _ h1z h2z
  unfold keyD' at e
  cases exz : nestKey x with
  | none => rw [exz] at hx; cases hx
  | some k =>
  cases ey : nestKey y with
  | none => rw [ey] at hy; cases hy
  | some k' =>
  rw [exz, ey] at e
  have e : k = k' := e
  subst e
  obtain ⟨a, nsz, ek, rfl⟩ := nestKey_some exz
  obtain ⟨a', ns', ek', rfl⟩ := nestKey_some ey
  rw [ek] at ek'
  cases ek'
  rfl
theorem sorted_one {lt : D → D → Bool} (hr : ∀ x, lt x x = false) : ∀ {l m : List D}, SrtO.Srtd lt l → SrtO.Srtd lt m → l.Perm m → (∀ x, x ∈ l → ∀ y, y ∈ l → lt x y = false → lt y x = false → x = y) → l = m
  | [], m, _, _, p, _ => (List.Perm.eq_nil p.symm).symm
  | x :: l, [], _, _, p, _ => absurd p.length_eq (by simp)
  | x :: l, y :: m, hlz, hmz, p, ha => by
    obtain ⟨a1, a2⟩ := List.pairwise_cons.mp hlz
    obtain ⟨b1, b2⟩ := List.pairwise_cons.mp hmz
    have hy : y ∈ x :: l := p.mem_iff.mpr (by simp)
    have hx : x ∈ y :: m := p.mem_iff.mp (by simp)
    have h1z : lt y x = false := by
      rcases List.mem_cons.mp hy with rfl | h
      · exact hr _
      · exact a1 y h
    have h2z : lt x y = false := by
      rcases List.mem_cons.mp hx with rfl | h
      · exact hr _
      · exact b1 x h
    have e := ha x (by simp) y hy h2z h1z
    subst e
    rw [sorted_one hr a2 b2 (List.Perm.cons_inv p) fun u hu v hv => ha u (List.mem_cons_of_mem _ hu) v (List.mem_cons_of_mem _ hv)]
theorem perm_back {α β : Type} {f : α → β} : ∀ {zk m : List β}, zk.Perm m → ∀ T : List α, m = T.map f → ∃ T' : List α, T'.Perm T ∧ zk = T'.map f := by
  intro zk m p
  induction p with
  | nil => intro T e; exact ⟨T, List.Perm.refl _, e⟩
  | cons x p ih =>
    intro T e
    cases T with
    | nil => cases e
    | cons t T =>
      injection e with e1z e2z
      obtain ⟨T', h1z, h2z⟩ := ih T e2z
      exact ⟨t :: T', h1z.cons t, by rw [List.map_cons, ← e1z, h2z]⟩
  | swap x y l =>
    intro T e
    cases T with
    | nil => cases e
    | cons t T =>
      cases T with
      | nil => cases e
      | cons u T =>
        injection e with e1z e2z
        injection e2z with e2z e3
        exact ⟨u :: t :: T, List.Perm.swap t u T, by rw [List.map_cons, List.map_cons, ← e1z, ← e2z, ← e3]⟩
  | trans p qz ih1 ih2 =>
    intro T e
    obtain ⟨T1, h1z, h2z⟩ := ih2 T e
    obtain ⟨T2, h3z, h4⟩ := ih1 T1 h2z
    exact ⟨T2, h3z.trans h1z, h4⟩
section
variable {K : PySem.W.Frag}
theorem nest_rep {F H : Hp} (e : Ex F H) {v : V} {d : D} {k : List Int} (r : Rep K F v d) (h : nestKey d = some k) : NestV K H v k := by
  obtain ⟨a, nsz, rfl, rfl⟩ := nestKey_some h
  cases r with
  | @tup p vsz _ hp rl =>
  cases rl with
  | cons r1 rl =>
  cases rl with
  | cons r2 rl =>
  cases rl
  cases r1
  cases r2 with
  | @tup p2 vs2 _ hp2 rl2 =>
  have e2z : ∀ {ws : List V} {nsz : List Int}, RepL K F ws (nsz.map PyData.int) → ws = nsz.map V.int := by
    intro ws nsz
    induction nsz generalizing ws with
    | nil => intro h; cases h; rfl
    | cons n nsz ih => intro h; cases h with | cons a b => cases a; rw [ih b]; rfl
  rw [e2z rl2] at hp2
  exact ⟨p, p2, a, nsz, rfl, ex_t e hp, ex_t e hp2, rfl⟩
theorem zip_rep {F : Hp} : ∀ {vsz : List V} {ds : List D}, RepL K F vsz ds → ∃ T : List (V × D), T.map (·.1) = vsz ∧ T.map (·.2) = ds ∧ ∀ t, t ∈ T → Rep K F t.1 t.2
  | _, _, .nil => ⟨[], rfl, rfl, fun t h => by cases h⟩
  | _, _, .cons (v := v) (d := d) a b => by
    obtain ⟨T, h1z, h2z, h3z⟩ := zip_rep b
    refine ⟨(v, d) :: T, by rw [List.map_cons, h1z], by rw [List.map_cons, h2z], fun t h => ?_⟩
    rcases List.mem_cons.mp h with rfl | h
    · exact a
    · exact h3z t h
theorem rep_zip {F : Hp} : ∀ {T : List (V × D)}, (∀ t, t ∈ T → Rep K F t.1 t.2) → RepL K F (T.map (·.1)) (T.map (·.2))
  | [], _ => .nil
  | t :: T, h => .cons (h t (by simp)) (rep_zip fun t h' => h t (List.mem_cons_of_mem _ h'))
theorem calll_sortedN : CallL K (rSortedN K) oSortedN := by
  intro vsz ds l H F e r hoz Q qz
  unfold oSortedN at hoz
  split at hoz
  · rename_i l0
    by_cases c : l0.all (fun d => (nestKey d).isSome) = true
    · rw [if_pos c] at hoz
      by_cases c2 : l0.length ≤ 100000
      · rw [if_pos c2] at hoz
        cases hoz
        obtain ⟨v, rfl, rvz⟩ := repL1 r
        cases rvz with
        | @lst a ws _ h1z h2z =>
        obtain ⟨T, t1, t2, t3⟩ := zip_rep h2z
        have hs : ∀ t, t ∈ T → (nestKey t.2).isSome = true := fun t ht => List.all_eq_true.mp c t.2 (by rw [← t2]; exact List.mem_map.mpr ⟨t, ht, rfl⟩)
        refine ⟨a, T.map fun t => (t.1, keyD' t.2), rfl, ?_, fun p hp => ?_, fun zk p hzz hp hn => ?_⟩
        · rw [List.map_map, show ((fun x : V × List Int => x.1) ∘ fun t : V × D => (t.1, keyD' t.2)) = (·.1) from rfl, t1]
          exact .inl (.inl (e _ _ h1z))
        · obtain ⟨t, ht, rfl⟩ := List.mem_map.mp hp
          have h3z := hs t ht
          cases hk : nestKey t.2 with
          | none => rw [hk] at h3z; cases h3z
          | some k =>
            have : keyD' t.2 = k := by unfold keyD'; rw [hk]; rfl
            dsimp only
            rw [this]
            exact nest_rep e (t3 t ht) hk
        · obtain ⟨T', p1, rfl⟩ := perm_back hp T rfl
          have hT' : ∀ t, t ∈ T' → t ∈ T := fun t ht => p1.mem_iff.mp ht
          have hperm : (T'.map (·.2)).Perm l0 := by rw [← t2]; exact p1.map _
          have hsort : SrtO.Srtd nestLt (T'.map (·.2)) := List.pairwise_map.mpr (List.pairwise_map.mp hzz)
          have heq : T'.map (·.2) = nestSort l0 := sorted_one (fun x => nest_swo.refl x) hsort (nestSort_sorted l0) (hperm.trans (nestSort_perm l0).symm) fun x hx y hy => by
            have hx' := List.all_eq_true.mp c x (hperm.mem_iff.mp hx)
            have hy' := List.all_eq_true.mp c y (hperm.mem_iff.mp hy)
            exact nest_anti hx' hy'
          have hr := rep_zip (K := K) (F := F) (T := T') fun t ht => t3 t (hT' t ht)
          rw [heq] at hr
          have := qz p _ hn hr
          rw [List.map_map]
          exact this
      · rw [if_neg c2] at hoz; cases hoz
    · rw [if_neg c] at hoz; cases hoz
  · cases hoz
end
end Mir
namespace Mir
open PySem L2 Evl
section
variable {K : PySem.W.Frag} {Ee : EEs} {B H F : Hp} {s sx tl pre : SD} {σ σx : L2.St} {te : TE}
/-- no list of lists at all is a list of nothing, too -/
theorem Rel.oll0 (R : Rel K B H F (pre ++ some (.ol []) :: tl) σ) : Rel K B H F (pre ++ some (.oll []) :: tl) σ := by
  obtain ⟨len, exB, exF, dis, own, h1, h2⟩ := R
  refine ⟨by simpa using len, exB, exF, dis, own, h1, fun i x hx => ?_⟩
  by_cases hi : i < pre.length
  · refine h2 i x ?_
    rw [List.getElem?_append_left hi] at hx ⊢
    exact hx
  · by_cases e : i = pre.length
    · subst e
      rw [List.getElem?_append_right (Nat.le_refl _), Nat.sub_self] at hx
      cases hx
      obtain ⟨v, hv, p, vs, e, a, b, c⟩ := h2 pre.length (.ol []) (by rw [List.getElem?_append_right (Nat.le_refl _), Nat.sub_self]; rfl)
      cases c
      exact ⟨v, hv, p, [], e, a, b, by simp, trivial⟩
    · refine h2 i x ?_
      rw [List.getElem?_append_right (by omega)] at hx ⊢
      obtain ⟨k, hk⟩ : ∃ k, i - pre.length = k + 1 := ⟨i - pre.length - 1, by omega⟩
      rw [hk] at hx ⊢
      exact hx
/-- an empty list that is to hold lists -/
def mLL0 (f : M (List D)) : M SV := fun s => (f s).bind fun r => match r.1 with
  | [] => .ok (.oll [], r.2)
  | _ => .bad
theorem SndV.ofL0 {f : M (List D)} (h : SndL K Ee te f) : SndV K Ee te (mLL0 f) := by
  intro s σ sx σx B H F hl R Q w
  refine h s σ sx σx B H F hl R Q ?_
  have w := Post.bind w
  refine Post.mono w (fun _ q => q) fun r _ q => ?_
  obtain ⟨l, s1⟩ := r
  cases l with
  | cons d l => exact q.elim
  | nil =>
    intro H' F' v e l1 R1
    exact q H' F' v e l1 R1.oll0
end
end Mir
namespace Mir
open PySem L2 Evl
theorem Rs.bind_ok {α β : Type} {a : α} {k : α → Rs β} : (Rs.ok a).bind k = k a := rfl
theorem toRs_some {α : Type} {a : α} : toRs (some a) = .ok a := rfl
theorem lift_some {α : Type} {a : α} {s : SD} : lift (some a) s = .ok (a, s) := rfl
theorem asInt_int {i : Int} : asInt (.int i) = some i := rfl
theorem asList_list {l : List D} : asList (.list l) = some l := rfl
theorem asTup_tup {l : List D} : asTup (.tuple l) = some l := rfl
theorem noErr_ok {α : Type} {a : α} : noErr (Rs.ok a) = .ok a := rfl
theorem obind_some {α β : Type} {a : α} {k : α → Option β} : (some a).bind k = k a := rfl
theorem asBool_bool {b : Bool} : asBool (.bool b) = some b := rfl
theorem ifT {α : Type} {a b : α} : (if true = true then a else b) = a := rfl
theorem ifF {α : Type} {a b : α} : (if false = true then a else b) = b := rfl
/-- what a for's turn does -/
def turn (g : D → SD → Option SD) (body : SD → Rs (Fl × SD)) (d : D) (s : SD) : Rs (Fl × SD) := (toRs (g d s)).bind body
theorem mfor_cons {g : D → SD → Option SD} {body : SD → Rs (Fl × SD)} {d : D} {ds : List D} {s : SD} : mfor g body (d :: ds) s = (turn g body d s).bind fun r => match r.1 with
    | .nx => mfor g body ds r.2
    | .ct => mfor g body ds r.2
    | .bk => .ok (.nx, r.2)
    | .rt d => .ok (.rt d, r.2) := by
  unfold turn
  show (toRs (g d s)).bind _ = _
  cases g d s <;> rfl
/-- a loop that goes through: P by the turn -/
theorem mfor_inv {g : D → SD → Option SD} {body : SD → Rs (Fl × SD)} (P : Nat → SD → Prop) : ∀ (ds : List D) (s : SD), P 0 s →
    (∀ i d s, ds[i]? = some d → P i s → ∃ s', turn g body d s = .ok (.nx, s') ∧ P (i + 1) s') → ∃ s', mfor g body ds s = .ok (.nx, s') ∧ P ds.length s' := by
  intro ds
  induction ds generalizing P with
  | nil => exact fun s h _ => ⟨s, rfl, h⟩
  | cons d ds ih =>
    intro s h0 hs
    obtain ⟨s1, h1, h2⟩ := hs 0 d s rfl h0
    obtain ⟨s2, h3, h4⟩ := ih (fun i => P (i + 1)) s1 h2 fun i d' s' hd p => hs (i + 1) d' s' (by simpa using hd) p
    exact ⟨s2, by rw [mfor_cons, h1]; exact h3, h4⟩
/-- a loop that may be left by a return: P holds until then; R is what is handed back -/
theorem mfor_ret {g : D → SD → Option SD} {body : SD → Rs (Fl × SD)} (P : Nat → SD → Prop) (R : D → SD → Prop) : ∀ (ds : List D) (s : SD), P 0 s →
    (∀ i d s, ds[i]? = some d → P i s → (∃ s', turn g body d s = .ok (.nx, s') ∧ P (i + 1) s') ∨ ∃ v s', turn g body d s = .ok (.rt v, s') ∧ R v s') →
    (∃ s', mfor g body ds s = .ok (.nx, s') ∧ P ds.length s') ∨ ∃ v s', mfor g body ds s = .ok (.rt v, s') ∧ R v s' := by
  intro ds
  induction ds generalizing P with
  | nil => exact fun s h _ => .inl ⟨s, rfl, h⟩
  | cons d ds ih =>
    intro s h0 hs
    rcases hs 0 d s rfl h0 with ⟨s1, h1, h2⟩ | ⟨v, s1, h1, h2⟩
    · rcases ih (fun i => P (i + 1)) s1 h2 fun i d' s' hd p => hs (i + 1) d' s' (by simpa using hd) p with ⟨s2, h3, h4⟩ | ⟨v, s2, h3, h4⟩
      · exact .inl ⟨s2, by rw [mfor_cons, h1]; exact h3, h4⟩
      · exact .inr ⟨v, s2, by rw [mfor_cons, h1]; exact h3, h4⟩
    · exact .inr ⟨v, s1, by rw [mfor_cons, h1]; rfl, h2⟩
/-- a comprehension that changes nothing -/
theorem mlc_pure {α : Type} {fg : D → SD → Option SD} {ft : M Bool} {fe : M α} {vs : List Nat} {p : D → Bool} {v : D → α} {s : SD} : ∀ (ds : List D),
    (∀ d, d ∈ ds → ∃ s1 s2, fg d s = some s1 ∧ ft s1 = .ok (p d, s2) ∧ (p d = true → ∃ s3, fe s2 = .ok (v d, s3) ∧ wipeS s3 vs = s) ∧ (p d = false → wipeS s2 vs = s)) →
    mlc fg ft fe vs ds s = .ok ((ds.filter p).map v, s)
  | [], _ => rfl
  | d :: ds, h => by
    obtain ⟨s1, s2, h1, h2, h3, h4⟩ := h d (by simp)
    have ih := mlc_pure ds fun d' hd => h d' (List.mem_cons_of_mem _ hd)
    unfold mlc
    rw [h1, toRs_some, Rs.bind_ok, h2, Rs.bind_ok]
    cases hp : p d with
    | true =>
      obtain ⟨s3, h5, h6⟩ := h3 hp
      show (fe s2).bind _ = _
      rw [h5, Rs.bind_ok, h6, ih, Rs.bind_ok, List.filter_cons, if_pos hp]
      rfl
    | false =>
      show mlc fg ft fe vs ds (wipeS s2 vs) = _
      rw [h4 hp, ih, List.filter_cons, if_neg (by rw [hp]; exact Bool.false_ne_true)]
/-- the same without a test -/
theorem mlc_map {α : Type} {fg : D → SD → Option SD} {fe : M α} {vs : List Nat} {v : D → α} {s : SD} (ds : List D)
    (h : ∀ d, d ∈ ds → ∃ s1 s3, fg d s = some s1 ∧ fe s1 = .ok (v d, s3) ∧ wipeS s3 vs = s) : mlc fg mtrue fe vs ds s = .ok (ds.map v, s) := by
  have := mlc_pure (p := fun _ => true) (ft := mtrue) (v := v) (fg := fg) (fe := fe) (vs := vs) (s := s) ds fun d hd => by
    obtain ⟨s1, s3, h1, h2, h3⟩ := h d hd
    exact ⟨s1, s1, h1, rfl, fun _ => ⟨s3, h2, h3⟩, fun z => by cases z⟩
  rw [this, List.filter_eq_self.mpr (fun _ _ => rfl)]
end Mir
namespace Mir
open PySem L2 Evl
/-- what a statement leaves: goes on with Q, or hands back with R -/
def NR0 (r : Rs (Fl × SD)) (Q : SD → Prop) (R : D → SD → Prop) : Prop := match r with
  | .ok (.nx, s) => Q s
  | .ok (.rt d, s) => R d s
  | _ => False
@[irreducible] def NR (r : Rs (Fl × SD)) (Q : SD → Prop) (R : D → SD → Prop) : Prop := NR0 r Q R
theorem nr_def {r : Rs (Fl × SD)} {Q : SD → Prop} {R : D → SD → Prop} : NR r Q R = NR0 r Q R := by unfold NR; rfl
theorem nr_nx {s : SD} {Q : SD → Prop} {R : D → SD → Prop} : NR (.ok (.nx, s)) Q R = Q s := nr_def
theorem nr_rt {d : D} {s : SD} {Q : SD → Prop} {R : D → SD → Prop} : NR (.ok (.rt d, s)) Q R = R d s := nr_def
theorem nr_ite {c : Prop} [Decidable c] {a b : Rs (Fl × SD)} {Q : SD → Prop} {R : D → SD → Prop} : NR (if c then a else b) Q R = if c then NR a Q R else NR b Q R := by
  by_cases h : c
  · rw [if_pos h, if_pos h]
  · rw [if_neg h, if_neg h]
theorem isNone_none : isNone .none = true := by rfl
theorem isNone_int {i : Int} : isNone (.int i) = false := by rfl
theorem isNone_bool {i : Bool} : isNone (.bool i) = false := by rfl
theorem isNone_tup {i : List D} : isNone (.tuple i) = false := by rfl
theorem isNone_list {i : List D} : isNone (.list i) = false := by rfl
/-- what comes behind -/
def after (g : SD → Rs (Fl × SD)) (Q : SD → Prop) (R : D → SD → Prop) (s : SD) : Prop := NR (g s) Q R
theorem after_app {g : SD → Rs (Fl × SD)} {Q : SD → Prop} {R : D → SD → Prop} {s : SD} : after g Q R s = NR (g s) Q R := rfl
theorem nr_seq {f g : SD → Rs (Fl × SD)} {s : SD} {Q : SD → Prop} {R : D → SD → Prop} : NR (sseq f g s) Q R = NR (f s) (after g Q R) R := by
  unfold sseq after
  simp only [nr_def]
  cases f s with
  | ok r => obtain ⟨fl, s1⟩ := r; cases fl <;> rfl
  | err e => rfl
  | bad => rfl
theorem NR.mono {r : Rs (Fl × SD)} {Q Q' : SD → Prop} {R R' : D → SD → Prop} (h : NR r Q R) (hq : ∀ s, Q s → Q' s) (hr : ∀ d s, R d s → R' d s) : NR r Q' R' := by
  rw [nr_def] at h ⊢
  unfold NR0 at h ⊢
  split at h
  · exact hq _ h
  · exact hr _ _ h
  · exact h.elim
theorem nr_mfor {g : D → SD → Option SD} {body : SD → Rs (Fl × SD)} {Q : SD → Prop} {R : D → SD → Prop} (P : Nat → SD → Prop) : ∀ (ds : List D) (s : SD), P 0 s →
    (∀ i d s, ds[i]? = some d → P i s → NR (turn g body d s) (P (i + 1)) R) → (∀ s, P ds.length s → Q s) → NR (mfor g body ds s) Q R := by
  intro ds
  induction ds generalizing P with
  | nil => exact fun s h _ q => by rw [nr_def]; exact q s h
  | cons d ds ih =>
    intro s h0 hs q
    have h1 := hs 0 d s rfl h0
    rw [mfor_cons]
    revert h1
    rw [nr_def, nr_def]
    cases turn g body d s with
    | ok r =>
      obtain ⟨fl, s1⟩ := r
      cases fl with
      | nx => rw [← nr_def (r := Rs.bind _ _)]; exact fun h1 => ih (fun i => P (i + 1)) s1 h1 (fun i d' s' hd p => hs (i + 1) d' s' (by simpa using hd) p) q
      | rt v => exact fun h1 => h1
      | ct => exact fun h1 => h1.elim
      | bk => exact fun h1 => h1.elim
    | err e => exact fun h1 => h1.elim
    | bad => exact fun h1 => h1.elim
theorem nr_for {f : M (List D)} {g : D → SD → Option SD} {body : SD → Rs (Fl × SD)} {s s1 : SD} {ds : List D} {Q : SD → Prop} {R : D → SD → Prop} (P : Nat → SD → Prop) (hf : f s = .ok (ds, s1)) (h0 : P 0 s1)
    (hs : ∀ i d s, ds[i]? = some d → P i s → NR (turn g body d s) (P (i + 1)) R) (hq : ∀ s, P ds.length s → Q s) : NR (sfor f g body s) Q R := by
  have : sfor f g body s = mfor g body ds s1 := by unfold sfor; rw [hf]; rfl
  rw [this]
  exact nr_mfor P ds s1 h0 hs hq
theorem nr_fors {f : M (List D)} {g : D → SD → Option SD} {body : SD → Rs (Fl × SD)} {s : SD} {ds : List D} {Q : SD → Prop} {R : D → SD → Prop} (P : Nat → SD → Prop) (hf : f s = .ok (ds, s)) (h0 : P 0 s)
    (hs : ∀ i d s, ds[i]? = some d → P i s → NR (turn g body d s) (P (i + 1)) R) (hq : ∀ s, P ds.length s → Q s) : NR (sfor f g body s) Q R := nr_for P hf h0 hs hq
theorem nr_cut {f g : SD → Rs (Fl × SD)} {s : SD} {Q : SD → Prop} {R : D → SD → Prop} (P : SD → Prop) (h : NR (f s) P R) (h2 : ∀ s, P s → NR (g s) Q R) : NR (sseq f g s) Q R := by
  rw [nr_seq]
  exact h.mono h2 fun _ _ h => h
/-- a loop that hands back at the first that p holds of -/
theorem nr_find {f : M (List D)} {g : D → SD → Option SD} {body : SD → Rs (Fl × SD)} {s s1 : SD} {ds : List D} {Q : SD → Prop} {R : D → SD → Prop} (p : D → Bool) (r : D → D) (P : SD → Prop) (hf : f s = .ok (ds, s1)) (h0 : P s1)
    (hs : ∀ d s, d ∈ ds → P s → (p d = true → NR (turn g body d s) (fun _ => False) (fun x _ => x = r d)) ∧ (p d = false → NR (turn g body d s) P (fun _ _ => False)))
    (hq : ds.find? p = none → ∀ s, P s → Q s) (hr : ∀ d, ds.find? p = some d → ∀ s, R (r d) s) : NR (sfor f g body s) Q R := by
  have e : sfor f g body s = mfor g body ds s1 := by unfold sfor; rw [hf]; rfl
  rw [e]
  clear e hf
  induction ds generalizing s1 with
  | nil => rw [nr_def]; exact hq rfl s1 h0
  | cons d ds ih =>
    obtain ⟨h1, h2⟩ := hs d s1 (by simp) h0
    rw [mfor_cons]
    cases hp : p d with
    | true =>
      have h3 := h1 hp
      have hr := hr d (by rw [List.find?_cons, hp])
      revert h3
      rw [nr_def, nr_def]
      cases turn g body d s1 with
      | ok z =>
        obtain ⟨fl, s2⟩ := z
        cases fl with
        | nx => exact fun h3 => h3.elim
        | rt v => intro h3; have h3 : v = r d := h3; rw [h3]; exact hr s2
        | ct => exact fun h3 => h3.elim
        | bk => exact fun h3 => h3.elim
      | err e => exact fun h3 => h3.elim
      | bad => exact fun h3 => h3.elim
    | false =>
      have h3 := h2 hp
      have e2 : (d :: ds).find? p = ds.find? p := by rw [List.find?_cons, hp]
      rw [e2] at hq hr
      revert h3
      rw [nr_def]
      cases turn g body d s1 with
      | ok z =>
        obtain ⟨fl, s2⟩ := z
        cases fl with
        | nx => exact fun h3 => ih h3 (fun d' s hd => hs d' s (List.mem_cons_of_mem _ hd)) hq hr
        | rt v => exact fun h3 => h3.elim
        | ct => exact fun h3 => h3.elim
        | bk => exact fun h3 => h3.elim
      | err e => exact fun h3 => h3.elim
      | bad => exact fun h3 => h3.elim
theorem mdef_of {N : Nat} {body : SD → Rs (Fl × SD)} {ds : List D} {X : D} (h : NR (body (startS N ds)) (fun _ => X = .none) (fun d _ => d = X)) : mdef N body ds = .ok X := by
  unfold mdef
  revert h
  rw [nr_def]
  cases body (startS N ds) with
  | ok r =>
    obtain ⟨fl, s1⟩ := r
    cases fl with
    | nx => intro h; have h : X = .none := h; rw [h]; rfl
    | rt v => intro h; have h : v = X := h; rw [h]; rfl
    | ct => exact fun h => h.elim
    | bk => exact fun h => h.elim
  | err e => exact fun h => h.elim
  | bad => exact fun h => h.elim
theorem mdef_P {N : Nat} {body : SD → Rs (Fl × SD)} {ds : List D} {P : D → Prop} (h : NR (body (startS N ds)) (fun _ => P .none) (fun d _ => P d)) : ∃ X, mdef N body ds = .ok X ∧ P X := by
  unfold mdef
  revert h
  rw [nr_def]
  cases body (startS N ds) with
  | ok r =>
    obtain ⟨fl, s1⟩ := r
    cases fl with
    | nx => exact fun h => ⟨_, rfl, h⟩
    | rt v => exact fun h => ⟨_, rfl, h⟩
    | ct => exact fun h => h.elim
    | bk => exact fun h => h.elim
  | err e => exact fun h => h.elim
  | bad => exact fun h => h.elim
theorem mdefH_of {N : Nat} {body : SD → Rs (Fl × SD)} {l ds : List D} {Z : D → List D → Prop} (h : NR (body (startH N l ds)) (fun s => ∃ l', ownL s 0 = some l' ∧ Z .none l') (fun d s => ∃ l', ownL s 0 = some l' ∧ Z d l')) :
    ∃ d l', mdefH N body l ds = .ok (d, l') ∧ Z d l' := by
  unfold mdefH
  revert h
  rw [nr_def]
  cases body (startH N l ds) with
  | ok r =>
    obtain ⟨fl, s1⟩ := r
    cases fl with
    | nx => rintro ⟨l', h1, h2⟩; refine ⟨.none, l', ?_, h2⟩; rw [Rs.bind_ok]; dsimp only; rw [h1]; rfl
    | rt v => rintro ⟨l', h1, h2⟩; refine ⟨v, l', ?_, h2⟩; rw [Rs.bind_ok]; dsimp only; rw [h1]; rfl
    | ct => exact fun h => h.elim
    | bk => exact fun h => h.elim
  | err e => exact fun h => h.elim
  | bad => exact fun h => h.elim
theorem mlaw_of {N : Nat} {body : SD → Rs (Fl × SD)} {ns : List Int} {X : D} (h : NR (body (startScr N ns)) (fun _ => False) (fun d _ => d = X)) : mlaw N body ns = .ok X := by
  unfold mlaw
  revert h
  rw [nr_def]
  cases body (startScr N ns) with
  | ok r =>
    obtain ⟨fl, s1⟩ := r
    cases fl with
    | nx => exact fun h => h.elim
    | rt v => intro h; have h : v = X := h; rw [h]; rfl
    | ct => exact fun h => h.elim
    | bk => exact fun h => h.elim
  | err e => exact fun h => h.elim
  | bad => exact fun h => h.elim
def BR0 (r : Rs (Bool × SD)) (P : Bool → SD → Prop) : Prop := match r with
  | .ok (b, s) => P b s
  | _ => False
@[irreducible] def BR (r : Rs (Bool × SD)) (P : Bool → SD → Prop) : Prop := BR0 r P
theorem br_def {r : Rs (Bool × SD)} {P : Bool → SD → Prop} : BR r P = BR0 r P := by unfold BR; rfl
theorem br_ok {b : Bool} {s : SD} {P : Bool → SD → Prop} : BR (.ok (b, s)) P = P b s := br_def
theorem br_of {r : Rs (Bool × SD)} {P : Bool → SD → Prop} (h : BR r P) : ∃ b s, r = .ok (b, s) ∧ P b s := by
  rw [br_def] at h
  unfold BR0 at h
  split at h
  · exact ⟨_, _, rfl, h⟩
  · exact h.elim
/-- a while of which each turn makes a measure less -/
theorem nr_while {c : M Bool} {body : SD → Rs (Fl × SD)} {Q : SD → Prop} {R : D → SD → Prop} (P : Nat → SD → Prop) : ∀ (n k : Nat) (s : SD), n < k → P n s →
    (∀ n s, P n s → BR (c s) fun b s' => (b = true → NR (body s') (fun s2 => ∃ m, m < n ∧ P m s2) R) ∧ (b = false → Q s')) → NR (mwhile c body k s) Q R := by
  intro n
  induction n using Nat.strongRecOn with
  | ind n ih =>
    intro k s hk hp hs
    obtain ⟨b, s', h1, h2, h3⟩ := br_of (hs n s hp)
    cases k with
    | zero => omega
    | succ k =>
      unfold mwhile
      rw [h1, Rs.bind_ok]
      cases b with
      | false => rw [nr_def]; exact h3 rfl
      | true =>
        have h4 := h2 rfl
        dsimp only
        rw [if_pos rfl]
        revert h4
        rw [nr_def, nr_def]
        cases body s' with
        | ok r =>
          obtain ⟨fl, s1⟩ := r
          cases fl with
          | nx => rw [← nr_def (r := Rs.bind _ _)]; rintro ⟨m, hm, h5⟩; exact ih m hm k s1 (by omega) h5 hs
          | rt v => exact fun h => h
          | ct => exact fun h => h.elim
          | bk => exact fun h => h.elim
        | err e => exact fun h => h.elim
        | bad => exact fun h => h.elim
/-- a comprehension, by what each turn gives -/
theorem mlc_eq {α : Type} {fg : D → SD → Option SD} {ft : M Bool} {fe : M α} {vs : List Nat} {v : D → Option α} {s : SD} : ∀ (ds : List D),
    (∀ d, d ∈ ds → (((toRs (fg d s)).bind ft).bind fun r => if r.1 then (fe r.2).bind fun q => Rs.ok (some q.1, wipeS q.2 vs) else .ok (none, wipeS r.2 vs)) = .ok (v d, s)) →
    mlc fg ft fe vs ds s = .ok (ds.filterMap v, s)
  | [], _ => rfl
  | d :: ds, h => by
    have h1 := h d (by simp)
    have ih := mlc_eq ds fun d' hd => h d' (List.mem_cons_of_mem _ hd)
    unfold mlc
    revert h1
    cases fg d s with
    | none => exact fun h1 => by cases h1
    | some s1 =>
      rw [toRs_some, Rs.bind_ok, Rs.bind_ok]
      cases ft s1 with
      | err e => exact fun h1 => by cases h1
      | bad => exact fun h1 => by cases h1
      | ok r =>
        rw [Rs.bind_ok, Rs.bind_ok]
        obtain ⟨b, s2⟩ := r
        cases b with
        | false =>
          intro h1
          have h1 : Rs.ok (none, wipeS s2 vs) = Rs.ok (v d, s) := h1
          injection h1 with h1
          injection h1 with h1 h2
          show mlc fg ft fe vs ds (wipeS s2 vs) = _
          rw [h2, ih, List.filterMap_cons, ← h1]
        | true =>
          intro h1
          have h1 : ((fe s2).bind fun q => Rs.ok (some q.1, wipeS q.2 vs)) = Rs.ok (v d, s) := h1
          show (fe s2).bind _ = _
          revert h1
          cases fe s2 with
          | err e => exact fun h1 => by cases h1
          | bad => exact fun h1 => by cases h1
          | ok q =>
            rw [Rs.bind_ok, Rs.bind_ok]
            intro h1
            injection h1 with h1
            injection h1 with h1 h2
            rw [h2, ih, Rs.bind_ok, List.filterMap_cons, ← h1]
theorem mlc_all {α : Type} {fg : D → SD → Option SD} {fe : M α} {vs : List Nat} {v : D → α} {s : SD} (ds : List D)
    (h : ∀ d, d ∈ ds → (((toRs (fg d s)).bind fe).bind fun q => Rs.ok (q.1, wipeS q.2 vs)) = .ok (v d, s)) : mlc fg mtrue fe vs ds s = .ok (ds.map v, s) := by
  have := mlc_eq (ft := mtrue) (v := fun d => some (v d)) (fg := fg) (fe := fe) (vs := vs) (s := s) ds fun d hd => by
    have h1 := h d hd
    revert h1
    cases fg d s with
    | none => exact fun h1 => by cases h1
    | some s1 =>
      rw [toRs_some, Rs.bind_ok, Rs.bind_ok]
      show _ → ((fe s1).bind fun q => Rs.ok (some q.1, wipeS q.2 vs)) = _
      cases fe s1 with
      | err e => exact fun h1 => by cases h1
      | bad => exact fun h1 => by cases h1
      | ok q =>
        rw [Rs.bind_ok, Rs.bind_ok]
        intro h1
        injection h1 with h1
        injection h1 with h1 h2
        rw [h1, h2]
  rw [this]
  congr 2
  induction ds with
  | nil => rfl
  | cons d ds ih => rw [List.filterMap_cons]; dsimp only; rw [List.map_cons, ih (fun d hd => h d (List.mem_cons_of_mem _ hd)) (mlc_eq ds fun d' hd => by
      have h1 := h d' (List.mem_cons_of_mem _ hd)
      revert h1
      cases fg d' s with
      | none => exact fun h1 => by cases h1
      | some s1 =>
        rw [toRs_some, Rs.bind_ok, Rs.bind_ok]
        show _ → ((fe s1).bind fun q => Rs.ok (some q.1, wipeS q.2 vs)) = _
        cases fe s1 with
        | err e => exact fun h1 => by cases h1
        | bad => exact fun h1 => by cases h1
        | ok q =>
          rw [Rs.bind_ok, Rs.bind_ok]
          intro h1
          injection h1 with h1
          injection h1 with h1 h2
          rw [h1, h2])]
/-- as the whole comprehension is asked -/
theorem mlcomp_eq {α : Type} {f : M (List D)} {fg : D → SD → Option SD} {ft : M Bool} {fe : M α} {vs : List Nat} {s s1 : SD} {ds : List D} (v : D → Option α) (hf : f s = .ok (ds, s1)) (hl : ds.length ≤ 100000)
    (h : ∀ d, d ∈ ds → (((toRs (fg d (wipeS s1 vs))).bind ft).bind fun r => if r.1 then (fe r.2).bind fun q => Rs.ok (some q.1, wipeS q.2 vs) else .ok (none, wipeS r.2 vs)) = .ok (v d, wipeS s1 vs)) :
    mlcomp f fg ft fe vs s = .ok (ds.filterMap v, unwipe s1 (wipeS s1 vs) vs) := by
  unfold mlcomp
  rw [hf, Rs.bind_ok]
  dsimp only
  rw [if_pos hl, mlc_eq ds h]
  rfl
theorem mlcomp_all {α : Type} {f : M (List D)} {fg : D → SD → Option SD} {fe : M α} {vs : List Nat} {s s1 : SD} {ds : List D} (v : D → α) (hf : f s = .ok (ds, s1)) (hl : ds.length ≤ 100000)
    (h : ∀ d, d ∈ ds → (((toRs (fg d (wipeS s1 vs))).bind fe).bind fun q => Rs.ok (q.1, wipeS q.2 vs)) = .ok (v d, wipeS s1 vs)) :
    mlcomp f fg mtrue fe vs s = .ok (ds.map v, unwipe s1 (wipeS s1 vs) vs) := by
  unfold mlcomp
  rw [hf, Rs.bind_ok]
  dsimp only
  rw [if_pos hl, mlc_all ds h]
  rfl
theorem ownLL_0 {tl : SD} {ls : List (List D)} : ownLL (some (.oll ls) :: tl) 0 = some ls := by rfl
theorem ownLL_1 {x0 : Option SV} {tl : SD} {ls : List (List D)} : ownLL (x0 :: some (.oll ls) :: tl) 1 = some ls := by rfl
theorem ownLL_2 {x0 x1 : Option SV} {tl : SD} {ls : List (List D)} : ownLL (x0 :: x1 :: some (.oll ls) :: tl) 2 = some ls := by rfl
theorem ownLL_3 {x0 x1 x2 : Option SV} {tl : SD} {ls : List (List D)} : ownLL (x0 :: x1 :: x2 :: some (.oll ls) :: tl) 3 = some ls := by rfl
theorem ownLL_4 {x0 x1 x2 x3 : Option SV} {tl : SD} {ls : List (List D)} : ownLL (x0 :: x1 :: x2 :: x3 :: some (.oll ls) :: tl) 4 = some ls := by rfl
/-- shaped data, by its depth -/
def Sh (k : Nat) (d : D) : Prop := d.canLay0 = true ∧ d.depth ≤ k
def ShL (k : Nat) (l : List D) : Prop := PyData.canLayAll0 l = true ∧ PyData.depthAll l ≤ k
theorem sh_none {k : Nat} : Sh k .none := ⟨by rfl, Nat.zero_le _⟩
theorem sh_int {k : Nat} {i : Int} : Sh k (.int i) := ⟨by rfl, Nat.zero_le _⟩
theorem sh_bool {k : Nat} {b : Bool} : Sh k (.bool b) := ⟨by rfl, Nat.zero_le _⟩
theorem shL_of {k : Nat} : ∀ {l : List D}, (∀ d, d ∈ l → Sh k d) → ShL k l
  | [], _ => ⟨by rfl, Nat.zero_le _⟩
  | d :: l, h => by
    obtain ⟨a1, a2⟩ := h d (by simp)
    obtain ⟨b1, b2⟩ := shL_of fun d hd => h d (List.mem_cons_of_mem _ hd)
    constructor
    · simp [PyData.canLayAll0, a1, b1]
    · simp only [PyData.depthAll]; omega
theorem sh_tuple {k : Nat} {l : List D} (h : ∀ d, d ∈ l → Sh k d) : Sh (k + 1) (.tuple l) := by
  obtain ⟨a, b⟩ := shL_of h
  exact ⟨by simpa [PyData.canLay0] using a, by simp only [PyData.depth]; omega⟩
theorem sh_list {k : Nat} {l : List D} (h : ∀ d, d ∈ l → Sh k d) : Sh (k + 1) (.list l) := by
  obtain ⟨a, b⟩ := shL_of h
  exact ⟨by simpa [PyData.canLay0] using a, by simp only [PyData.depth]; omega⟩
theorem Sh.shaped {k : Nat} {d : D} (h : Sh k d) (hk : k ≤ 64) : SeqAt.shaped d = true := by
  unfold SeqAt.shaped
  rw [h.1, decide_eq_true (Nat.le_trans h.2 hk)]
  rfl
theorem oNe_self {k : Nat} {d : D} (h : Sh k d) (hk : k ≤ 64) : oNe d d = some (.bool false) := by
  unfold oNe
  rw [h.shaped hk, SeqAt.eqv_refl d h.1]
  rfl
theorem oNe_bool {a b : Bool} : oNe (.bool a) (.bool b) = some (.bool (a != b)) := by
  cases a <;> cases b <;> rfl
end Mir
namespace K39
open PySem PySem.Spec PyProof.Rows L2 Evl Mir
def top (i : Nat) : Stmt := PySem.Challenge.pw_pinnedtunes_k39_whole_wishes_say_bounds.main.body.getD i (.Pass ⟨0, 0, 0, 0⟩)
abbrev FnP (K : PySem.W.Frag) (x : Str) (st : Stmt) (f : Addr) (fd : FuncData) : Prop := FunD K x x (defArgs st) (defBody st) (defScope st) [] [] f fd
def bis : List Str := ["isinstance", "int", "bool", "tuple", "list", "len", "abs", "all", "any", "min", "max", "range", "enumerate", "sorted"]
def Bi (mg : Str → Option Value) : Prop := ∀ x, x ∈ bis → mg x = none
def scriptOk (ns : List Int) : Prop := ns.length ≤ 63
section
variable {P : Program} {w : World} {K : PySem.W.Frag} {mg : Str → Option Value} {base : Heap} {f : Addr} {fd : FuncData}
abbrev s_is_integer : Stmt := top 1
theorem sc_is_integer : FnScope ["thing"] ["thing"] (defScope s_is_integer) := ⟨rfl, rfl, rfl, by decide +kernel, rfl, by decide +kernel, by decide +kernel⟩
def b_is_integer : SD → Rs (Fl × SD) :=
 (sret (mandV (misi .int (mv 0)) (mnotV (misi .bool (mv 0)))))
def m_is_integer : List D → Rs D := mdef 1 b_is_integer
theorem ok_is_integer (hb : Bi mg) (F : FnP K "is_integer" s_is_integer f fd) : FnOk P w K mg base CX0 1 f fd ["thing"] (spP K eo0 1 m_is_integer) := by
  have nd := sc_is_integer.nd
  exact fn_P F sc_is_integer (by decide) (fun cdv A outer s H E hr => ⟨_,
 (pss_one (ps_ret (pe_and (pe_callB call_isi (by rfl) (hb "isinstance" (by decide +kernel)) (by decide +kernel) (pa_cons (pv 0) (pa_cons (pe_bltn (v := .ty (Ty6.name .int)) (by rfl) (hb "int" (by decide +kernel)) (by decide +kernel) rfl) pa_nil))) (pe_one (pe_not (pe_callB call_isi (by rfl) (hb "isinstance" (by decide +kernel)) (by decide +kernel) (pa_cons (pv 0) (pa_cons (pe_bltn (v := .ty (Ty6.name .bool)) (by rfl) (hb "bool" (by decide +kernel)) (by decide +kernel) rfl) pa_nil)))))))),
 (snds_ret (snd_and (snd_isi .int snd_var) (snd_not (snd_isi .bool snd_var))))⟩)

abbrev s_is_within : Stmt := top 2
theorem sc_is_within : FnScope ["thing", "least", "most"] ["thing", "least", "most"] (defScope s_is_within) := ⟨rfl, rfl, rfl, by decide +kernel, rfl, by decide +kernel, by decide +kernel⟩
def b_is_within : SD → Rs (Fl × SD) :=
 (sret (mandV (mcallQ m_is_integer (mcons (mv 0) mnil)) (mchain oLe oLe (mv 1) (mv 0) (mv 2))))
def m_is_within : List D → Rs D := mdef 3 b_is_within
theorem ok_is_within (hb : Bi mg) (h_is_integer : Callee P w K mg base 1 "is_integer" ["thing"] (spP K eo0 1 m_is_integer)) (F : FnP K "is_within" s_is_within f fd) : FnOk P w K mg base CX0 2 f fd ["thing", "least", "most"] (spP K eo0 3 m_is_within) := by
  have nd := sc_is_within.nd
  obtain ⟨f_is_integer, fd_is_integer, G_is_integer, M_is_integer, K_is_integer, B_is_integer⟩ := h_is_integer.ex
  exact fn_P F sc_is_within (by decide) (fun cdv A outer s H E hr => ⟨_,
 (pss_one (ps_ret (pe_and (pe_call G_is_integer (hr.mono (by decide)) (by rfl) M_is_integer K_is_integer B_is_integer .nil pass0 (pa_cons (pv 0) pa_nil)) (pe_one (pe_chain op_le op_le (pv 1) (pv 0) (pv 2)))))),
 (snds_ret (snd_and (snd_callQ (snda_cons snd_var snda_nil) (lenA_cons lenA_nil)) (snd_chain snd_var snd_var snd_var opp_I0 ops_le)))⟩)

abbrev s_is_row : Stmt := top 3
theorem sc_is_row : FnScope ["thing", "many", "least", "most", "one"] ["thing", "many", "least", "most"] (defScope s_is_row) := ⟨rfl, rfl, rfl, by decide +kernel, rfl, by decide +kernel, by decide +kernel⟩
def b_is_row : SD → Rs (Fl × SD) :=
 (sseq (sif (mor (mnot (mtest (misi .tup (mv 0)))) (mtest (mop oNe (mcall oLen (mcons (mv 0) mnil)) (mv 1))))
 (sret (mc (.bool false)))
 (sfl .nx))
  (sret (mcall (on1 oAllL) (mcons (mfrz (mlcomp (mitems oItemsT (mv 0)) (gset 4) mtrue (mcallQ m_is_within (mcons (mv 4) (mcons (mv 2) (mcons (mv 3) mnil)))) [4])) mnil))))
def m_is_row : List D → Rs D := mdef 5 b_is_row
theorem ok_is_row (hb : Bi mg) (h_is_within : Callee P w K mg base 2 "is_within" ["thing", "least", "most"] (spP K eo0 3 m_is_within)) (F : FnP K "is_row" s_is_row f fd) : FnOk P w K mg base CX0 3 f fd ["thing", "many", "least", "most"] (spP K eo0 4 m_is_row) := by
  have nd := sc_is_row.nd
  obtain ⟨f_is_within, fd_is_within, G_is_within, M_is_within, K_is_within, B_is_within⟩ := h_is_within.ex
  exact fn_P F sc_is_row (by decide) (fun cdv A outer s H E hr => ⟨_,
 (pss_cons (ps_if (PW.pt (pw_or (pt_not (pt_val (pe_callB call_isi (by rfl) (hb "isinstance" (by decide +kernel)) (by decide +kernel) (pa_cons (pv 0) (pa_cons (pe_bltn (v := .ty (Ty6.name .tup)) (by rfl) (hb "tuple" (by decide +kernel)) (by decide +kernel) rfl) pa_nil))))) (pw_or1 (pt_cmpR (op_neD hr.units) (pe_callB call_len (by rfl) (hb "len" (by decide +kernel)) (by decide +kernel) (pa_cons (pv 0) pa_nil)) (pv 1) (nomark _))))) (pss_one (ps_ret pe_bl)) pss_nil)
  (pss_one (ps_ret (pe_callB (cr_all rfl) (by rfl) (hb "all" (by decide +kernel)) (by decide +kernel) (pa_cons (pe_lc (own := [("one", 4)]) (g := (gName 4)) (by rfl) nd (pi_tup (pv 0)) (blkOk_by (own := [("one", 4)]) (N := ["thing", "many", "least", "most", "one"]) (sc := defScope s_is_row) (by decide +kernel)) (fun _ _ _ _ _ => (pg_name (i := 4) nd rfl (by first | exact Or.inl rfl | exact Or.inr rfl))) (fun _ _ _ _ _ => pts_nil) (fun _ _ _ _ _ => (pe_call G_is_within (hr.mono (by decide)) (by rfl) M_is_within K_is_within B_is_within .nil pass0 (pa_cons (pv 4) (pa_cons (pv 2) (pa_cons (pv 3) pa_nil)))))) pa_nil))))),
 (snds_seq (snds_if (sndt_or (sndt_not (sndt_B (snd_isi .tup snd_var))) (sndt_test (snd_op (snd_callB (snda_cons snd_var snda_nil) calls_len) snd_var ops_ne))) (snds_ret (snd_c fun _ => .bl _)) snds_next)
  (snds_ret (snd_callB (snda_cons (Snd.ofL (sndl_lc (sndi_tup snd_var) sndg_name sndt_yes (snd_callQ (snda_cons snd_var (snda_cons snd_var (snda_cons snd_var snda_nil))) (lenA_cons (lenA_cons (lenA_cons lenA_nil)))) (by decide))) snda_nil) (calls_on1 callsl_all))))⟩)

abbrev s_is_wishes : Stmt := top 10
theorem sc_is_wishes : FnScope ["many", "thing", "one", "other", "most"] ["many", "thing"] (defScope s_is_wishes) := ⟨rfl, rfl, rfl, by decide +kernel, rfl, by decide +kernel, by decide +kernel⟩
def b_is_wishes : SD → Rs (Fl × SD) :=
 (sseq (sif (mnot (mtest (mcallQ m_is_within (mcons (mv 0) (mcons (mc (.int 1)) (mcons (mc (.int 30)) mnil))))))
 snever
 (sfl .nx))
  (sseq (sif (mor (mnot (mtest (misi .tup (mv 1)))) (mtest (mop oGt (mcall oLen (mcons (mv 1) mnil)) (mc (.int 200)))))
 (sret (mc (.bool false)))
 (sfl .nx))
  (sseq (sif (mnot (mtest (mcall (on1 oAllL) (mcons (mfrz (mlcomp (mitems oItemsT (mv 1)) (gset 2) mtrue (mcallQ m_is_row (mcons (mv 2) (mcons (mc (.int 3)) (mcons (mun oNeg (mc (.int 10000))) (mcons (mc (.int 10000)) mnil))))) [2])) mnil))))
 (sret (mc (.bool false)))
 (sfl .nx))
  (sret (mcall (on1 oAllL) (mcons (mfrz (mlcomp (mitems oItemsT (mv 1)) (gtup 3 (gcons (gset 2) (gcons (gset 3) (gcons (gset 4) gnil)))) mtrue (mandV (mchain oLe oLt (mc (.int 0)) (mv 2) (mv 0)) (mandV (mchain oLe oLt (mc (.int 0)) (mv 3) (mv 0)) (mop oNe (mv 2) (mv 3)))) [2, 3, 4])) mnil))))))
def m_is_wishes : List D → Rs D := mdef 5 b_is_wishes
theorem ok_is_wishes (hb : Bi mg) {t_MOST_GAP : Tok} (g_MOST_GAP : mg "MOST_GAP" = some (.int 10000 t_MOST_GAP)) (h_is_within : Callee P w K mg base 2 "is_within" ["thing", "least", "most"] (spP K eo0 3 m_is_within)) (h_is_row : Callee P w K mg base 3 "is_row" ["thing", "many", "least", "most"] (spP K eo0 4 m_is_row)) (F : FnP K "is_wishes" s_is_wishes f fd) : FnOk P w K mg base CX0 4 f fd ["many", "thing"] (spP K eo0 2 m_is_wishes) := by
  have nd := sc_is_wishes.nd
  obtain ⟨f_is_within, fd_is_within, G_is_within, M_is_within, K_is_within, B_is_within⟩ := h_is_within.ex
  obtain ⟨f_is_row, fd_is_row, G_is_row, M_is_row, K_is_row, B_is_row⟩ := h_is_row.ex
  exact fn_P F sc_is_wishes (by decide) (fun cdv A outer s H E hr => ⟨_,
 (pss_cons (ps_if (pt_not (pt_val (pe_call G_is_within (hr.mono (by decide)) (by rfl) M_is_within K_is_within B_is_within .nil pass0 (pa_cons (pv 0) (pa_cons pe_int (pa_cons pe_int pa_nil)))))) (pss_one ps_never) pss_nil)
  (pss_cons (ps_if (PW.pt (pw_or (pt_not (pt_val (pe_callB call_isi (by rfl) (hb "isinstance" (by decide +kernel)) (by decide +kernel) (pa_cons (pv 1) (pa_cons (pe_bltn (v := .ty (Ty6.name .tup)) (by rfl) (hb "tuple" (by decide +kernel)) (by decide +kernel) rfl) pa_nil))))) (pw_or1 (pt_cmpR op_gt (pe_callB call_len (by rfl) (hb "len" (by decide +kernel)) (by decide +kernel) (pa_cons (pv 1) pa_nil)) pe_int (nomark _))))) (pss_one (ps_ret pe_bl)) pss_nil)
  (pss_cons (ps_if (pt_not (pt_val (pe_callB (cr_all rfl) (by rfl) (hb "all" (by decide +kernel)) (by decide +kernel) (pa_cons (pe_lc (own := [("one", 2)]) (g := (gName 2)) (by rfl) nd (pi_tup (pv 1)) (blkOk_by (own := [("one", 2)]) (N := ["many", "thing", "one", "other", "most"]) (sc := defScope s_is_wishes) (by decide +kernel)) (fun _ _ _ _ _ => (pg_name (i := 2) nd rfl (by first | exact Or.inl rfl | exact Or.inr rfl))) (fun _ _ _ _ _ => pts_nil) (fun _ _ _ _ _ => (pe_call G_is_row (hr.mono (by decide)) (by rfl) M_is_row K_is_row B_is_row .nil pass0 (pa_cons (pv 2) (pa_cons pe_int (pa_cons (pe_un un_neg (pe_glob (v := .int 10000) (by rfl) g_MOST_GAP ⟨_, rfl⟩)) (pa_cons (pe_glob (v := .int 10000) (by rfl) g_MOST_GAP ⟨_, rfl⟩) pa_nil))))))) pa_nil)))) (pss_one (ps_ret pe_bl)) pss_nil)
  (pss_one (ps_ret (pe_callB (cr_all rfl) (by rfl) (hb "all" (by decide +kernel)) (by decide +kernel) (pa_cons (pe_lc (own := [("one", 2), ("other", 3), ("most", 4)]) (g := (gTup K 3 (gCons (gName 2) (gCons (gName 3) (gCons (gName 4) gNil))))) (by rfl) nd (pi_tup (pv 1)) (blkOk_by (own := [("one", 2), ("other", 3), ("most", 4)]) (N := ["many", "thing", "one", "other", "most"]) (sc := defScope s_is_wishes) (by decide +kernel)) (fun _ _ _ _ _ => (pg_tup rfl (pgs_cons (pg_name (i := 2) nd rfl (by first | exact Or.inl rfl | exact Or.inr rfl)) (pgs_cons (pg_name (i := 3) nd rfl (by first | exact Or.inl rfl | exact Or.inr rfl)) (pgs_cons (pg_name (i := 4) nd rfl (by first | exact Or.inl rfl | exact Or.inr rfl)) pgs_nil))))) (fun _ _ _ _ _ => pts_nil) (fun _ _ _ _ _ => (pe_and (pe_chain op_le op_lt pe_int (pv 2) (pv 0)) (pe_and (pe_chain op_le op_lt pe_int (pv 3) (pv 0)) (pe_one (pe_cmpR (op_neD hr.units) (pv 2) (pv 3) (nomark _))))))) pa_nil))))))),
 (snds_seq (snds_if (sndt_not (sndt_B (snd_callQ (snda_cons snd_var (snda_cons (snd_c fun _ => .int _) (snda_cons (snd_c fun _ => .int _) snda_nil))) (lenA_cons (lenA_cons (lenA_cons lenA_nil)))))) snds_never snds_next)
  (snds_seq (snds_if (sndt_or (sndt_not (sndt_B (snd_isi .tup snd_var))) (sndt_test (snd_op (snd_callB (snda_cons snd_var snda_nil) calls_len) (snd_c fun _ => .int _) ops_gt))) (snds_ret (snd_c fun _ => .bl _)) snds_next)
  (snds_seq (snds_if (sndt_not (sndt_B (snd_callB (snda_cons (Snd.ofL (sndl_lc (sndi_tup snd_var) sndg_name sndt_yes (snd_callQ (snda_cons snd_var (snda_cons (snd_c fun _ => .int _) (snda_cons (snd_un (snd_c fun _ => .int _) uns_neg) (snda_cons (snd_c fun _ => .int _) snda_nil)))) (lenA_cons (lenA_cons (lenA_cons (lenA_cons lenA_nil))))) (by decide))) snda_nil) (calls_on1 callsl_all)))) (snds_ret (snd_c fun _ => .bl _)) snds_next)
  (snds_ret (snd_callB (snda_cons (Snd.ofL (sndl_lc (sndi_tup snd_var) (sndg_tup (sndgs_cons sndg_name (sndgs_cons sndg_name (sndgs_cons sndg_name sndgs_nil)))) sndt_yes (snd_and (snd_chain (snd_c fun _ => .int _) snd_var snd_var opp_I0 ops_lt) (snd_and (snd_chain (snd_c fun _ => .int _) snd_var snd_var opp_I0 ops_lt) (snd_op snd_var snd_var ops_ne))) (by decide))) snda_nil) (calls_on1 callsl_all))))))⟩)

abbrev s_check_wishes : Stmt := top 11
theorem sc_check_wishes : FnScope ["many", "wishes"] ["many", "wishes"] (defScope s_check_wishes) := ⟨rfl, rfl, rfl, by decide +kernel, rfl, by decide +kernel, by decide +kernel⟩
def b_check_wishes : SD → Rs (Fl × SD) :=
 (sif (mnot (mtest (mcallQ m_is_wishes (mcons (mv 0) (mcons (mv 1) mnil)))))
 snever
 (sfl .nx))
def m_check_wishes : List D → Rs D := mdef 2 b_check_wishes
theorem ok_check_wishes (hb : Bi mg) (h_is_wishes : Callee P w K mg base 4 "is_wishes" ["many", "thing"] (spP K eo0 2 m_is_wishes)) (F : FnP K "check_wishes" s_check_wishes f fd) : FnOk P w K mg base CX0 5 f fd ["many", "wishes"] (spP K eo0 2 m_check_wishes) := by
  have nd := sc_check_wishes.nd
  obtain ⟨f_is_wishes, fd_is_wishes, G_is_wishes, M_is_wishes, K_is_wishes, B_is_wishes⟩ := h_is_wishes.ex
  exact fn_P F sc_check_wishes (by decide) (fun cdv A outer s H E hr => ⟨_,
 (pss_one (ps_if (pt_not (pt_val (pe_call G_is_wishes (hr.mono (by decide)) (by rfl) M_is_wishes K_is_wishes B_is_wishes .nil pass0 (pa_cons (pv 0) (pa_cons (pv 1) pa_nil))))) (pss_one ps_never) pss_nil)),
 (snds_if (sndt_not (sndt_B (snd_callQ (snda_cons snd_var (snda_cons snd_var snda_nil)) (lenA_cons (lenA_cons lenA_nil))))) snds_never snds_next)⟩)

abbrev s_settled : Stmt := top 12
theorem sc_settled : FnScope ["many", "wishes", "here", "by", "last", "turn", "at", "one", "other", "most"] ["many", "wishes"] (defScope s_settled) := ⟨rfl, rfl, rfl, by decide +kernel, rfl, by decide +kernel, by decide +kernel⟩
def b_settled : SD → Rs (Fl × SD) :=
 (sseq (spar3 2 3 4 (mL (mopL oRep (mfrz (mcallL oLst (mcons (mc (.int 0)) mnil))) (mv 0))) (mL (mopL oRep (mfrz (mcallL oLst (mcons (mc .none) mnil))) (mv 0))) (mD (mc .none)))
  (sseq (sfor (mit oRange1 (mcons (mop oAdd (mv 0) (mc (.int 1))) mnil)) (gset 5)
 ((sseq (sset 4 (mD (mc .none)))
  (sseq (sfor (mit oEnumT (mcons (mv 1) mnil)) (gtup 2 (gcons (gset 6) (gcons (gtup 3 (gcons (gset 7) (gcons (gset 8) (gcons (gset 9) gnil)))) gnil)))
 ((sif (mtest (mop oLt (mop oAdd (mixS 2 (mv 7)) (mv 9)) (mixS 2 (mv 8))))
 (stg (mcall oTup (mcons (mop oAdd (mixS 2 (mv 7)) (mv 9)) (mcons (mv 6) (mcons (mv 8) mnil)))) (gtup 3 (gcons (gput 2 (pv' 8)) (gcons (gput 3 (pv' 8)) (gcons (gset 4) gnil)))))
 (sfl .nx))))
  (sif (mtest (mop oIsN (mv 4) (mc .none)))
 (sret (mcall oTup (mcons (mv 2) (mcons (mv 3) (mcons (mc .none) mnil)))))
 (sfl .nx))))))
  (sret (mcall oTup (mcons (mv 2) (mcons (mv 3) (mcons (mv 4) mnil)))))))
def m_settled : List D → Rs D := mdef 10 b_settled
theorem ok_settled (hb : Bi mg) (F : FnP K "settled" s_settled f fd) : FnOk P w K mg base CX0 1 f fd ["many", "wishes"] (spP K eo0 2 m_settled) := by
  have nd := sc_settled.nd
  exact fn_P F sc_settled (by decide) (fun cdv A outer s H E hr => ⟨_,
 (pss_cons (ps_par3 (i := 2) (j := 3) (l := 4) (by rfl) nd rfl rfl rfl (by decide) (by decide) (by decide) rfl rfl rfl (pa_cons (pe_op op_rep (pe_lst (pa_cons pe_int pa_nil)) (pv 0)) (pa_cons (pe_op op_rep (pe_lst (pa_cons pe_non pa_nil)) (pv 0)) (pa_cons pe_non pa_nil))) (by rfl))
  (pss_cons (ps_for PassesOwn.never rfl (pi_range1 (by rfl) (hb "range" (by decide +kernel)) (pa_cons (pe_op op_add (pv 0) pe_int) pa_nil)) (pg_name (i := 5) nd rfl (by first | exact Or.inl rfl | exact Or.inr rfl)) (pss_cons (ps_set (i := 4) nd rfl (by first | exact Or.inl rfl | exact Or.inr rfl) pe_non)
  (pss_cons (ps_for PassesOwn.never rfl (pi_enumT (by rfl) (hb "enumerate" (by decide +kernel)) (pa_cons (pv 1) pa_nil)) (pg_tup rfl (pgs_cons (pg_name (i := 6) nd rfl (by first | exact Or.inl rfl | exact Or.inr rfl)) (pgs_cons (pg_tup rfl (pgs_cons (pg_name (i := 7) nd rfl (by first | exact Or.inl rfl | exact Or.inr rfl)) (pgs_cons (pg_name (i := 8) nd rfl (by first | exact Or.inl rfl | exact Or.inr rfl)) (pgs_cons (pg_name (i := 9) nd rfl (by first | exact Or.inl rfl | exact Or.inr rfl)) pgs_nil)))) pgs_nil))) (pss_one (ps_if (pt_cmpR op_lt (pe_op op_add (pe_ix ix_list (pv 2) (pv 7) (fun _ _ => rfl)) (pv 9)) (pe_ix ix_list (pv 2) (pv 8) (fun _ _ => rfl)) (nomark _)) (pss_one (ps_asg (pe_tup (pa_cons (pe_op op_add (pe_ix ix_list (pv 2) (pv 7) (fun _ _ => rfl)) (pv 9)) (pa_cons (pv 6) (pa_cons (pv 8) pa_nil)))) (pg_tup rfl (pgs_cons (pg_sub (pv 2) (pv 8) set_list) (pgs_cons (pg_sub (pv 3) (pv 8) set_list) (pgs_cons (pg_name (i := 4) nd rfl (by first | exact Or.inl rfl | exact Or.inr rfl)) pgs_nil)))))) pss_nil)))
  (pss_one (ps_if (pt_cmpR op_isN (pv 4) pe_non (nomark _)) (pss_one (ps_ret (pe_tup (pa_cons (pv 2) (pa_cons (pv 3) (pa_cons pe_non pa_nil)))))) pss_nil)))))
  (pss_one (ps_ret (pe_tup (pa_cons (pv 2) (pa_cons (pv 3) (pa_cons (pv 4) pa_nil)))))))),
 (snds_seq (snds_par3 (SndV.ofL (sndl_op (Snd.ofL (sndl_lst (snda_cons (snd_c fun _ => .int _) snda_nil))) snd_var opl_rep)) (SndV.ofL (sndl_op (Snd.ofL (sndl_lst (snda_cons (snd_c fun _ => .non) snda_nil))) snd_var opl_rep)) (SndV.ofD (snd_c fun _ => .non)) (by decide) (by decide) (by decide) (by decide) (by decide) (by decide))
  (snds_seq (snds_for (sndi_range1 (snda_cons (snd_op snd_var (snd_c fun _ => .int _) ops_add) snda_nil)) sndg_name (snds_seq (snds_set (SndV.ofD (snd_c fun _ => .non)) (by decide))
  (snds_seq (snds_for (sndi_enumT (snda_cons snd_var snda_nil)) (sndg_tup (sndgs_cons sndg_name (sndgs_cons (sndg_tup (sndgs_cons sndg_name (sndgs_cons sndg_name (sndgs_cons sndg_name sndgs_nil)))) sndgs_nil))) (snds_if (sndt_test (snd_op (snd_op (snd_ixS snd_var) snd_var ops_add) (snd_ixS snd_var) ops_lt)) (snds_tg (snd_tup (snda_cons (snd_op (snd_ixS snd_var) snd_var ops_add) (snda_cons snd_var (snda_cons snd_var snda_nil)))) (sndg_tup (sndgs_cons (sndg_put sndp_var) (sndgs_cons (sndg_put sndp_var) (sndgs_cons sndg_name sndgs_nil)))) (by decide)) snds_next) (by decide))
  (snds_if (sndt_test (snd_op snd_var (snd_c fun _ => .non) ops_isN)) (snds_ret (snd_tup (snda_cons snd_var (snda_cons snd_var (snda_cons (snd_c fun _ => .non) snda_nil))))) snds_next))) (by decide))
  (snds_ret (snd_tup (snda_cons snd_var (snda_cons snd_var (snda_cons snd_var snda_nil)))))))⟩)

abbrev s_wishes_told : Stmt := top 13
theorem sc_wishes_told : FnScope ["many", "wishes", "here", "by", "last", "turn", "row", "at", "one"] ["many", "wishes"] (defScope s_wishes_told) := ⟨rfl, rfl, rfl, by decide +kernel, rfl, by decide +kernel, by decide +kernel⟩
def b_wishes_told : SD → Rs (Fl × SD) :=
 (sseq (sdrop (mcallQ m_check_wishes (mcons (mv 0) (mcons (mv 1) mnil))))
  (sseq (stg (mcallQ m_settled (mcons (mv 0) (mcons (mv 1) mnil))) (gtup 3 (gcons (gset 2) (gcons (gset 3) (gcons (gset 4) gnil)))))
  (sseq (sif (mtest (mop oIsN (mv 4) (mc .none)))
 (sret (mcall oTup (mcons (mc (.str (PySem.Str.ofString "moments"))) (mcons (mcall oTupOf (mcons (mfrz (mlcomp (mitems oItems (mv 2)) (gset 8) mtrue (mop oSub (mv 8) (mcallS oMinL 2)) [8])) mnil)) mnil))))
 (sfl .nx))
  (sseq (sfor (mit oRange1 (mcons (mv 0) mnil)) (gset 5)
 ((sset 4 (mD (mop oIxT (mop oIxT (mv 1) (mixS 3 (mv 4))) (mc (.int 0)))))))
  (sseq (spar 6 7 (mL (mcallL oLst (mcons (mixS 3 (mv 4)) mnil))) (mD (mop oIxT (mop oIxT (mv 1) (mixS 3 (mv 4))) (mc (.int 0)))))
  (sseq (mwhile (mtest (mop oNe (mv 7) (mv 4)))
 ((sseq (smut oApp 6 (mixS 3 (mv 7)))
  (sset 7 (mD (mop oIxT (mop oIxT (mv 1) (mixS 3 (mv 7))) (mc (.int 0))))))) 1000)
  (sret (mcall oTup (mcons (mc (.str (PySem.Str.ofString "ring"))) (mcons (mcall oTupOf (mcons (mfrz (mrevL (mv 6))) mnil)) mnil))))))))))
def m_wishes_told : List D → Rs D := mdef 9 b_wishes_told
theorem ok_wishes_told (hb : Bi mg) (h_check_wishes : Callee P w K mg base 5 "check_wishes" ["many", "wishes"] (spP K eo0 2 m_check_wishes)) (h_settled : Callee P w K mg base 1 "settled" ["many", "wishes"] (spP K eo0 2 m_settled)) (F : FnP K "wishes_told" s_wishes_told f fd) : FnOk P w K mg base CX0 6 f fd ["many", "wishes"] (spP K eo0 2 m_wishes_told) := by
  have nd := sc_wishes_told.nd
  obtain ⟨f_check_wishes, fd_check_wishes, G_check_wishes, M_check_wishes, K_check_wishes, B_check_wishes⟩ := h_check_wishes.ex
  obtain ⟨f_settled, fd_settled, G_settled, M_settled, K_settled, B_settled⟩ := h_settled.ex
  exact fn_P F sc_wishes_told (by decide) (fun cdv A outer s H E hr => ⟨_,
 (pss_cons (ps_expr (pe_call G_check_wishes (hr.mono (by decide)) (by rfl) M_check_wishes K_check_wishes B_check_wishes .nil pass0 (pa_cons (pv 0) (pa_cons (pv 1) pa_nil))))
  (pss_cons (ps_asg (pe_call G_settled (hr.mono (by decide)) (by rfl) M_settled K_settled B_settled .nil pass0 (pa_cons (pv 0) (pa_cons (pv 1) pa_nil))) (pg_tup rfl (pgs_cons (pg_name (i := 2) nd rfl (by first | exact Or.inl rfl | exact Or.inr rfl)) (pgs_cons (pg_name (i := 3) nd rfl (by first | exact Or.inl rfl | exact Or.inr rfl)) (pgs_cons (pg_name (i := 4) nd rfl (by first | exact Or.inl rfl | exact Or.inr rfl)) pgs_nil)))))
  (pss_cons (ps_if (pt_cmpR op_isN (pv 4) pe_non (nomark _)) (pss_one (ps_ret (pe_tup (pa_cons pe_str (pa_cons (pe_callTy call_tuple_of (by rfl) (hb "tuple" (by decide +kernel)) (by decide +kernel) (pa_cons (pe_lc (own := [("one", 8)]) (g := (gName 8)) (by rfl) nd (pi_list (pv 2)) (blkOk_by (own := [("one", 8)]) (N := ["many", "wishes", "here", "by", "last", "turn", "row", "at", "one"]) (sc := defScope s_wishes_told) (by decide +kernel)) (fun _ _ _ _ _ => (pg_name (i := 8) nd rfl (by first | exact Or.inl rfl | exact Or.inr rfl))) (fun _ _ _ _ _ => pts_nil) (fun _ _ _ _ _ => (pe_op op_sub (pv 8) (pe_callB (cr_min rfl) (by rfl) (hb "min" (by decide +kernel)) (by decide +kernel) (pa_cons (pv 2) pa_nil))))) pa_nil)) pa_nil))))) pss_nil)
  (pss_cons (ps_for PassesOwn.never rfl (pi_range1 (by rfl) (hb "range" (by decide +kernel)) (pa_cons (pv 0) pa_nil)) (pg_name (i := 5) nd rfl (by first | exact Or.inl rfl | exact Or.inr rfl)) (pss_one (ps_set (i := 4) nd rfl (by first | exact Or.inl rfl | exact Or.inr rfl) (pe_ix ix_tup (pe_ix ix_tup (pv 1) (pe_ix ix_list (pv 3) (pv 4) (fun _ _ => rfl)) (fun _ _ => rfl)) pe_int (fun _ _ => rfl)))))
  (pss_cons (ps_par (i := 6) (j := 7) (by rfl) nd rfl rfl (by decide) rfl rfl (pa_cons (pe_lst (pa_cons (pe_ix ix_list (pv 3) (pv 4) (fun _ _ => rfl)) pa_nil)) (pa_cons (pe_ix ix_tup (pe_ix ix_tup (pv 1) (pe_ix ix_list (pv 3) (pv 4) (fun _ _ => rfl)) (fun _ _ => rfl)) pe_int (fun _ _ => rfl)) pa_nil)) (by rfl))
  (pss_cons (ps_while PassesOwn.never (pt_cmpR (op_neD hr.units) (pv 7) (pv 4) (nomark _)) (pss_cons (ps_expr (pe_bm PySem.F.plainAttrs_list PySem.F.slot_list_append PySem.F.type_list_append mt_append (pv 6) (pa_cons (pe_ix ix_list (pv 3) (pv 7) (fun _ _ => rfl)) pa_nil)))
  (pss_one (ps_set (i := 7) nd rfl (by first | exact Or.inl rfl | exact Or.inr rfl) (pe_ix ix_tup (pe_ix ix_tup (pv 1) (pe_ix ix_list (pv 3) (pv 7) (fun _ _ => rfl)) (fun _ _ => rfl)) pe_int (fun _ _ => rfl))))))
  (pss_one (ps_ret (pe_tup (pa_cons pe_str (pa_cons (pe_callTy call_tuple_of (by rfl) (hb "tuple" (by decide +kernel)) (by decide +kernel) (pa_cons (pe_revL (pv 6)) pa_nil)) pa_nil))))))))))),
 (snds_seq (snds_drop (snd_callQ (snda_cons snd_var (snda_cons snd_var snda_nil)) (lenA_cons (lenA_cons lenA_nil))))
  (snds_seq (snds_tg (snd_callQ (snda_cons snd_var (snda_cons snd_var snda_nil)) (lenA_cons (lenA_cons lenA_nil))) (sndg_tup (sndgs_cons sndg_name (sndgs_cons sndg_name (sndgs_cons sndg_name sndgs_nil)))) (by decide))
  (snds_seq (snds_if (sndt_test (snd_op snd_var (snd_c fun _ => .non) ops_isN)) (snds_ret (snd_tup (snda_cons (snd_c fun _ => .str _) (snda_cons (snd_callB (snda_cons (Snd.ofL (sndl_lc (sndi_list snd_var) sndg_name sndt_yes (snd_op snd_var (snd_callS callsl_min) ops_sub) (by decide))) snda_nil) calls_tup) snda_nil)))) snds_next)
  (snds_seq (snds_for (sndi_range1 (snda_cons snd_var snda_nil)) sndg_name (snds_set (SndV.ofD (snd_op (snd_op snd_var (snd_ixS snd_var) ops_ixT) (snd_c fun _ => .int _) ops_ixT)) (by decide)) (by decide))
  (snds_seq (snds_par (SndV.ofL (sndl_lst (snda_cons (snd_ixS snd_var) snda_nil))) (SndV.ofD (snd_op (snd_op snd_var (snd_ixS snd_var) ops_ixT) (snd_c fun _ => .int _) ops_ixT)) (by decide) (by decide) (by decide))
  (snds_seq (snds_while 1000 (sndt_test (snd_op snd_var snd_var ops_ne)) (snds_seq (snds_app (snd_ixS snd_var))
  (snds_set (SndV.ofD (snd_op (snd_op snd_var (snd_ixS snd_var) ops_ixT) (snd_c fun _ => .int _) ops_ixT)) (by decide))))
  (snds_ret (snd_tup (snda_cons (snd_c fun _ => .str _) (snda_cons (snd_callB (snda_cons (Snd.ofL (sndl_rev snd_var)) snda_nil) calls_tup) snda_nil))))))))))⟩)

abbrev s_can_keep : Stmt := top 14
theorem sc_can_keep : FnScope ["many", "wishes"] ["many", "wishes"] (defScope s_can_keep) := ⟨rfl, rfl, rfl, by decide +kernel, rfl, by decide +kernel, by decide +kernel⟩
def b_can_keep : SD → Rs (Fl × SD) :=
 (sret (mop oEq (mop oIxT (mcallQ m_wishes_told (mcons (mv 0) (mcons (mv 1) mnil))) (mc (.int 0))) (mc (.str (PySem.Str.ofString "moments")))))
def m_can_keep : List D → Rs D := mdef 2 b_can_keep
theorem ok_can_keep (hb : Bi mg) (h_wishes_told : Callee P w K mg base 6 "wishes_told" ["many", "wishes"] (spP K eo0 2 m_wishes_told)) (F : FnP K "can_keep" s_can_keep f fd) : FnOk P w K mg base CX0 7 f fd ["many", "wishes"] (spP K eo0 2 m_can_keep) := by
  have nd := sc_can_keep.nd
  obtain ⟨f_wishes_told, fd_wishes_told, G_wishes_told, M_wishes_told, K_wishes_told, B_wishes_told⟩ := h_wishes_told.ex
  exact fn_P F sc_can_keep (by decide) (fun cdv A outer s H E hr => ⟨_,
 (pss_one (ps_ret (pe_cmpR (op_eqD hr.units) (pe_ix ix_tup (pe_call G_wishes_told (hr.mono (by decide)) (by rfl) M_wishes_told K_wishes_told B_wishes_told .nil pass0 (pa_cons (pv 0) (pa_cons (pv 1) pa_nil))) pe_int (fun _ _ => rfl)) pe_str (nomark _)))),
 (snds_ret (snd_op (snd_op (snd_callQ (snda_cons snd_var (snda_cons snd_var snda_nil)) (lenA_cons (lenA_cons lenA_nil))) (snd_c fun _ => .int _) ops_ixT) (snd_c fun _ => .str _) ops_eq))⟩)

abbrev s_bounds : Stmt := top 15
theorem sc_bounds : FnScope ["many", "wishes", "rows", "one", "other", "most", "way", "far", "row"] ["many", "wishes"] (defScope s_bounds) := ⟨rfl, rfl, rfl, by decide +kernel, rfl, by decide +kernel, by decide +kernel⟩
def b_bounds : SD → Rs (Fl × SD) :=
 (sseq (sif (mnot (mtest (mcallQ m_can_keep (mcons (mv 0) (mcons (mv 1) mnil)))))
 (sret (mc .none))
 (sfl .nx))
  (sseq (sset 2 (mLL (mlcomp (mit oRange1 (mcons (mv 0) mnil)) (gset 3) mtrue (mlcomp (mit oRange1 (mcons (mv 0) mnil)) (gset 4) mtrue (mife (mtest (mop oEq (mv 3) (mv 4))) (mc (.int 0)) (mc .none)) [4]) [3])))
  (sseq (sfor (mitems oItemsT (mv 1)) (gtup 3 (gcons (gset 3) (gcons (gset 4) (gcons (gset 5) gnil))))
 ((sput2 2 (mife (mtest (mop oIsN (mP (pix2 2 (pv' 3) (pv' 4))) (mc .none))) (mv 5) (mcall oMin2 (mcons (mv 5) (mcons (mP (pix2 2 (pv' 3) (pv' 4))) mnil)))) (pv' 3) (pv' 4))))
  (sseq (sfor (mit oRange1 (mcons (mv 0) mnil)) (gset 6)
 ((sfor (mit oRange1 (mcons (mv 0) mnil)) (gset 3)
 ((sfor (mit oRange1 (mcons (mv 0) mnil)) (gset 4)
 ((sif (mand (mtest (mop oNotN (mP (pix2 2 (pv' 3) (pv' 6))) (mc .none))) (mtest (mop oNotN (mP (pix2 2 (pv' 6) (pv' 4))) (mc .none))))
 (sseq (sset 7 (mD (mop oAdd (mP (pix2 2 (pv' 3) (pv' 6))) (mP (pix2 2 (pv' 6) (pv' 4))))))
  (sif (mor (mtest (mop oIsN (mP (pix2 2 (pv' 3) (pv' 4))) (mc .none))) (mtest (mop oLt (mv 7) (mP (pix2 2 (pv' 3) (pv' 4))))))
 (sput2 2 (mv 7) (pv' 3) (pv' 4))
 (sfl .nx)))
 (sfl .nx))))))))
  (sret (mcall oTupOf (mcons (mfrz (mlcomp (mitems oItems (mv 2)) (gset 8) mtrue (mcallS oTupS 8) [8])) mnil)))))))
def m_bounds : List D → Rs D := mdef 9 b_bounds
theorem ok_bounds (hb : Bi mg) (h_can_keep : Callee P w K mg base 7 "can_keep" ["many", "wishes"] (spP K eo0 2 m_can_keep)) (F : FnP K "bounds" s_bounds f fd) : FnOk P w K mg base CX0 8 f fd ["many", "wishes"] (spP K eo0 2 m_bounds) := by
  have nd := sc_bounds.nd
  obtain ⟨f_can_keep, fd_can_keep, G_can_keep, M_can_keep, K_can_keep, B_can_keep⟩ := h_can_keep.ex
  exact fn_P F sc_bounds (by decide) (fun cdv A outer s H E hr => ⟨_,
 (pss_cons (ps_if (pt_not (pt_val (pe_call G_can_keep (hr.mono (by decide)) (by rfl) M_can_keep K_can_keep B_can_keep .nil pass0 (pa_cons (pv 0) (pa_cons (pv 1) pa_nil))))) (pss_one (ps_ret pe_non)) pss_nil)
  (pss_cons (by first | exact ps_setLc (i := 2) (own := [("one", 3)]) (g := (gName 3)) (by rfl) nd rfl rfl (sw_true rfl rfl rfl (by decide +kernel)) (pi_range1 (by rfl) (hb "range" (by decide +kernel)) (pa_cons (pv 0) pa_nil)) (blkOk_by (own := [("one", 3)]) (N := ["many", "wishes", "rows", "one", "other", "most", "way", "far", "row"]) (sc := defScope s_bounds) (by decide +kernel)) (fun _ _ _ _ _ => (pg_name (i := 3) nd rfl (by first | exact Or.inl rfl | exact Or.inr rfl))) (fun _ _ _ _ _ => pts_nil) (fun _ _ _ _ _ => (pe_lc (own := [("other", 4)]) (g := (gName 4)) (by rfl) nd (pi_range1 (by rfl) (hb "range" (by decide +kernel)) (pa_cons (pv 0) pa_nil)) (blkOk_by (own := [("other", 4)]) (by rfl)) (fun _ _ _ _ _ => (pg_name (i := 4) nd rfl (by first | exact Or.inl rfl | exact Or.inr rfl))) (fun _ _ _ _ _ => pts_nil) (fun _ _ _ _ _ => (pe_ifExp (pt_cmpR (op_eqD hr.units) (pv 3) (pv 4) (nomark _)) pe_int pe_non)))) | exact (ps_set (i := 2) nd rfl (by first | exact Or.inl rfl | exact Or.inr rfl) (pe_lc (own := [("one", 3)]) (g := (gName 3)) (by rfl) nd (pi_range1 (by rfl) (hb "range" (by decide +kernel)) (pa_cons (pv 0) pa_nil)) (blkOk_by (own := [("one", 3)]) (N := ["many", "wishes", "rows", "one", "other", "most", "way", "far", "row"]) (sc := defScope s_bounds) (by decide +kernel)) (fun _ _ _ _ _ => (pg_name (i := 3) nd rfl (by first | exact Or.inl rfl | exact Or.inr rfl))) (fun _ _ _ _ _ => pts_nil) (fun _ _ _ _ _ => (pe_lc (own := [("other", 4)]) (g := (gName 4)) (by rfl) nd (pi_range1 (by rfl) (hb "range" (by decide +kernel)) (pa_cons (pv 0) pa_nil)) (blkOk_by (own := [("other", 4)]) (by rfl)) (fun _ _ _ _ _ => (pg_name (i := 4) nd rfl (by first | exact Or.inl rfl | exact Or.inr rfl))) (fun _ _ _ _ _ => pts_nil) (fun _ _ _ _ _ => (pe_ifExp (pt_cmpR (op_eqD hr.units) (pv 3) (pv 4) (nomark _)) pe_int pe_non)))))))
  (pss_cons (ps_for PassesOwn.never rfl (pi_tup (pv 1)) (pg_tup rfl (pgs_cons (pg_name (i := 3) nd rfl (by first | exact Or.inl rfl | exact Or.inr rfl)) (pgs_cons (pg_name (i := 4) nd rfl (by first | exact Or.inl rfl | exact Or.inr rfl)) (pgs_cons (pg_name (i := 5) nd rfl (by first | exact Or.inl rfl | exact Or.inr rfl)) pgs_nil)))) (pss_one (ps_asg (pe_ifExp (pt_cmpR op_isN (pe_ix ix_list (pe_ix ix_list (pv 2) (pv 3) (fun _ _ => rfl)) (pv 4) (fun _ _ => rfl)) pe_non (nomark _)) (pv 5) (pe_callB (call_min2 rfl) (by rfl) (hb "min" (by decide +kernel)) (by decide +kernel) (pa_cons (pv 5) (pa_cons (pe_ix ix_list (pe_ix ix_list (pv 2) (pv 3) (fun _ _ => rfl)) (pv 4) (fun _ _ => rfl)) pa_nil)))) (pg_sub (pe_ix ix_list (pv 2) (pv 3) (fun _ _ => rfl)) (pv 4) set_list))))
  (pss_cons (ps_for PassesOwn.never rfl (pi_range1 (by rfl) (hb "range" (by decide +kernel)) (pa_cons (pv 0) pa_nil)) (pg_name (i := 6) nd rfl (by first | exact Or.inl rfl | exact Or.inr rfl)) (pss_one (ps_for PassesOwn.never rfl (pi_range1 (by rfl) (hb "range" (by decide +kernel)) (pa_cons (pv 0) pa_nil)) (pg_name (i := 3) nd rfl (by first | exact Or.inl rfl | exact Or.inr rfl)) (pss_one (ps_for PassesOwn.never rfl (pi_range1 (by rfl) (hb "range" (by decide +kernel)) (pa_cons (pv 0) pa_nil)) (pg_name (i := 4) nd rfl (by first | exact Or.inl rfl | exact Or.inr rfl)) (pss_one (ps_if (PW.pt (pw_and (pt_cmpR op_notN (pe_ix ix_list (pe_ix ix_list (pv 2) (pv 3) (fun _ _ => rfl)) (pv 6) (fun _ _ => rfl)) pe_non (nomark _)) (pw_and1 (pt_cmpR op_notN (pe_ix ix_list (pe_ix ix_list (pv 2) (pv 6) (fun _ _ => rfl)) (pv 4) (fun _ _ => rfl)) pe_non (nomark _))))) (pss_cons (ps_set (i := 7) nd rfl (by first | exact Or.inl rfl | exact Or.inr rfl) (pe_op op_add (pe_ix ix_list (pe_ix ix_list (pv 2) (pv 3) (fun _ _ => rfl)) (pv 6) (fun _ _ => rfl)) (pe_ix ix_list (pe_ix ix_list (pv 2) (pv 6) (fun _ _ => rfl)) (pv 4) (fun _ _ => rfl))))
  (pss_one (ps_if (PW.pt (pw_or (pt_cmpR op_isN (pe_ix ix_list (pe_ix ix_list (pv 2) (pv 3) (fun _ _ => rfl)) (pv 4) (fun _ _ => rfl)) pe_non (nomark _)) (pw_or1 (pt_cmpR op_lt (pv 7) (pe_ix ix_list (pe_ix ix_list (pv 2) (pv 3) (fun _ _ => rfl)) (pv 4) (fun _ _ => rfl)) (nomark _))))) (pss_one (ps_asg (pv 7) (pg_sub (pe_ix ix_list (pv 2) (pv 3) (fun _ _ => rfl)) (pv 4) set_list))) pss_nil))) pss_nil)))))))
  (pss_one (ps_ret (pe_callTy call_tuple_of (by rfl) (hb "tuple" (by decide +kernel)) (by decide +kernel) (pa_cons (pe_lc (own := [("row", 8)]) (g := (gName 8)) (by rfl) nd (pi_list (pv 2)) (blkOk_by (own := [("row", 8)]) (N := ["many", "wishes", "rows", "one", "other", "most", "way", "far", "row"]) (sc := defScope s_bounds) (by decide +kernel)) (fun _ _ _ _ _ => (pg_name (i := 8) nd rfl (by first | exact Or.inl rfl | exact Or.inr rfl))) (fun _ _ _ _ _ => pts_nil) (fun _ _ _ _ _ => (pe_callTy call_tuple_of (by rfl) (hb "tuple" (by decide +kernel)) (by decide +kernel) (pa_cons (pv 8) pa_nil)))) pa_nil)))))))),
 (snds_seq (snds_if (sndt_not (sndt_B (snd_callQ (snda_cons snd_var (snda_cons snd_var snda_nil)) (lenA_cons (lenA_cons lenA_nil))))) (snds_ret (snd_c fun _ => .non)) snds_next)
  (snds_seq (snds_set (sndv_lcL (sndi_range1 (snda_cons snd_var snda_nil)) sndg_name sndt_yes (sndl_lc (sndi_range1 (snda_cons snd_var snda_nil)) sndg_name sndt_yes (snd_if (sndt_test (snd_op snd_var snd_var ops_eq)) (snd_c fun _ => .int _) (snd_c fun _ => .non)) (by decide)) (by decide)) (by decide))
  (snds_seq (snds_for (sndi_tup snd_var) (sndg_tup (sndgs_cons sndg_name (sndgs_cons sndg_name (sndgs_cons sndg_name sndgs_nil)))) (snds_put2 (snd_if (sndt_test (snd_op (Snd.ofP (sndp_ix2 sndp_var sndp_var)) (snd_c fun _ => .non) ops_isN)) snd_var (snd_callB (snda_cons snd_var (snda_cons (Snd.ofP (sndp_ix2 sndp_var sndp_var)) snda_nil)) calls_min2)) sndp_var sndp_var) (by decide))
  (snds_seq (snds_for (sndi_range1 (snda_cons snd_var snda_nil)) sndg_name (snds_for (sndi_range1 (snda_cons snd_var snda_nil)) sndg_name (snds_for (sndi_range1 (snda_cons snd_var snda_nil)) sndg_name (snds_if (sndt_and (sndt_test (snd_op (Snd.ofP (sndp_ix2 sndp_var sndp_var)) (snd_c fun _ => .non) ops_notN)) (sndt_test (snd_op (Snd.ofP (sndp_ix2 sndp_var sndp_var)) (snd_c fun _ => .non) ops_notN))) (snds_seq (snds_set (SndV.ofD (snd_op (Snd.ofP (sndp_ix2 sndp_var sndp_var)) (Snd.ofP (sndp_ix2 sndp_var sndp_var)) ops_add)) (by decide))
  (snds_if (sndt_or (sndt_test (snd_op (Snd.ofP (sndp_ix2 sndp_var sndp_var)) (snd_c fun _ => .non) ops_isN)) (sndt_test (snd_op snd_var (Snd.ofP (sndp_ix2 sndp_var sndp_var)) ops_lt))) (snds_put2 snd_var sndp_var sndp_var) snds_next)) snds_next) (by decide)) (by decide)) (by decide))
  (snds_ret (snd_callB (snda_cons (Snd.ofL (sndl_lc (sndi_list snd_var) sndg_name sndt_yes (snd_callS callsl_tup) (by decide))) snda_nil) calls_tup))))))⟩)

abbrev s_is_said : Stmt := top 16
theorem sc_is_said : FnScope ["many", "wishes", "wish", "rows", "most"] ["many", "wishes", "wish"] (defScope s_is_said) := ⟨rfl, rfl, rfl, by decide +kernel, rfl, by decide +kernel, by decide +kernel⟩
def b_is_said : SD → Rs (Fl × SD) :=
 (sseq (sdrop (mcallQ m_check_wishes (mcons (mv 0) (mcons (mv 1) mnil))))
  (sseq (sdrop (mcallQ m_check_wishes (mcons (mv 0) (mcons (mcall oTup (mcons (mv 2) mnil)) mnil))))
  (sseq (sset 3 (mD (mcallQ m_bounds (mcons (mv 0) (mcons (mv 1) mnil)))))
  (sseq (sif (mtest (mop oIsN (mv 3) (mc .none)))
 (sret (mc (.bool true)))
 (sfl .nx))
  (sseq (sset 4 (mD (mop oIxT (mop oIxT (mv 3) (mop oIxT (mv 2) (mc (.int 0)))) (mop oIxT (mv 2) (mc (.int 1))))))
  (sret (mandV (mop oNotN (mv 4) (mc .none)) (mop oLe (mv 4) (mop oIxT (mv 2) (mc (.int 2)))))))))))
def m_is_said : List D → Rs D := mdef 5 b_is_said
theorem ok_is_said (hb : Bi mg) (h_check_wishes : Callee P w K mg base 5 "check_wishes" ["many", "wishes"] (spP K eo0 2 m_check_wishes)) (h_bounds : Callee P w K mg base 8 "bounds" ["many", "wishes"] (spP K eo0 2 m_bounds)) (F : FnP K "is_said" s_is_said f fd) : FnOk P w K mg base CX0 9 f fd ["many", "wishes", "wish"] (spP K eo0 3 m_is_said) := by
  have nd := sc_is_said.nd
  obtain ⟨f_check_wishes, fd_check_wishes, G_check_wishes, M_check_wishes, K_check_wishes, B_check_wishes⟩ := h_check_wishes.ex
  obtain ⟨f_bounds, fd_bounds, G_bounds, M_bounds, K_bounds, B_bounds⟩ := h_bounds.ex
  exact fn_P F sc_is_said (by decide) (fun cdv A outer s H E hr => ⟨_,
 (pss_cons (ps_expr (pe_call G_check_wishes (hr.mono (by decide)) (by rfl) M_check_wishes K_check_wishes B_check_wishes .nil pass0 (pa_cons (pv 0) (pa_cons (pv 1) pa_nil))))
  (pss_cons (ps_expr (pe_call G_check_wishes (hr.mono (by decide)) (by rfl) M_check_wishes K_check_wishes B_check_wishes .nil pass0 (pa_cons (pv 0) (pa_cons (pe_tup (pa_cons (pv 2) pa_nil)) pa_nil))))
  (pss_cons (ps_set (i := 3) nd rfl (by first | exact Or.inl rfl | exact Or.inr rfl) (pe_call G_bounds (hr.mono (by decide)) (by rfl) M_bounds K_bounds B_bounds .nil pass0 (pa_cons (pv 0) (pa_cons (pv 1) pa_nil))))
  (pss_cons (ps_if (pt_cmpR op_isN (pv 3) pe_non (nomark _)) (pss_one (ps_ret pe_bl)) pss_nil)
  (pss_cons (ps_set (i := 4) nd rfl (by first | exact Or.inl rfl | exact Or.inr rfl) (pe_ix ix_tup (pe_ix ix_tup (pv 3) (pe_ix ix_tup (pv 2) pe_int (fun _ _ => rfl)) (fun _ _ => rfl)) (pe_ix ix_tup (pv 2) pe_int (fun _ _ => rfl)) (fun _ _ => rfl)))
  (pss_one (ps_ret (pe_and (pe_cmpR op_notN (pv 4) pe_non (nomark _)) (pe_one (pe_cmpR op_le (pv 4) (pe_ix ix_tup (pv 2) pe_int (fun _ _ => rfl)) (nomark _))))))))))),
 (snds_seq (snds_drop (snd_callQ (snda_cons snd_var (snda_cons snd_var snda_nil)) (lenA_cons (lenA_cons lenA_nil))))
  (snds_seq (snds_drop (snd_callQ (snda_cons snd_var (snda_cons (snd_tup (snda_cons snd_var snda_nil)) snda_nil)) (lenA_cons (lenA_cons lenA_nil))))
  (snds_seq (snds_set (SndV.ofD (snd_callQ (snda_cons snd_var (snda_cons snd_var snda_nil)) (lenA_cons (lenA_cons lenA_nil)))) (by decide))
  (snds_seq (snds_if (sndt_test (snd_op snd_var (snd_c fun _ => .non) ops_isN)) (snds_ret (snd_c fun _ => .bl _)) snds_next)
  (snds_seq (snds_set (SndV.ofD (snd_op (snd_op snd_var (snd_op snd_var (snd_c fun _ => .int _) ops_ixT) ops_ixT) (snd_op snd_var (snd_c fun _ => .int _) ops_ixT) ops_ixT)) (by decide))
  (snds_ret (snd_and (snd_op snd_var (snd_c fun _ => .non) ops_notN) (snd_op snd_var (snd_op snd_var (snd_c fun _ => .int _) ops_ixT) ops_le))))))))⟩)

abbrev s_needless_wishes : Stmt := top 17
theorem sc_needless_wishes : FnScope ["many", "wishes", "at", "one"] ["many", "wishes"] (defScope s_needless_wishes) := ⟨rfl, rfl, rfl, by decide +kernel, rfl, by decide +kernel, by decide +kernel⟩
def b_needless_wishes : SD → Rs (Fl × SD) :=
 (sseq (sdrop (mcallQ m_check_wishes (mcons (mv 0) (mcons (mv 1) mnil))))
  (sret (mcall oTupOf (mcons (mfrz (mlcomp (mit oEnumT (mcons (mv 1) mnil)) (gtup 2 (gcons (gset 2) (gcons (gset 3) gnil))) (mtest (mcallQ m_is_said (mcons (mv 0) (mcons (mop oCatT (mslT (mv 1) mnopart (mpart (mv 2))) (mslT (mv 1) (mpart (mop oAdd (mv 2) (mc (.int 1)))) mnopart)) (mcons (mv 3) mnil))))) (mv 2) [2, 3])) mnil))))
def m_needless_wishes : List D → Rs D := mdef 4 b_needless_wishes
theorem ok_needless_wishes (hb : Bi mg) (h_check_wishes : Callee P w K mg base 5 "check_wishes" ["many", "wishes"] (spP K eo0 2 m_check_wishes)) (h_is_said : Callee P w K mg base 9 "is_said" ["many", "wishes", "wish"] (spP K eo0 3 m_is_said)) (F : FnP K "needless_wishes" s_needless_wishes f fd) : FnOk P w K mg base CX0 10 f fd ["many", "wishes"] (spP K eo0 2 m_needless_wishes) := by
  have nd := sc_needless_wishes.nd
  obtain ⟨f_check_wishes, fd_check_wishes, G_check_wishes, M_check_wishes, K_check_wishes, B_check_wishes⟩ := h_check_wishes.ex
  obtain ⟨f_is_said, fd_is_said, G_is_said, M_is_said, K_is_said, B_is_said⟩ := h_is_said.ex
  exact fn_P F sc_needless_wishes (by decide) (fun cdv A outer s H E hr => ⟨_,
 (pss_cons (ps_expr (pe_call G_check_wishes (hr.mono (by decide)) (by rfl) M_check_wishes K_check_wishes B_check_wishes .nil pass0 (pa_cons (pv 0) (pa_cons (pv 1) pa_nil))))
  (pss_one (ps_ret (pe_callTy call_tuple_of (by rfl) (hb "tuple" (by decide +kernel)) (by decide +kernel) (pa_cons (pe_lc (own := [("at", 2), ("one", 3)]) (g := (gTup K 2 (gCons (gName 2) (gCons (gName 3) gNil)))) (by rfl) nd (pi_enumT (by rfl) (hb "enumerate" (by decide +kernel)) (pa_cons (pv 1) pa_nil)) (blkOk_by (own := [("at", 2), ("one", 3)]) (N := ["many", "wishes", "at", "one"]) (sc := defScope s_needless_wishes) (by decide +kernel)) (fun _ _ _ _ _ => (pg_tup rfl (pgs_cons (pg_name (i := 2) nd rfl (by first | exact Or.inl rfl | exact Or.inr rfl)) (pgs_cons (pg_name (i := 3) nd rfl (by first | exact Or.inl rfl | exact Or.inr rfl)) pgs_nil)))) (fun _ _ _ _ _ => (pts_one (pt_val (pe_call G_is_said (hr.mono (by decide)) (by rfl) M_is_said K_is_said B_is_said .nil pass0 (pa_cons (pv 0) (pa_cons (pe_op op_catA (pe_slice sl_tupA (pv 1) po_none (po_some (pv 2))) (pe_slice sl_tupA (pv 1) (po_some (pe_op op_add (pv 2) pe_int)) po_none)) (pa_cons (pv 3) pa_nil))))))) (fun _ _ _ _ _ => (pv 2))) pa_nil))))),
 (snds_seq (snds_drop (snd_callQ (snda_cons snd_var (snda_cons snd_var snda_nil)) (lenA_cons (lenA_cons lenA_nil))))
  (snds_ret (snd_callB (snda_cons (Snd.ofL (sndl_lc (sndi_enumT (snda_cons snd_var snda_nil)) (sndg_tup (sndgs_cons sndg_name (sndgs_cons sndg_name sndgs_nil))) (sndt_B (snd_callQ (snda_cons snd_var (snda_cons (snd_op (snd_slT snd_var sndo_none (sndo_some snd_var)) (snd_slT snd_var (sndo_some (snd_op snd_var (snd_c fun _ => .int _) ops_add)) sndo_none) ops_catT) (snda_cons snd_var snda_nil))) (lenA_cons (lenA_cons (lenA_cons lenA_nil))))) snd_var (by decide))) snda_nil) calls_tup)))⟩)

abbrev s_soonest_moments : Stmt := top 18
theorem sc_soonest_moments : FnScope ["many", "wishes", "begin", "more", "rows", "one", "row"] ["many", "wishes", "begin"] (defScope s_soonest_moments) := ⟨rfl, rfl, rfl, by decide +kernel, rfl, by decide +kernel, by decide +kernel⟩
def b_soonest_moments : SD → Rs (Fl × SD) :=
 (sseq (sdrop (mcallQ m_check_wishes (mcons (mv 0) (mcons (mv 1) mnil))))
  (sseq (sif (mnot (mtest (mcallQ m_is_within (mcons (mv 2) (mcons (mc (.int 0)) (mcons (mop oSub (mv 0) (mc (.int 1))) mnil))))))
 snever
 (sfl .nx))
  (sseq (sset 3 (mD (mcall oTupOf (mcons (mfrz (mlcomp (mit oRange1 (mcons (mv 0) mnil)) (gset 5) (mtest (mop oNe (mv 5) (mv 2))) (mcall oTup (mcons (mv 5) (mcons (mv 2) (mcons (mc (.int 0)) mnil)))) [5])) mnil))))
  (sseq (sset 4 (mD (mcallQ m_bounds (mcons (mv 0) (mcons (mslT (mop oCatT (mv 1) (mv 3)) mnopart (mpart (mc (.int 200)))) mnil)))))
  (sret (mife (mtest (mop oIsN (mv 4) (mc .none))) (mc .none) (mcall oTupOf (mcons (mfrz (mlcomp (mitems oItemsT (mv 4)) (gset 6) mtrue (mife (mtest (mop oIsN (mop oIxT (mv 6) (mv 2)) (mc .none))) (mc (.int 0)) (mun oNeg (mop oIxT (mv 6) (mv 2)))) [6])) mnil))))))))
def m_soonest_moments : List D → Rs D := mdef 7 b_soonest_moments
theorem ok_soonest_moments (hb : Bi mg) (h_is_within : Callee P w K mg base 2 "is_within" ["thing", "least", "most"] (spP K eo0 3 m_is_within)) (h_check_wishes : Callee P w K mg base 5 "check_wishes" ["many", "wishes"] (spP K eo0 2 m_check_wishes)) (h_bounds : Callee P w K mg base 8 "bounds" ["many", "wishes"] (spP K eo0 2 m_bounds)) (F : FnP K "soonest_moments" s_soonest_moments f fd) : FnOk P w K mg base CX0 9 f fd ["many", "wishes", "begin"] (spP K eo0 3 m_soonest_moments) := by
  have nd := sc_soonest_moments.nd
  obtain ⟨f_is_within, fd_is_within, G_is_within, M_is_within, K_is_within, B_is_within⟩ := h_is_within.ex
  obtain ⟨f_check_wishes, fd_check_wishes, G_check_wishes, M_check_wishes, K_check_wishes, B_check_wishes⟩ := h_check_wishes.ex
  obtain ⟨f_bounds, fd_bounds, G_bounds, M_bounds, K_bounds, B_bounds⟩ := h_bounds.ex
  exact fn_P F sc_soonest_moments (by decide) (fun cdv A outer s H E hr => ⟨_,
 (pss_cons (ps_expr (pe_call G_check_wishes (hr.mono (by decide)) (by rfl) M_check_wishes K_check_wishes B_check_wishes .nil pass0 (pa_cons (pv 0) (pa_cons (pv 1) pa_nil))))
  (pss_cons (ps_if (pt_not (pt_val (pe_call G_is_within (hr.mono (by decide)) (by rfl) M_is_within K_is_within B_is_within .nil pass0 (pa_cons (pv 2) (pa_cons pe_int (pa_cons (pe_op op_sub (pv 0) pe_int) pa_nil)))))) (pss_one ps_never) pss_nil)
  (pss_cons (ps_set (i := 3) nd rfl (by first | exact Or.inl rfl | exact Or.inr rfl) (pe_callTy call_tuple_of (by rfl) (hb "tuple" (by decide +kernel)) (by decide +kernel) (pa_cons (pe_lc (own := [("one", 5)]) (g := (gName 5)) (by rfl) nd (pi_range1 (by rfl) (hb "range" (by decide +kernel)) (pa_cons (pv 0) pa_nil)) (blkOk_by (own := [("one", 5)]) (N := ["many", "wishes", "begin", "more", "rows", "one", "row"]) (sc := defScope s_soonest_moments) (by decide +kernel)) (fun _ _ _ _ _ => (pg_name (i := 5) nd rfl (by first | exact Or.inl rfl | exact Or.inr rfl))) (fun _ _ _ _ _ => (pts_one (pt_cmpR (op_neD hr.units) (pv 5) (pv 2) (nomark _)))) (fun _ _ _ _ _ => (pe_tup (pa_cons (pv 5) (pa_cons (pv 2) (pa_cons pe_int pa_nil)))))) pa_nil)))
  (pss_cons (ps_set (i := 4) nd rfl (by first | exact Or.inl rfl | exact Or.inr rfl) (pe_call G_bounds (hr.mono (by decide)) (by rfl) M_bounds K_bounds B_bounds .nil pass0 (pa_cons (pv 0) (pa_cons (pe_slice sl_tupA (pe_op op_catA (pv 1) (pv 3)) po_none (po_some pe_int)) pa_nil))))
  (pss_one (ps_ret (pe_ifExp (pt_cmpR op_isN (pv 4) pe_non (nomark _)) pe_non (pe_callTy call_tuple_of (by rfl) (hb "tuple" (by decide +kernel)) (by decide +kernel) (pa_cons (pe_lc (own := [("row", 6)]) (g := (gName 6)) (by rfl) nd (pi_tup (pv 4)) (blkOk_by (own := [("row", 6)]) (N := ["many", "wishes", "begin", "more", "rows", "one", "row"]) (sc := defScope s_soonest_moments) (by decide +kernel)) (fun _ _ _ _ _ => (pg_name (i := 6) nd rfl (by first | exact Or.inl rfl | exact Or.inr rfl))) (fun _ _ _ _ _ => pts_nil) (fun _ _ _ _ _ => (pe_ifExp (pt_cmpR op_isN (pe_ix ix_tup (pv 6) (pv 2) (fun _ _ => rfl)) pe_non (nomark _)) pe_int (pe_un un_neg (pe_ix ix_tup (pv 6) (pv 2) (fun _ _ => rfl)))))) pa_nil))))))))),
 (snds_seq (snds_drop (snd_callQ (snda_cons snd_var (snda_cons snd_var snda_nil)) (lenA_cons (lenA_cons lenA_nil))))
  (snds_seq (snds_if (sndt_not (sndt_B (snd_callQ (snda_cons snd_var (snda_cons (snd_c fun _ => .int _) (snda_cons (snd_op snd_var (snd_c fun _ => .int _) ops_sub) snda_nil))) (lenA_cons (lenA_cons (lenA_cons lenA_nil)))))) snds_never snds_next)
  (snds_seq (snds_set (SndV.ofD (snd_callB (snda_cons (Snd.ofL (sndl_lc (sndi_range1 (snda_cons snd_var snda_nil)) sndg_name (sndt_test (snd_op snd_var snd_var ops_ne)) (snd_tup (snda_cons snd_var (snda_cons snd_var (snda_cons (snd_c fun _ => .int _) snda_nil)))) (by decide))) snda_nil) calls_tup)) (by decide))
  (snds_seq (snds_set (SndV.ofD (snd_callQ (snda_cons snd_var (snda_cons (snd_slT (snd_op snd_var snd_var ops_catT) sndo_none (sndo_some (snd_c fun _ => .int _))) snda_nil)) (lenA_cons (lenA_cons lenA_nil)))) (by decide))
  (snds_ret (snd_if (sndt_test (snd_op snd_var (snd_c fun _ => .non) ops_isN)) (snd_c fun _ => .non) (snd_callB (snda_cons (Snd.ofL (sndl_lc (sndi_tup snd_var) sndg_name sndt_yes (snd_if (sndt_test (snd_op (snd_op snd_var snd_var ops_ixT) (snd_c fun _ => .non) ops_isN)) (snd_c fun _ => .int _) (snd_un (snd_op snd_var snd_var ops_ixT) uns_neg)) (by decide))) snda_nil) calls_tup)))))))⟩)

abbrev s_fewest_left : Stmt := top 19
theorem sc_fewest_left : FnScope ["many", "wishes", "lots", "at", "size", "lot", "one"] ["many", "wishes"] (defScope s_fewest_left) := ⟨rfl, rfl, rfl, by decide +kernel, rfl, by decide +kernel, by decide +kernel⟩
def b_fewest_left : SD → Rs (Fl × SD) :=
 (sseq (sdrop (mcallQ m_check_wishes (mcons (mv 0) (mcons (mv 1) mnil))))
  (sseq (sif (mtest (mop oGt (mcall oLen (mcons (mv 1) mnil)) (mc (.int 12))))
 snever
 (sfl .nx))
  (sseq (sset 2 (mL (mcallL oLst (mcons (mcall oTup mnil) mnil))))
  (sseq (sfor (mit oRange1 (mcons (mcall oLen (mcons (mv 1) mnil)) mnil)) (gset 3)
 ((sset 2 (mL (mopL oCat (mv 2) (mfrz (mlcomp (mitems oItems (mv 2)) (gset 5) mtrue (mop oCatT (mv 5) (mcall oTup (mcons (mv 3) mnil))) [5])))))))
  (sseq (sfor (mitems oItems (mfrz (mcallL oSortedN (mcons (mfrz (mlcomp (mitems oItems (mv 2)) (gset 5) mtrue (mcall oTup (mcons (mcall oLen (mcons (mv 5) mnil)) (mcons (mv 5) mnil))) [5])) mnil)))) (gtup 2 (gcons (gset 4) (gcons (gset 5) gnil)))
 ((sif (mtest (mcallQ m_can_keep (mcons (mv 0) (mcons (mcall oTupOf (mcons (mfrz (mlcomp (mit oEnumT (mcons (mv 1) mnil)) (gtup 2 (gcons (gset 3) (gcons (gset 6) gnil))) (mtest (mop (oIn true) (mv 3) (mv 5))) (mv 6) [3, 6])) mnil)) mnil))))
 (sret (mv 5))
 (sfl .nx))))
  (sret (mc .none)))))))
def m_fewest_left : List D → Rs D := mdef 7 b_fewest_left
theorem ok_fewest_left (hb : Bi mg) (h_check_wishes : Callee P w K mg base 5 "check_wishes" ["many", "wishes"] (spP K eo0 2 m_check_wishes)) (h_can_keep : Callee P w K mg base 7 "can_keep" ["many", "wishes"] (spP K eo0 2 m_can_keep)) (F : FnP K "fewest_left" s_fewest_left f fd) : FnOk P w K mg base CX0 8 f fd ["many", "wishes"] (spP K eo0 2 m_fewest_left) := by
  have nd := sc_fewest_left.nd
  obtain ⟨f_check_wishes, fd_check_wishes, G_check_wishes, M_check_wishes, K_check_wishes, B_check_wishes⟩ := h_check_wishes.ex
  obtain ⟨f_can_keep, fd_can_keep, G_can_keep, M_can_keep, K_can_keep, B_can_keep⟩ := h_can_keep.ex
  exact fn_P F sc_fewest_left (by decide) (fun cdv A outer s H E hr => ⟨_,
 (pss_cons (ps_expr (pe_call G_check_wishes (hr.mono (by decide)) (by rfl) M_check_wishes K_check_wishes B_check_wishes .nil pass0 (pa_cons (pv 0) (pa_cons (pv 1) pa_nil))))
  (pss_cons (ps_if (pt_cmpR op_gt (pe_callB call_len (by rfl) (hb "len" (by decide +kernel)) (by decide +kernel) (pa_cons (pv 1) pa_nil)) pe_int (nomark _)) (pss_one ps_never) pss_nil)
  (pss_cons (ps_set (i := 2) nd rfl (by first | exact Or.inl rfl | exact Or.inr rfl) (pe_lst (pa_cons (pe_tup pa_nil) pa_nil)))
  (pss_cons (ps_for PassesOwn.never rfl (pi_range1 (by rfl) (hb "range" (by decide +kernel)) (pa_cons (pe_callB call_len (by rfl) (hb "len" (by decide +kernel)) (by decide +kernel) (pa_cons (pv 1) pa_nil)) pa_nil)) (pg_name (i := 3) nd rfl (by first | exact Or.inl rfl | exact Or.inr rfl)) (pss_one (ps_set (i := 2) nd rfl (by first | exact Or.inl rfl | exact Or.inr rfl) (pe_op op_cat (pv 2) (pe_lc (own := [("lot", 5)]) (g := (gName 5)) (by rfl) nd (pi_list (pv 2)) (blkOk_by (own := [("lot", 5)]) (N := ["many", "wishes", "lots", "at", "size", "lot", "one"]) (sc := defScope s_fewest_left) (by decide +kernel)) (fun _ _ _ _ _ => (pg_name (i := 5) nd rfl (by first | exact Or.inl rfl | exact Or.inr rfl))) (fun _ _ _ _ _ => pts_nil) (fun _ _ _ _ _ => (pe_op op_catA (pv 5) (pe_tup (pa_cons (pv 3) pa_nil)))))))))
  (pss_cons (ps_for PassesOwn.never rfl (pi_list (pe_callB (cr_sortedN hr.units) (by rfl) (hb "sorted" (by decide +kernel)) (by decide +kernel) (pa_cons (pe_lc (own := [("lot", 5)]) (g := (gName 5)) (by rfl) nd (pi_list (pv 2)) (blkOk_by (own := [("lot", 5)]) (N := ["many", "wishes", "lots", "at", "size", "lot", "one"]) (sc := defScope s_fewest_left) (by decide +kernel)) (fun _ _ _ _ _ => (pg_name (i := 5) nd rfl (by first | exact Or.inl rfl | exact Or.inr rfl))) (fun _ _ _ _ _ => pts_nil) (fun _ _ _ _ _ => (pe_tup (pa_cons (pe_callB call_len (by rfl) (hb "len" (by decide +kernel)) (by decide +kernel) (pa_cons (pv 5) pa_nil)) (pa_cons (pv 5) pa_nil))))) pa_nil))) (pg_tup rfl (pgs_cons (pg_name (i := 4) nd rfl (by first | exact Or.inl rfl | exact Or.inr rfl)) (pgs_cons (pg_name (i := 5) nd rfl (by first | exact Or.inl rfl | exact Or.inr rfl)) pgs_nil))) (pss_one (ps_if (pt_val (pe_call G_can_keep (hr.mono (by decide)) (by rfl) M_can_keep K_can_keep B_can_keep .nil pass0 (pa_cons (pv 0) (pa_cons (pe_callTy call_tuple_of (by rfl) (hb "tuple" (by decide +kernel)) (by decide +kernel) (pa_cons (pe_lc (own := [("at", 3), ("one", 6)]) (g := (gTup K 2 (gCons (gName 3) (gCons (gName 6) gNil)))) (by rfl) nd (pi_enumT (by rfl) (hb "enumerate" (by decide +kernel)) (pa_cons (pv 1) pa_nil)) (blkOk_by (own := [("at", 3), ("one", 6)]) (N := ["many", "wishes", "lots", "at", "size", "lot", "one"]) (sc := defScope s_fewest_left) (by decide +kernel)) (fun _ _ _ _ _ => (pg_tup rfl (pgs_cons (pg_name (i := 3) nd rfl (by first | exact Or.inl rfl | exact Or.inr rfl)) (pgs_cons (pg_name (i := 6) nd rfl (by first | exact Or.inl rfl | exact Or.inr rfl)) pgs_nil)))) (fun _ _ _ _ _ => (pts_one (pt_cmpR op_notIn_seq (pv 3) (pv 5) rfl))) (fun _ _ _ _ _ => (pv 6))) pa_nil)) pa_nil)))) (pss_one (ps_ret (pv 5))) pss_nil)))
  (pss_one (ps_ret pe_non))))))),
 (snds_seq (snds_drop (snd_callQ (snda_cons snd_var (snda_cons snd_var snda_nil)) (lenA_cons (lenA_cons lenA_nil))))
  (snds_seq (snds_if (sndt_test (snd_op (snd_callB (snda_cons snd_var snda_nil) calls_len) (snd_c fun _ => .int _) ops_gt)) snds_never snds_next)
  (snds_seq (snds_set (SndV.ofL (sndl_lst (snda_cons (snd_tup snda_nil) snda_nil))) (by decide))
  (snds_seq (snds_for (sndi_range1 (snda_cons (snd_callB (snda_cons snd_var snda_nil) calls_len) snda_nil)) sndg_name (snds_set (SndV.ofL (sndl_op snd_var (Snd.ofL (sndl_lc (sndi_list snd_var) sndg_name sndt_yes (snd_op snd_var (snd_tup (snda_cons snd_var snda_nil)) ops_catT) (by decide))) opl_cat)) (by decide)) (by decide))
  (snds_seq (snds_for (sndi_list (Snd.ofL (sndl_callB (snda_cons (Snd.ofL (sndl_lc (sndi_list snd_var) sndg_name sndt_yes (snd_tup (snda_cons (snd_callB (snda_cons snd_var snda_nil) calls_len) (snda_cons snd_var snda_nil))) (by decide))) snda_nil) calll_sortedN))) (sndg_tup (sndgs_cons sndg_name (sndgs_cons sndg_name sndgs_nil))) (snds_if (sndt_B (snd_callQ (snda_cons snd_var (snda_cons (snd_callB (snda_cons (Snd.ofL (sndl_lc (sndi_enumT (snda_cons snd_var snda_nil)) (sndg_tup (sndgs_cons sndg_name (sndgs_cons sndg_name sndgs_nil))) (sndt_test (snd_op snd_var snd_var (ops_in (neg := true)))) snd_var (by decide))) snda_nil) calls_tup) snda_nil)) (lenA_cons (lenA_cons lenA_nil)))) (snds_ret snd_var) snds_next) (by decide))
  (snds_ret (snd_c fun _ => .non)))))))⟩)

abbrev s__law_hand : Stmt := top 21
theorem sc__law_hand : FnScope ["script", "seed_rows", "cell"] ["script"] (defScope s__law_hand) := ⟨rfl, rfl, rfl, by decide +kernel, rfl, by decide +kernel, by decide +kernel⟩
def b1__law_hand : SD → Rs (Fl × SD) := (sset 1 (mL (mlcomp (mitems oItems (mfrz (mscr 0 63))) (gset 2) mtrue (mcall oAbs (mcons (mcall oInt (mcons (mv 2) mnil)) mnil)) [2])))
def b2__law_hand : M (List D) := (mcallL oLst (mcons (mv 1) (mcons (mc (.int 0)) (mcons (mc (.int 0)) (mcons (mop oAdd (mc (.int 83)) (mop oMul (mc (.int 5)) (mcallS oLenS 1))) (mcons (mc (.int 0)) mnil))))))
def m__law_hand : List Int → Rs (List D) := mhand 3 b1__law_hand b2__law_hand
theorem ok__law_hand (hb : Bi mg) (F : FnP K "_law_hand" s__law_hand f fd) : FnOk P w K mg base CX0 1 f fd ["script"] (spScr K m__law_hand) := by
  have nd := sc__law_hand.nd
  exact fn_scr F sc__law_hand (by decide) (fun cdv A outer s H E hr => ⟨_, _, pss_cons (by first | exact ps_setLc (i := 1) (own := [("cell", 2)]) (g := (gName 2)) (by rfl) nd rfl rfl (sw_true rfl rfl rfl (by decide +kernel)) (pi_list (pe_slice sl_list (pv 0) po_none (po_some pe_int))) (blkOk_by (own := [("cell", 2)]) (N := ["script", "seed_rows", "cell"]) (sc := defScope s__law_hand) (by decide +kernel)) (fun _ _ _ _ _ => (pg_name (i := 2) nd rfl (by first | exact Or.inl rfl | exact Or.inr rfl))) (fun _ _ _ _ _ => pts_nil) (fun _ _ _ _ _ => (pe_callB call_abs (by rfl) (hb "abs" (by decide +kernel)) (by decide +kernel) (pa_cons (pe_callTy call_int1 (by rfl) (hb "int" (by decide +kernel)) (by decide +kernel) (pa_cons (pv 2) pa_nil)) pa_nil))) | exact (ps_set (i := 1) nd rfl (by first | exact Or.inl rfl | exact Or.inr rfl) (pe_lc (own := [("cell", 2)]) (g := (gName 2)) (by rfl) nd (pi_list (pe_slice sl_list (pv 0) po_none (po_some pe_int))) (blkOk_by (own := [("cell", 2)]) (N := ["script", "seed_rows", "cell"]) (sc := defScope s__law_hand) (by decide +kernel)) (fun _ _ _ _ _ => (pg_name (i := 2) nd rfl (by first | exact Or.inl rfl | exact Or.inr rfl))) (fun _ _ _ _ _ => pts_nil) (fun _ _ _ _ _ => (pe_callB call_abs (by rfl) (hb "abs" (by decide +kernel)) (by decide +kernel) (pa_cons (pe_callTy call_int1 (by rfl) (hb "int" (by decide +kernel)) (by decide +kernel) (pa_cons (pv 2) pa_nil)) pa_nil)))))) (pss_one (ps_ret (pe_lst (pa_cons (pv 1) (pa_cons pe_int (pa_cons pe_int (pa_cons (pe_op op_add pe_int (pe_op op_mul pe_int (pe_callB call_len (by rfl) (hb "len" (by decide +kernel)) (by decide +kernel) (pa_cons (pv 1) pa_nil)))) (pa_cons pe_int pa_nil)))))))), (snds_set (SndV.ofL (sndl_lc (sndi_list (Snd.ofL sndl_scr)) sndg_name sndt_yes (snd_callB (snda_cons (snd_callB (snda_cons snd_var snda_nil) calls_int) snda_nil) calls_abs) (by decide))) (by decide)), (sndl_lst (snda_cons snd_var (snda_cons (snd_c fun _ => .int _) (snda_cons (snd_c fun _ => .int _) (snda_cons (snd_op (snd_c fun _ => .int _) (snd_op (snd_c fun _ => .int _) (snd_callS callsl_len) ops_mul) ops_add) (snda_cons (snd_c fun _ => .int _) snda_nil))))))⟩)

abbrev s__law_draw : Stmt := top 22
theorem sc__law_draw : FnScope ["hand", "many", "cell", "digit", "number"] ["hand", "many"] (defScope s__law_draw) := ⟨rfl, rfl, rfl, by decide +kernel, rfl, by decide +kernel, by decide +kernel⟩
def b__law_draw : SD → Rs (Fl × SD) :=
 (sseq (sif (mand (mtest (mop oEq (mixS 0 (mc (.int 2))) (mc (.int 0)))) (mtest (mop oLt (mixS 0 (mc (.int 1))) (mcall oLen (mcons (mixS 0 (mc (.int 0))) mnil)))))
 (sseq (sset 2 (mD (mop oIxL (mixS 0 (mc (.int 0))) (mixS 0 (mc (.int 1))))))
  (sseq (sput 0 (mop oAdd (mixS 0 (mc (.int 1))) (mc (.int 1))) (mc (.int 1)))
  (sseq (sput 0 (mop oMod (mcall oInt (mcons (mop oAdd (mop oAdd (mop oMul (mixS 0 (mc (.int 3))) (mc (.int 69621))) (mop oMul (mv 2) (mc (.int 40692)))) (mc (.int 17))) mnil)) (mc (.int 2147483629))) (mc (.int 3)))
  (sif (mtest (mop oGe (mv 2) (mop oPow (mc (.int 10)) (mc (.int 18)))))
 (sput 0 (mv 2) (mc (.int 2)))
 (sfl .nx)))))
 (sfl .nx))
  (sseq (sif (mtest (mop oGt (mixS 0 (mc (.int 2))) (mc (.int 0))))
 (sseq (sset 3 (mD (mop oMod (mcall oInt (mcons (mixS 0 (mc (.int 2))) mnil)) (mv 1))))
  (sseq (sput 0 (mop oDiv (mixS 0 (mc (.int 2))) (mv 1)) (mc (.int 2)))
  (sret (mv 3))))
 (sfl .nx))
  (sseq (sput 0 (mop oAdd (mixS 0 (mc (.int 4))) (mc (.int 1))) (mc (.int 4)))
  (sseq (sset 4 (mD (mop oMod (mcall oInt (mcons (mop oMul (mcall oInt (mcons (mop oAdd (mixS 0 (mc (.int 3))) (mop oMul (mc (.int 7919)) (mixS 0 (mc (.int 4))))) mnil)) (mc (.int 48271))) mnil)) (mc (.int 2147483647)))))
  (sseq (sset 4 (mD (mop oMod (mcall oInt (mcons (mop oMul (mv 4) (mop oAdd (mop oDiv (mv 4) (mc (.int 1009))) (mc (.int 69621)))) mnil)) (mc (.int 2147483647)))))
  (sseq (sset 4 (mD (mop oMod (mcall oInt (mcons (mop oMul (mv 4) (mop oAdd (mop oDiv (mv 4) (mc (.int 2003))) (mc (.int 40014)))) mnil)) (mc (.int 2147483563)))))
  (sret (mop oMod (mcall oInt (mcons (mop oDiv (mv 4) (mc (.int 16))) mnil)) (mv 1)))))))))
def m__law_draw : List D → List D → Rs (D × List D) := mdefH 5 b__law_draw
theorem ok__law_draw (hb : Bi mg) (F : FnP K "_law_draw" s__law_draw f fd) : FnOk P w K mg base CX0 1 f fd ["hand", "many"] (spH K eo0 2 m__law_draw) := by
  have nd := sc__law_draw.nd
  exact fn_H F sc__law_draw (by decide) (fun cdv A outer s H E hr => ⟨_,
 (pss_cons (ps_if (PW.pt (pw_and (pt_cmpR (op_eqD hr.units) (pe_ix ix_list (pv 0) pe_int (fun _ _ => rfl)) pe_int (nomark _)) (pw_and1 (pt_cmpR op_lt (pe_ix ix_list (pv 0) pe_int (fun _ _ => rfl)) (pe_callB call_len (by rfl) (hb "len" (by decide +kernel)) (by decide +kernel) (pa_cons (pe_ix ix_list (pv 0) pe_int (fun _ _ => rfl)) pa_nil)) (nomark _))))) (pss_cons (ps_set (i := 2) nd rfl (by first | exact Or.inl rfl | exact Or.inr rfl) (pe_ix ix_list (pe_ix ix_list (pv 0) pe_int (fun _ _ => rfl)) (pe_ix ix_list (pv 0) pe_int (fun _ _ => rfl)) (fun _ _ => rfl)))
  (pss_cons (ps_asg (pe_op op_add (pe_ix ix_list (pv 0) pe_int (fun _ _ => rfl)) pe_int) (pg_sub (pv 0) pe_int set_list))
  (pss_cons (ps_asg (pe_op op_modN (pe_callTy call_int1 (by rfl) (hb "int" (by decide +kernel)) (by decide +kernel) (pa_cons (pe_op op_add (pe_op op_add (pe_op op_mul (pe_ix ix_list (pv 0) pe_int (fun _ _ => rfl)) pe_int) (pe_op op_mul (pv 2) pe_int)) pe_int) pa_nil)) pe_int) (pg_sub (pv 0) pe_int set_list))
  (pss_one (ps_if (pt_cmpR op_ge (pv 2) (pe_op op_pow pe_int pe_int) (nomark _)) (pss_one (ps_asg (pv 2) (pg_sub (pv 0) pe_int set_list))) pss_nil))))) pss_nil)
  (pss_cons (ps_if (pt_cmpR op_gt (pe_ix ix_list (pv 0) pe_int (fun _ _ => rfl)) pe_int (nomark _)) (pss_cons (ps_set (i := 3) nd rfl (by first | exact Or.inl rfl | exact Or.inr rfl) (pe_op op_modN (pe_callTy call_int1 (by rfl) (hb "int" (by decide +kernel)) (by decide +kernel) (pa_cons (pe_ix ix_list (pv 0) pe_int (fun _ _ => rfl)) pa_nil)) (pv 1)))
  (pss_cons (ps_asg (pe_op op_fdivN (pe_ix ix_list (pv 0) pe_int (fun _ _ => rfl)) (pv 1)) (pg_sub (pv 0) pe_int set_list))
  (pss_one (ps_ret (pv 3))))) pss_nil)
  (pss_cons (ps_asg (pe_op op_add (pe_ix ix_list (pv 0) pe_int (fun _ _ => rfl)) pe_int) (pg_sub (pv 0) pe_int set_list))
  (pss_cons (ps_set (i := 4) nd rfl (by first | exact Or.inl rfl | exact Or.inr rfl) (pe_op op_modN (pe_callTy call_int1 (by rfl) (hb "int" (by decide +kernel)) (by decide +kernel) (pa_cons (pe_op op_mul (pe_callTy call_int1 (by rfl) (hb "int" (by decide +kernel)) (by decide +kernel) (pa_cons (pe_op op_add (pe_ix ix_list (pv 0) pe_int (fun _ _ => rfl)) (pe_op op_mul pe_int (pe_ix ix_list (pv 0) pe_int (fun _ _ => rfl)))) pa_nil)) pe_int) pa_nil)) pe_int))
  (pss_cons (ps_set (i := 4) nd rfl (by first | exact Or.inl rfl | exact Or.inr rfl) (pe_op op_modN (pe_callTy call_int1 (by rfl) (hb "int" (by decide +kernel)) (by decide +kernel) (pa_cons (pe_op op_mul (pv 4) (pe_op op_add (pe_op op_fdivN (pv 4) pe_int) pe_int)) pa_nil)) pe_int))
  (pss_cons (ps_set (i := 4) nd rfl (by first | exact Or.inl rfl | exact Or.inr rfl) (pe_op op_modN (pe_callTy call_int1 (by rfl) (hb "int" (by decide +kernel)) (by decide +kernel) (pa_cons (pe_op op_mul (pv 4) (pe_op op_add (pe_op op_fdivN (pv 4) pe_int) pe_int)) pa_nil)) pe_int))
  (pss_one (ps_ret (pe_op op_modN (pe_callTy call_int1 (by rfl) (hb "int" (by decide +kernel)) (by decide +kernel) (pa_cons (pe_op op_fdivN (pv 4) pe_int) pa_nil)) (pv 1)))))))))),
 (snds_seq (snds_if (sndt_and (sndt_test (snd_op (snd_ixS (snd_c fun _ => .int _)) (snd_c fun _ => .int _) ops_eq)) (sndt_test (snd_op (snd_ixS (snd_c fun _ => .int _)) (snd_callB (snda_cons (snd_ixS (snd_c fun _ => .int _)) snda_nil) calls_len) ops_lt))) (snds_seq (snds_set (SndV.ofD (snd_op (snd_ixS (snd_c fun _ => .int _)) (snd_ixS (snd_c fun _ => .int _)) ops_ixL)) (by decide))
  (snds_seq (snds_put (snd_op (snd_ixS (snd_c fun _ => .int _)) (snd_c fun _ => .int _) ops_add) (snd_c fun _ => .int _))
  (snds_seq (snds_put (snd_op (snd_callB (snda_cons (snd_op (snd_op (snd_op (snd_ixS (snd_c fun _ => .int _)) (snd_c fun _ => .int _) ops_mul) (snd_op snd_var (snd_c fun _ => .int _) ops_mul) ops_add) (snd_c fun _ => .int _) ops_add) snda_nil) calls_int) (snd_c fun _ => .int _) ops_mod) (snd_c fun _ => .int _))
  (snds_if (sndt_test (snd_op snd_var (snd_op (snd_c fun _ => .int _) (snd_c fun _ => .int _) ops_pow) ops_ge)) (snds_put snd_var (snd_c fun _ => .int _)) snds_next)))) snds_next)
  (snds_seq (snds_if (sndt_test (snd_op (snd_ixS (snd_c fun _ => .int _)) (snd_c fun _ => .int _) ops_gt)) (snds_seq (snds_set (SndV.ofD (snd_op (snd_callB (snda_cons (snd_ixS (snd_c fun _ => .int _)) snda_nil) calls_int) snd_var ops_mod)) (by decide))
  (snds_seq (snds_put (snd_op (snd_ixS (snd_c fun _ => .int _)) snd_var ops_div) (snd_c fun _ => .int _))
  (snds_ret snd_var))) snds_next)
  (snds_seq (snds_put (snd_op (snd_ixS (snd_c fun _ => .int _)) (snd_c fun _ => .int _) ops_add) (snd_c fun _ => .int _))
  (snds_seq (snds_set (SndV.ofD (snd_op (snd_callB (snda_cons (snd_op (snd_callB (snda_cons (snd_op (snd_ixS (snd_c fun _ => .int _)) (snd_op (snd_c fun _ => .int _) (snd_ixS (snd_c fun _ => .int _)) ops_mul) ops_add) snda_nil) calls_int) (snd_c fun _ => .int _) ops_mul) snda_nil) calls_int) (snd_c fun _ => .int _) ops_mod)) (by decide))
  (snds_seq (snds_set (SndV.ofD (snd_op (snd_callB (snda_cons (snd_op snd_var (snd_op (snd_op snd_var (snd_c fun _ => .int _) ops_div) (snd_c fun _ => .int _) ops_add) ops_mul) snda_nil) calls_int) (snd_c fun _ => .int _) ops_mod)) (by decide))
  (snds_seq (snds_set (SndV.ofD (snd_op (snd_callB (snda_cons (snd_op snd_var (snd_op (snd_op snd_var (snd_c fun _ => .int _) ops_div) (snd_c fun _ => .int _) ops_add) ops_mul) snda_nil) calls_int) (snd_c fun _ => .int _) ops_mod)) (by decide))
  (snds_ret (snd_op (snd_callB (snda_cons (snd_op snd_var (snd_c fun _ => .int _) ops_div) snda_nil) calls_int) snd_var ops_mod))))))))⟩)

abbrev s__law_shortest : Stmt := top 23
theorem sc__law_shortest : FnScope ["many", "wishes", "far", "one", "other", "most", "middle", "here"] ["many", "wishes"] (defScope s__law_shortest) := ⟨rfl, rfl, rfl, by decide +kernel, rfl, by decide +kernel, by decide +kernel⟩
def b__law_shortest : SD → Rs (Fl × SD) :=
 (sseq (sset 2 (mLL0 (mcallL oLst mnil)))
  (sseq (sfor (mit oRange1 (mcons (mv 0) mnil)) (gset 3)
 ((sappL 2 (mlcomp (mit oRange1 (mcons (mv 0) mnil)) (gset 4) mtrue (mife (mtest (mop oEq (mv 4) (mv 3))) (mc (.int 0)) (mc .none)) [4]))))
  (sseq (sfor (mitems oItemsT (mv 1)) (gtup 3 (gcons (gset 3) (gcons (gset 4) (gcons (gset 5) gnil))))
 ((sif (mor (mtest (mop oIsN (mP (pix2 2 (pv' 3) (pv' 4))) (mc .none))) (mtest (mop oLt (mv 5) (mP (pix2 2 (pv' 3) (pv' 4))))))
 (sput2 2 (mv 5) (pv' 3) (pv' 4))
 (sfl .nx))))
  (sseq (sfor (mit oRange1 (mcons (mv 0) mnil)) (gset 6)
 ((sfor (mit oRange1 (mcons (mv 0) mnil)) (gset 3)
 ((sfor (mit oRange1 (mcons (mv 0) mnil)) (gset 4)
 ((sif (mand (mtest (mop oNotN (mP (pix2 2 (pv' 3) (pv' 6))) (mc .none))) (mtest (mop oNotN (mP (pix2 2 (pv' 6) (pv' 4))) (mc .none))))
 (sseq (sset 7 (mD (mop oAdd (mP (pix2 2 (pv' 3) (pv' 6))) (mP (pix2 2 (pv' 6) (pv' 4))))))
  (sif (mor (mtest (mop oIsN (mP (pix2 2 (pv' 3) (pv' 4))) (mc .none))) (mtest (mop oLt (mv 7) (mP (pix2 2 (pv' 3) (pv' 4))))))
 (sput2 2 (mv 7) (pv' 3) (pv' 4))
 (sfl .nx)))
 (sfl .nx))))))))
  (sret (mife (mtest (mcall (on1 oAnyL) (mcons (mfrz (mlcomp (mit oRange1 (mcons (mv 0) mnil)) (gset 3) mtrue (mop oLt (mP (pix2 2 (pv' 3) (pv' 3))) (mc (.int 0))) [3])) mnil))) (mc .none) (mv 2)))))))
def m__law_shortest : List D → Rs D := mdef 8 b__law_shortest
theorem ok__law_shortest (hb : Bi mg) (F : FnP K "_law_shortest" s__law_shortest f fd) : FnOk P w K mg base CX0 1 f fd ["many", "wishes"] (spP K eo0 2 m__law_shortest) := by
  have nd := sc__law_shortest.nd
  exact fn_P F sc__law_shortest (by decide) (fun cdv A outer s H E hr => ⟨_,
 (pss_cons (ps_set (i := 2) nd rfl (by first | exact Or.inl rfl | exact Or.inr rfl) (pe_lst pa_nil))
  (pss_cons (ps_for PassesOwn.never rfl (pi_range1 (by rfl) (hb "range" (by decide +kernel)) (pa_cons (pv 0) pa_nil)) (pg_name (i := 3) nd rfl (by first | exact Or.inl rfl | exact Or.inr rfl)) (pss_one (ps_expr (pe_bm PySem.F.plainAttrs_list PySem.F.slot_list_append PySem.F.type_list_append mt_append (pv 2) (pa_cons (pe_lc (own := [("other", 4)]) (g := (gName 4)) (by rfl) nd (pi_range1 (by rfl) (hb "range" (by decide +kernel)) (pa_cons (pv 0) pa_nil)) (blkOk_by (own := [("other", 4)]) (N := ["many", "wishes", "far", "one", "other", "most", "middle", "here"]) (sc := defScope s__law_shortest) (by decide +kernel)) (fun _ _ _ _ _ => (pg_name (i := 4) nd rfl (by first | exact Or.inl rfl | exact Or.inr rfl))) (fun _ _ _ _ _ => pts_nil) (fun _ _ _ _ _ => (pe_ifExp (pt_cmpR (op_eqD hr.units) (pv 4) (pv 3) (nomark _)) pe_int pe_non))) pa_nil)))))
  (pss_cons (ps_for PassesOwn.never rfl (pi_tup (pv 1)) (pg_tup rfl (pgs_cons (pg_name (i := 3) nd rfl (by first | exact Or.inl rfl | exact Or.inr rfl)) (pgs_cons (pg_name (i := 4) nd rfl (by first | exact Or.inl rfl | exact Or.inr rfl)) (pgs_cons (pg_name (i := 5) nd rfl (by first | exact Or.inl rfl | exact Or.inr rfl)) pgs_nil)))) (pss_one (ps_if (PW.pt (pw_or (pt_cmpR op_isN (pe_ix ix_list (pe_ix ix_list (pv 2) (pv 3) (fun _ _ => rfl)) (pv 4) (fun _ _ => rfl)) pe_non (nomark _)) (pw_or1 (pt_cmpR op_lt (pv 5) (pe_ix ix_list (pe_ix ix_list (pv 2) (pv 3) (fun _ _ => rfl)) (pv 4) (fun _ _ => rfl)) (nomark _))))) (pss_one (ps_asg (pv 5) (pg_sub (pe_ix ix_list (pv 2) (pv 3) (fun _ _ => rfl)) (pv 4) set_list))) pss_nil)))
  (pss_cons (ps_for PassesOwn.never rfl (pi_range1 (by rfl) (hb "range" (by decide +kernel)) (pa_cons (pv 0) pa_nil)) (pg_name (i := 6) nd rfl (by first | exact Or.inl rfl | exact Or.inr rfl)) (pss_one (ps_for PassesOwn.never rfl (pi_range1 (by rfl) (hb "range" (by decide +kernel)) (pa_cons (pv 0) pa_nil)) (pg_name (i := 3) nd rfl (by first | exact Or.inl rfl | exact Or.inr rfl)) (pss_one (ps_for PassesOwn.never rfl (pi_range1 (by rfl) (hb "range" (by decide +kernel)) (pa_cons (pv 0) pa_nil)) (pg_name (i := 4) nd rfl (by first | exact Or.inl rfl | exact Or.inr rfl)) (pss_one (ps_if (PW.pt (pw_and (pt_cmpR op_notN (pe_ix ix_list (pe_ix ix_list (pv 2) (pv 3) (fun _ _ => rfl)) (pv 6) (fun _ _ => rfl)) pe_non (nomark _)) (pw_and1 (pt_cmpR op_notN (pe_ix ix_list (pe_ix ix_list (pv 2) (pv 6) (fun _ _ => rfl)) (pv 4) (fun _ _ => rfl)) pe_non (nomark _))))) (pss_cons (ps_set (i := 7) nd rfl (by first | exact Or.inl rfl | exact Or.inr rfl) (pe_op op_add (pe_ix ix_list (pe_ix ix_list (pv 2) (pv 3) (fun _ _ => rfl)) (pv 6) (fun _ _ => rfl)) (pe_ix ix_list (pe_ix ix_list (pv 2) (pv 6) (fun _ _ => rfl)) (pv 4) (fun _ _ => rfl))))
  (pss_one (ps_if (PW.pt (pw_or (pt_cmpR op_isN (pe_ix ix_list (pe_ix ix_list (pv 2) (pv 3) (fun _ _ => rfl)) (pv 4) (fun _ _ => rfl)) pe_non (nomark _)) (pw_or1 (pt_cmpR op_lt (pv 7) (pe_ix ix_list (pe_ix ix_list (pv 2) (pv 3) (fun _ _ => rfl)) (pv 4) (fun _ _ => rfl)) (nomark _))))) (pss_one (ps_asg (pv 7) (pg_sub (pe_ix ix_list (pv 2) (pv 3) (fun _ _ => rfl)) (pv 4) set_list))) pss_nil))) pss_nil)))))))
  (pss_one (ps_ret (pe_ifExp (pt_val (pe_callB (cr_any rfl) (by rfl) (hb "any" (by decide +kernel)) (by decide +kernel) (pa_cons (pe_lc (own := [("one", 3)]) (g := (gName 3)) (by rfl) nd (pi_range1 (by rfl) (hb "range" (by decide +kernel)) (pa_cons (pv 0) pa_nil)) (blkOk_by (own := [("one", 3)]) (N := ["many", "wishes", "far", "one", "other", "most", "middle", "here"]) (sc := defScope s__law_shortest) (by decide +kernel)) (fun _ _ _ _ _ => (pg_name (i := 3) nd rfl (by first | exact Or.inl rfl | exact Or.inr rfl))) (fun _ _ _ _ _ => pts_nil) (fun _ _ _ _ _ => (pe_cmpR op_lt (pe_ix ix_list (pe_ix ix_list (pv 2) (pv 3) (fun _ _ => rfl)) (pv 3) (fun _ _ => rfl)) pe_int (nomark _)))) pa_nil))) pe_non (pv 2)))))))),
 (snds_seq (snds_set (SndV.ofL0 (sndl_lst snda_nil)) (by decide))
  (snds_seq (snds_for (sndi_range1 (snda_cons snd_var snda_nil)) sndg_name (snds_appL (sndl_lc (sndi_range1 (snda_cons snd_var snda_nil)) sndg_name sndt_yes (snd_if (sndt_test (snd_op snd_var snd_var ops_eq)) (snd_c fun _ => .int _) (snd_c fun _ => .non)) (by decide))) (by decide))
  (snds_seq (snds_for (sndi_tup snd_var) (sndg_tup (sndgs_cons sndg_name (sndgs_cons sndg_name (sndgs_cons sndg_name sndgs_nil)))) (snds_if (sndt_or (sndt_test (snd_op (Snd.ofP (sndp_ix2 sndp_var sndp_var)) (snd_c fun _ => .non) ops_isN)) (sndt_test (snd_op snd_var (Snd.ofP (sndp_ix2 sndp_var sndp_var)) ops_lt))) (snds_put2 snd_var sndp_var sndp_var) snds_next) (by decide))
  (snds_seq (snds_for (sndi_range1 (snda_cons snd_var snda_nil)) sndg_name (snds_for (sndi_range1 (snda_cons snd_var snda_nil)) sndg_name (snds_for (sndi_range1 (snda_cons snd_var snda_nil)) sndg_name (snds_if (sndt_and (sndt_test (snd_op (Snd.ofP (sndp_ix2 sndp_var sndp_var)) (snd_c fun _ => .non) ops_notN)) (sndt_test (snd_op (Snd.ofP (sndp_ix2 sndp_var sndp_var)) (snd_c fun _ => .non) ops_notN))) (snds_seq (snds_set (SndV.ofD (snd_op (Snd.ofP (sndp_ix2 sndp_var sndp_var)) (Snd.ofP (sndp_ix2 sndp_var sndp_var)) ops_add)) (by decide))
  (snds_if (sndt_or (sndt_test (snd_op (Snd.ofP (sndp_ix2 sndp_var sndp_var)) (snd_c fun _ => .non) ops_isN)) (sndt_test (snd_op snd_var (Snd.ofP (sndp_ix2 sndp_var sndp_var)) ops_lt))) (snds_put2 snd_var sndp_var sndp_var) snds_next)) snds_next) (by decide)) (by decide)) (by decide))
  (snds_ret (snd_if (sndt_B (snd_callB (snda_cons (Snd.ofL (sndl_lc (sndi_range1 (snda_cons snd_var snda_nil)) sndg_name sndt_yes (snd_op (Snd.ofP (sndp_ix2 sndp_var sndp_var)) (snd_c fun _ => .int _) ops_lt) (by decide))) snda_nil) (calls_on1 callsl_any))) (snd_c fun _ => .non) snd_var))))))⟩)

abbrev s__law_wishes : Stmt := top 24
theorem sc__law_wishes : FnScope ["hand", "many", "most", "so_far", "lap", "one", "other"] ["hand", "many", "most"] (defScope s__law_wishes) := ⟨rfl, rfl, rfl, by decide +kernel, rfl, by decide +kernel, by decide +kernel⟩
def b__law_wishes : SD → Rs (Fl × SD) :=
 (sseq (sset 3 (mL (mcallL oLst mnil)))
  (sseq (sfor (mit oRange1 (mcons (mcallH m__law_draw 0 (mcons (mop oAdd (mv 2) (mc (.int 1))) mnil)) mnil)) (gset 4)
 ((sseq (sset 5 (mD (mcallH m__law_draw 0 (mcons (mv 1) mnil))))
  (sseq (sset 6 (mD (mop oMod (mcall oInt (mcons (mop oAdd (mop oAdd (mv 5) (mc (.int 1))) (mcallH m__law_draw 0 (mcons (mop oSub (mv 1) (mc (.int 1))) mnil))) mnil)) (mv 1))))
  (smut oApp 3 (mcall oTup (mcons (mv 5) (mcons (mv 6) (mcons (mop oSub (mcallH m__law_draw 0 (mcons (mc (.int 12)) mnil)) (mc (.int 4))) mnil)))))))))
  (sret (mcallS oTupS 3))))
def m__law_wishes : List D → List D → Rs (D × List D) := mdefH 7 b__law_wishes
theorem ok__law_wishes (hb : Bi mg) (h__law_draw : Callee P w K mg base 1 "_law_draw" ["hand", "many"] (spH K eo0 2 m__law_draw)) (F : FnP K "_law_wishes" s__law_wishes f fd) : FnOk P w K mg base CX0 2 f fd ["hand", "many", "most"] (spH K eo0 3 m__law_wishes) := by
  have nd := sc__law_wishes.nd
  obtain ⟨f__law_draw, fd__law_draw, G__law_draw, M__law_draw, K__law_draw, B__law_draw⟩ := h__law_draw.ex
  exact fn_H F sc__law_wishes (by decide) (fun cdv A outer s H E hr => ⟨_,
 (pss_cons (ps_set (i := 3) nd rfl (by first | exact Or.inl rfl | exact Or.inr rfl) (pe_lst pa_nil))
  (pss_cons (ps_for PassesOwn.never rfl (pi_range1 (by rfl) (hb "range" (by decide +kernel)) (pa_cons (pe_call G__law_draw (hr.mono (by decide)) (by rfl) M__law_draw K__law_draw B__law_draw .nil pass0 (pa_cons (pv 0) (pa_cons (pe_op op_add (pv 2) pe_int) pa_nil))) pa_nil)) (pg_name (i := 4) nd rfl (by first | exact Or.inl rfl | exact Or.inr rfl)) (pss_cons (ps_set (i := 5) nd rfl (by first | exact Or.inl rfl | exact Or.inr rfl) (pe_call G__law_draw (hr.mono (by decide)) (by rfl) M__law_draw K__law_draw B__law_draw .nil pass0 (pa_cons (pv 0) (pa_cons (pv 1) pa_nil))))
  (pss_cons (ps_set (i := 6) nd rfl (by first | exact Or.inl rfl | exact Or.inr rfl) (pe_op op_modN (pe_callTy call_int1 (by rfl) (hb "int" (by decide +kernel)) (by decide +kernel) (pa_cons (pe_op op_add (pe_op op_add (pv 5) pe_int) (pe_call G__law_draw (hr.mono (by decide)) (by rfl) M__law_draw K__law_draw B__law_draw .nil pass0 (pa_cons (pv 0) (pa_cons (pe_op op_sub (pv 1) pe_int) pa_nil)))) pa_nil)) (pv 1)))
  (pss_one (ps_expr (pe_bm PySem.F.plainAttrs_list PySem.F.slot_list_append PySem.F.type_list_append mt_append (pv 3) (pa_cons (pe_tup (pa_cons (pv 5) (pa_cons (pv 6) (pa_cons (pe_op op_sub (pe_call G__law_draw (hr.mono (by decide)) (by rfl) M__law_draw K__law_draw B__law_draw .nil pass0 (pa_cons (pv 0) (pa_cons pe_int pa_nil))) pe_int) pa_nil)))) pa_nil)))))))
  (pss_one (ps_ret (pe_callTy call_tuple_of (by rfl) (hb "tuple" (by decide +kernel)) (by decide +kernel) (pa_cons (pv 3) pa_nil)))))),
 (snds_seq (snds_set (SndV.ofL (sndl_lst snda_nil)) (by decide))
  (snds_seq (snds_for (sndi_range1 (snda_cons (snd_callHQ (snda_cons (snd_op snd_var (snd_c fun _ => .int _) ops_add) snda_nil) (lenA_cons lenA_nil)) snda_nil)) sndg_name (snds_seq (snds_set (SndV.ofD (snd_callHQ (snda_cons snd_var snda_nil) (lenA_cons lenA_nil))) (by decide))
  (snds_seq (snds_set (SndV.ofD (snd_op (snd_callB (snda_cons (snd_op (snd_op snd_var (snd_c fun _ => .int _) ops_add) (snd_callHQ (snda_cons (snd_op snd_var (snd_c fun _ => .int _) ops_sub) snda_nil) (lenA_cons lenA_nil)) ops_add) snda_nil) calls_int) snd_var ops_mod)) (by decide))
  (snds_app (snd_tup (snda_cons snd_var (snda_cons snd_var (snda_cons (snd_op (snd_callHQ (snda_cons (snd_c fun _ => .int _) snda_nil) (lenA_cons lenA_nil)) (snd_c fun _ => .int _) ops_sub) snda_nil))))))) (by decide))
  (snds_ret (snd_callS callsl_tup))))⟩)

abbrev s__law_are_kept : Stmt := top 25
theorem sc__law_are_kept : FnScope ["wishes", "ends_told", "one", "other", "most"] ["wishes", "ends_told"] (defScope s__law_are_kept) := ⟨rfl, rfl, rfl, by decide +kernel, rfl, by decide +kernel, by decide +kernel⟩
def b__law_are_kept : SD → Rs (Fl × SD) :=
 (sret (mcall (on1 oAllL) (mcons (mfrz (mlcomp (mitems oItemsT (mv 0)) (gtup 3 (gcons (gset 2) (gcons (gset 3) (gcons (gset 4) gnil)))) mtrue (mop oLe (mop oSub (mixS 1 (mv 3)) (mixS 1 (mv 2))) (mv 4)) [2, 3, 4])) mnil)))
def m__law_are_kept : List D → Rs D := mdef 5 b__law_are_kept
theorem ok__law_are_kept (hb : Bi mg) (F : FnP K "_law_are_kept" s__law_are_kept f fd) : FnOk P w K mg base CX0 1 f fd ["wishes", "ends_told"] (spP K eo0 2 m__law_are_kept) := by
  have nd := sc__law_are_kept.nd
  exact fn_P F sc__law_are_kept (by decide) (fun cdv A outer s H E hr => ⟨_,
 (pss_one (ps_ret (pe_callB (cr_all rfl) (by rfl) (hb "all" (by decide +kernel)) (by decide +kernel) (pa_cons (pe_lc (own := [("one", 2), ("other", 3), ("most", 4)]) (g := (gTup K 3 (gCons (gName 2) (gCons (gName 3) (gCons (gName 4) gNil))))) (by rfl) nd (pi_tup (pv 0)) (blkOk_by (own := [("one", 2), ("other", 3), ("most", 4)]) (N := ["wishes", "ends_told", "one", "other", "most"]) (sc := defScope s__law_are_kept) (by decide +kernel)) (fun _ _ _ _ _ => (pg_tup rfl (pgs_cons (pg_name (i := 2) nd rfl (by first | exact Or.inl rfl | exact Or.inr rfl)) (pgs_cons (pg_name (i := 3) nd rfl (by first | exact Or.inl rfl | exact Or.inr rfl)) (pgs_cons (pg_name (i := 4) nd rfl (by first | exact Or.inl rfl | exact Or.inr rfl)) pgs_nil))))) (fun _ _ _ _ _ => pts_nil) (fun _ _ _ _ _ => (pe_cmpR op_le (pe_op op_sub (pe_ix ix_list (pv 1) (pv 3) (fun _ _ => rfl)) (pe_ix ix_list (pv 1) (pv 2) (fun _ _ => rfl))) (pv 4) (nomark _)))) pa_nil)))),
 (snds_ret (snd_callB (snda_cons (Snd.ofL (sndl_lc (sndi_tup snd_var) (sndg_tup (sndgs_cons sndg_name (sndgs_cons sndg_name (sndgs_cons sndg_name sndgs_nil)))) sndt_yes (snd_op (snd_op (snd_ixS snd_var) (snd_ixS snd_var) ops_sub) snd_var ops_le) (by decide))) snda_nil) (calls_on1 callsl_all)))⟩)

abbrev s__law_soonest : Stmt := top 26
theorem sc__law_soonest : FnScope ["many", "wishes", "begin", "so_far", "lap", "one", "other", "most"] ["many", "wishes", "begin"] (defScope s__law_soonest) := ⟨rfl, rfl, rfl, by decide +kernel, rfl, by decide +kernel, by decide +kernel⟩
def b__law_soonest : SD → Rs (Fl × SD) :=
 (sseq (sset 3 (mL (mopL oRep (mfrz (mcallL oLst (mcons (mc (.int 0)) mnil))) (mv 0))))
  (sseq (sfor (mit oRange1 (mcons (mop oAdd (mv 0) (mc (.int 2))) mnil)) (gset 4)
 ((sfor (mitems oItemsT (mv 1)) (gtup 3 (gcons (gset 5) (gcons (gset 6) (gcons (gset 7) gnil))))
 ((sput 3 (mcall oMax2 (mcons (mixS 3 (mv 5)) (mcons (mop oSub (mixS 3 (mv 6)) (mv 7)) mnil))) (mv 5))))))
  (sret (mife (mand (mtest (mop oEq (mixS 3 (mv 2)) (mc (.int 0)))) (mtest (mcallQ m__law_are_kept (mcons (mv 1) (mcons (mv 3) mnil))))) (mcallS oTupS 3) (mc .none)))))
def m__law_soonest : List D → Rs D := mdef 8 b__law_soonest
theorem ok__law_soonest (hb : Bi mg) (h__law_are_kept : Callee P w K mg base 1 "_law_are_kept" ["wishes", "ends_told"] (spP K eo0 2 m__law_are_kept)) (F : FnP K "_law_soonest" s__law_soonest f fd) : FnOk P w K mg base CX0 2 f fd ["many", "wishes", "begin"] (spP K eo0 3 m__law_soonest) := by
  have nd := sc__law_soonest.nd
  obtain ⟨f__law_are_kept, fd__law_are_kept, G__law_are_kept, M__law_are_kept, K__law_are_kept, B__law_are_kept⟩ := h__law_are_kept.ex
  exact fn_P F sc__law_soonest (by decide) (fun cdv A outer s H E hr => ⟨_,
 (pss_cons (ps_set (i := 3) nd rfl (by first | exact Or.inl rfl | exact Or.inr rfl) (pe_op op_rep (pe_lst (pa_cons pe_int pa_nil)) (pv 0)))
  (pss_cons (ps_for PassesOwn.never rfl (pi_range1 (by rfl) (hb "range" (by decide +kernel)) (pa_cons (pe_op op_add (pv 0) pe_int) pa_nil)) (pg_name (i := 4) nd rfl (by first | exact Or.inl rfl | exact Or.inr rfl)) (pss_one (ps_for PassesOwn.never rfl (pi_tup (pv 1)) (pg_tup rfl (pgs_cons (pg_name (i := 5) nd rfl (by first | exact Or.inl rfl | exact Or.inr rfl)) (pgs_cons (pg_name (i := 6) nd rfl (by first | exact Or.inl rfl | exact Or.inr rfl)) (pgs_cons (pg_name (i := 7) nd rfl (by first | exact Or.inl rfl | exact Or.inr rfl)) pgs_nil)))) (pss_one (ps_asg (pe_callB (call_max2 rfl) (by rfl) (hb "max" (by decide +kernel)) (by decide +kernel) (pa_cons (pe_ix ix_list (pv 3) (pv 5) (fun _ _ => rfl)) (pa_cons (pe_op op_sub (pe_ix ix_list (pv 3) (pv 6) (fun _ _ => rfl)) (pv 7)) pa_nil))) (pg_sub (pv 3) (pv 5) set_list))))))
  (pss_one (ps_ret (pe_ifExp (PW.pt (pw_and (pt_cmpR (op_eqD hr.units) (pe_ix ix_list (pv 3) (pv 2) (fun _ _ => rfl)) pe_int (nomark _)) (pw_and1 (pt_val (pe_call G__law_are_kept (hr.mono (by decide)) (by rfl) M__law_are_kept K__law_are_kept B__law_are_kept .nil pass0 (pa_cons (pv 1) (pa_cons (pv 3) pa_nil))))))) (pe_callTy call_tuple_of (by rfl) (hb "tuple" (by decide +kernel)) (by decide +kernel) (pa_cons (pv 3) pa_nil)) pe_non))))),
 (snds_seq (snds_set (SndV.ofL (sndl_op (Snd.ofL (sndl_lst (snda_cons (snd_c fun _ => .int _) snda_nil))) snd_var opl_rep)) (by decide))
  (snds_seq (snds_for (sndi_range1 (snda_cons (snd_op snd_var (snd_c fun _ => .int _) ops_add) snda_nil)) sndg_name (snds_for (sndi_tup snd_var) (sndg_tup (sndgs_cons sndg_name (sndgs_cons sndg_name (sndgs_cons sndg_name sndgs_nil)))) (snds_put (snd_callB (snda_cons (snd_ixS snd_var) (snda_cons (snd_op (snd_ixS snd_var) snd_var ops_sub) snda_nil)) calls_max2) snd_var) (by decide)) (by decide))
  (snds_ret (snd_if (sndt_and (sndt_test (snd_op (snd_ixS snd_var) (snd_c fun _ => .int _) ops_eq)) (sndt_B (snd_callQ (snda_cons snd_var (snda_cons snd_var snda_nil)) (lenA_cons (lenA_cons lenA_nil))))) (snd_callS callsl_tup) (snd_c fun _ => .non)))))⟩)

abbrev s__law_fewest : Stmt := top 27
theorem sc__law_fewest : FnScope ["many", "wishes", "groups", "lap", "group", "rest", "longer", "place", "wish"] ["many", "wishes"] (defScope s__law_fewest) := ⟨rfl, rfl, rfl, by decide +kernel, rfl, by decide +kernel, by decide +kernel⟩
def b__law_fewest : SD → Rs (Fl × SD) :=
 (sseq (sset 2 (mL (mcallL oLst (mcons (mcall oTup mnil) mnil))))
  (sseq (sfor (mit oRange1 (mcons (mop oAdd (mcall oLen (mcons (mv 1) mnil)) (mc (.int 1))) mnil)) (gset 3)
 ((sseq (sfor (mitems oItems (mv 2)) (gset 4)
 ((sseq (sset 5 (mD (mcall oTupOf (mcons (mfrz (mlcomp (mit oEnumT (mcons (mv 1) mnil)) (gtup 2 (gcons (gset 7) (gcons (gset 8) gnil))) (mtest (mop (oIn true) (mv 7) (mv 4))) (mv 8) [7, 8])) mnil))))
  (sif (mtest (mop oNotN (mcallQ m__law_shortest (mcons (mv 0) (mcons (mv 5) mnil))) (mc .none)))
 (sret (mv 4))
 (sfl .nx)))))
  (sseq (sset 6 (mL (mcallL oLst mnil)))
  (sseq (sfor (mitems oItems (mv 2)) (gset 4)
 ((smut oExt 6 (mfrz (mlcomp (mit oRange2 (mcons (mife (mtest (mop oGt (mcall oLen (mcons (mv 4) mnil)) (mc (.int 0)))) (mop oAdd (mop oIxT (mv 4) (mun oNeg (mc (.int 1)))) (mc (.int 1))) (mc (.int 0))) (mcons (mcall oLen (mcons (mv 1) mnil)) mnil))) (gset 7) mtrue (mop oCatT (mv 4) (mcall oTup (mcons (mv 7) mnil))) [7])))))
  (sset 2 (mD (mv 6))))))))
  (sret (mc .none))))
def m__law_fewest : List D → Rs D := mdef 9 b__law_fewest
theorem ok__law_fewest (hb : Bi mg) (h__law_shortest : Callee P w K mg base 1 "_law_shortest" ["many", "wishes"] (spP K eo0 2 m__law_shortest)) (F : FnP K "_law_fewest" s__law_fewest f fd) : FnOk P w K mg base CX0 2 f fd ["many", "wishes"] (spP K eo0 2 m__law_fewest) := by
  have nd := sc__law_fewest.nd
  obtain ⟨f__law_shortest, fd__law_shortest, G__law_shortest, M__law_shortest, K__law_shortest, B__law_shortest⟩ := h__law_shortest.ex
  exact fn_P F sc__law_fewest (by decide) (fun cdv A outer s H E hr => ⟨_,
 (pss_cons (ps_set (i := 2) nd rfl (by first | exact Or.inl rfl | exact Or.inr rfl) (pe_lst (pa_cons (pe_tup pa_nil) pa_nil)))
  (pss_cons (ps_for PassesOwn.never rfl (pi_range1 (by rfl) (hb "range" (by decide +kernel)) (pa_cons (pe_op op_add (pe_callB call_len (by rfl) (hb "len" (by decide +kernel)) (by decide +kernel) (pa_cons (pv 1) pa_nil)) pe_int) pa_nil)) (pg_name (i := 3) nd rfl (by first | exact Or.inl rfl | exact Or.inr rfl)) (pss_cons (ps_for PassesOwn.never rfl (pi_list (pv 2)) (pg_name (i := 4) nd rfl (by first | exact Or.inl rfl | exact Or.inr rfl)) (pss_cons (ps_set (i := 5) nd rfl (by first | exact Or.inl rfl | exact Or.inr rfl) (pe_callTy call_tuple_of (by rfl) (hb "tuple" (by decide +kernel)) (by decide +kernel) (pa_cons (pe_lc (own := [("place", 7), ("wish", 8)]) (g := (gTup K 2 (gCons (gName 7) (gCons (gName 8) gNil)))) (by rfl) nd (pi_enumT (by rfl) (hb "enumerate" (by decide +kernel)) (pa_cons (pv 1) pa_nil)) (blkOk_by (own := [("place", 7), ("wish", 8)]) (N := ["many", "wishes", "groups", "lap", "group", "rest", "longer", "place", "wish"]) (sc := defScope s__law_fewest) (by decide +kernel)) (fun _ _ _ _ _ => (pg_tup rfl (pgs_cons (pg_name (i := 7) nd rfl (by first | exact Or.inl rfl | exact Or.inr rfl)) (pgs_cons (pg_name (i := 8) nd rfl (by first | exact Or.inl rfl | exact Or.inr rfl)) pgs_nil)))) (fun _ _ _ _ _ => (pts_one (pt_cmpR op_notIn_seq (pv 7) (pv 4) rfl))) (fun _ _ _ _ _ => (pv 8))) pa_nil)))
  (pss_one (ps_if (pt_cmpR op_notN (pe_call G__law_shortest (hr.mono (by decide)) (by rfl) M__law_shortest K__law_shortest B__law_shortest .nil pass0 (pa_cons (pv 0) (pa_cons (pv 5) pa_nil))) pe_non (nomark _)) (pss_one (ps_ret (pv 4))) pss_nil))))
  (pss_cons (ps_set (i := 6) nd rfl (by first | exact Or.inl rfl | exact Or.inr rfl) (pe_lst pa_nil))
  (pss_cons (ps_for PassesOwn.never rfl (pi_list (pv 2)) (pg_name (i := 4) nd rfl (by first | exact Or.inl rfl | exact Or.inr rfl)) (pss_one (ps_expr (pe_bm PySem.F.plainAttrs_list PySem.F.slot_list_extend PySem.F.type_list_extend mt_extend (pv 6) (pa_cons (pe_lc (own := [("place", 7)]) (g := (gName 7)) (by rfl) nd (pi_range2 (by rfl) (hb "range" (by decide +kernel)) (pa_cons (pe_ifExp (pt_cmpR op_gt (pe_callB call_len (by rfl) (hb "len" (by decide +kernel)) (by decide +kernel) (pa_cons (pv 4) pa_nil)) pe_int (nomark _)) (pe_op op_add (pe_ix ix_tup (pv 4) (pe_un un_neg pe_int) (fun _ _ => rfl)) pe_int) pe_int) (pa_cons (pe_callB call_len (by rfl) (hb "len" (by decide +kernel)) (by decide +kernel) (pa_cons (pv 1) pa_nil)) pa_nil))) (blkOk_by (own := [("place", 7)]) (N := ["many", "wishes", "groups", "lap", "group", "rest", "longer", "place", "wish"]) (sc := defScope s__law_fewest) (by decide +kernel)) (fun _ _ _ _ _ => (pg_name (i := 7) nd rfl (by first | exact Or.inl rfl | exact Or.inr rfl))) (fun _ _ _ _ _ => pts_nil) (fun _ _ _ _ _ => (pe_op op_catA (pv 4) (pe_tup (pa_cons (pv 7) pa_nil))))) pa_nil)))))
  (pss_one (ps_set (i := 2) nd rfl (by first | exact Or.inl rfl | exact Or.inr rfl) (pv 6)))))))
  (pss_one (ps_ret pe_non)))),
 (snds_seq (snds_set (SndV.ofL (sndl_lst (snda_cons (snd_tup snda_nil) snda_nil))) (by decide))
  (snds_seq (snds_for (sndi_range1 (snda_cons (snd_op (snd_callB (snda_cons snd_var snda_nil) calls_len) (snd_c fun _ => .int _) ops_add) snda_nil)) sndg_name (snds_seq (snds_for (sndi_list snd_var) sndg_name (snds_seq (snds_set (SndV.ofD (snd_callB (snda_cons (Snd.ofL (sndl_lc (sndi_enumT (snda_cons snd_var snda_nil)) (sndg_tup (sndgs_cons sndg_name (sndgs_cons sndg_name sndgs_nil))) (sndt_test (snd_op snd_var snd_var (ops_in (neg := true)))) snd_var (by decide))) snda_nil) calls_tup)) (by decide))
  (snds_if (sndt_test (snd_op (snd_callQ (snda_cons snd_var (snda_cons snd_var snda_nil)) (lenA_cons (lenA_cons lenA_nil))) (snd_c fun _ => .non) ops_notN)) (snds_ret snd_var) snds_next)) (by decide))
  (snds_seq (snds_set (SndV.ofL (sndl_lst snda_nil)) (by decide))
  (snds_seq (snds_for (sndi_list snd_var) sndg_name (snds_ext (Snd.ofL (sndl_lc (sndi_range2 (snda_cons (snd_if (sndt_test (snd_op (snd_callB (snda_cons snd_var snda_nil) calls_len) (snd_c fun _ => .int _) ops_gt)) (snd_op (snd_op snd_var (snd_un (snd_c fun _ => .int _) uns_neg) ops_ixT) (snd_c fun _ => .int _) ops_add) (snd_c fun _ => .int _)) (snda_cons (snd_callB (snda_cons snd_var snda_nil) calls_len) snda_nil))) sndg_name sndt_yes (snd_op snd_var (snd_tup (snda_cons snd_var snda_nil)) ops_catT) (by decide)))) (by decide))
  (snds_set (SndV.ofD snd_var) (by decide))))) (by decide))
  (snds_ret (snd_c fun _ => .non))))⟩)

abbrev s__law_is_said : Stmt := top 28
theorem sc__law_is_said : FnScope ["far", "wish", "here"] ["far", "wish"] (defScope s__law_is_said) := ⟨rfl, rfl, rfl, by decide +kernel, rfl, by decide +kernel, by decide +kernel⟩
def b__law_is_said : SD → Rs (Fl × SD) :=
 (sseq (sset 2 (mD (mop oIxL (mixS 0 (mop oIxT (mv 1) (mc (.int 0)))) (mop oIxT (mv 1) (mc (.int 1))))))
  (sret (mandV (mop oNotN (mv 2) (mc .none)) (mop oLe (mv 2) (mop oIxT (mv 1) (mc (.int 2)))))))
def m__law_is_said : List D → Rs D := mdef 3 b__law_is_said
theorem ok__law_is_said (hb : Bi mg) (F : FnP K "_law_is_said" s__law_is_said f fd) : FnOk P w K mg base CX0 1 f fd ["far", "wish"] (spP K eo0 2 m__law_is_said) := by
  have nd := sc__law_is_said.nd
  exact fn_P F sc__law_is_said (by decide) (fun cdv A outer s H E hr => ⟨_,
 (pss_cons (ps_set (i := 2) nd rfl (by first | exact Or.inl rfl | exact Or.inr rfl) (pe_ix ix_list (pe_ix ix_list (pv 0) (pe_ix ix_tup (pv 1) pe_int (fun _ _ => rfl)) (fun _ _ => rfl)) (pe_ix ix_tup (pv 1) pe_int (fun _ _ => rfl)) (fun _ _ => rfl)))
  (pss_one (ps_ret (pe_and (pe_cmpR op_notN (pv 2) pe_non (nomark _)) (pe_one (pe_cmpR op_le (pv 2) (pe_ix ix_tup (pv 1) pe_int (fun _ _ => rfl)) (nomark _))))))),
 (snds_seq (snds_set (SndV.ofD (snd_op (snd_ixS (snd_op snd_var (snd_c fun _ => .int _) ops_ixT)) (snd_op snd_var (snd_c fun _ => .int _) ops_ixT) ops_ixL)) (by decide))
  (snds_ret (snd_and (snd_op snd_var (snd_c fun _ => .non) ops_notN) (snd_op snd_var (snd_op snd_var (snd_c fun _ => .int _) ops_ixT) ops_le))))⟩)

abbrev s__law_is_right : Stmt := top 29
theorem sc__law_is_right : FnScope ["hand", "many", "wishes", "far", "told_now", "begin", "soon", "due", "place", "rest", "lap", "one", "wish", "flag", "barring", "row"] ["hand", "many", "wishes"] (defScope s__law_is_right) := ⟨rfl, rfl, rfl, by decide +kernel, rfl, by decide +kernel, by decide +kernel⟩
def b__law_is_right : SD → Rs (Fl × SD) :=
 (sseq (sset 3 (mD (mcallQ m__law_shortest (mcons (mv 1) (mcons (mv 2) mnil)))))
  (sseq (sset 4 (mD (mcallQ m_bounds (mcons (mv 1) (mcons (mv 2) mnil)))))
  (sseq (sif (mor (mtest (mop oNe (mv 4) (mcallQ m_bounds (mcons (mv 1) (mcons (mv 2) mnil))))) (mtest (mop oNe (mop oIsN (mv 4) (mc .none)) (mop oIsN (mv 3) (mc .none)))))
 (sret (mc (.bool false)))
 (sfl .nx))
  (sseq (sif (mtest (mop oNe (mcallQ m_can_keep (mcons (mv 1) (mcons (mv 2) mnil))) (mop oNotN (mv 3) (mc .none))))
 (sret (mc (.bool false)))
 (sfl .nx))
  (sseq (sset 5 (mD (mcallH m__law_draw 0 (mcons (mv 1) mnil))))
  (sseq (sset 6 (mD (mcallQ m_soonest_moments (mcons (mv 1) (mcons (mv 2) (mcons (mv 5) mnil))))))
  (sseq (sif (mtest (mop oNe (mife (mtest (mop oIsN (mv 6) (mc .none))) (mc .none) (mcall oTupOf (mcons (mv 6) mnil))) (mcallQ m__law_soonest (mcons (mv 1) (mcons (mv 2) (mcons (mv 5) mnil))))))
 (sret (mc (.bool false)))
 (sfl .nx))
  (sseq (sif (mtest (mop oNe (mcallQ m_fewest_left (mcons (mv 1) (mcons (mv 2) mnil))) (mcallQ m__law_fewest (mcons (mv 1) (mcons (mv 2) mnil)))))
 (sret (mc (.bool false)))
 (sfl .nx))
  (sseq (sif (mtest (mop oIsN (mv 3) (mc .none)))
 (sret (mc (.bool true)))
 (sfl .nx))
  (sseq (sif (mtest (mop oNe (mfrz (mlcomp (mitems oItemsT (mv 4)) (gset 15) mtrue (mfrz (mcallL oListOf (mcons (mv 15) mnil))) [15])) (mv 3)))
 (sret (mc (.bool false)))
 (sfl .nx))
  (sseq (sset 7 (mL (mcallL oLst mnil)))
  (sseq (sfor (mit oRange1 (mcons (mcall oLen (mcons (mv 2) mnil)) mnil)) (gset 8)
 ((sseq (sset 9 (mD (mcallQ m__law_shortest (mcons (mv 1) (mcons (mop oCatT (mslT (mv 2) mnopart (mpart (mv 8))) (mslT (mv 2) (mpart (mop oAdd (mv 8) (mc (.int 1)))) mnopart)) mnil)))))
  (smut oExt 7 (mfrz (mife (mtest (mcallQ m__law_is_said (mcons (mv 9) (mcons (mop oIxT (mv 2) (mv 8)) mnil)))) (mcallL oLst (mcons (mv 8) mnil)) (mcallL oLst mnil)))))))
  (sseq (sif (mtest (mop oNe (mcallQ m_needless_wishes (mcons (mv 1) (mcons (mv 2) mnil))) (mcallS oTupS 7)))
 (sret (mc (.bool false)))
 (sfl .nx))
  (sseq (sfor (mit oRange1 (mcons (mc (.int 4)) mnil)) (gset 10)
 ((sseq (sset 11 (mD (mcallH m__law_draw 0 (mcons (mv 1) mnil))))
  (sseq (sset 12 (mD (mcall oTup (mcons (mv 11) (mcons (mop oMod (mcall oInt (mcons (mop oAdd (mop oAdd (mv 11) (mc (.int 1))) (mcallH m__law_draw 0 (mcons (mop oSub (mv 1) (mc (.int 1))) mnil))) mnil)) (mv 1)) (mcons (mop oSub (mcallH m__law_draw 0 (mcons (mc (.int 14)) mnil)) (mc (.int 5))) mnil))))))
  (sseq (sset 13 (mD (mcallQ m__law_is_said (mcons (mv 3) (mcons (mv 12) mnil)))))
  (sseq (sif (mtest (mop oNe (mcallQ m_is_said (mcons (mv 1) (mcons (mv 2) (mcons (mv 12) mnil)))) (mv 13)))
 (sret (mc (.bool false)))
 (sfl .nx))
  (sseq (sset 14 (mD (mcall oTup (mcons (mop oIxT (mv 12) (mc (.int 1))) (mcons (mop oIxT (mv 12) (mc (.int 0))) (mcons (mop oSub (mop oSub (mc (.int 0)) (mop oIxT (mv 12) (mc (.int 2)))) (mc (.int 1))) mnil))))))
  (sif (mtest (mop oNe (mop oEq (mop oIxT (mcallQ m_wishes_told (mcons (mv 1) (mcons (mop oCatT (mv 2) (mcall oTup (mcons (mv 14) mnil))) mnil))) (mc (.int 0))) (mc (.str (PySem.Str.ofString "ring")))) (mv 13)))
 (sret (mc (.bool false)))
 (sfl .nx)))))))))
  (sret (mc (.bool true)))))))))))))))))
def m__law_is_right : List D → List D → Rs (D × List D) := mdefH 16 b__law_is_right
theorem ok__law_is_right (hb : Bi mg) (h_wishes_told : Callee P w K mg base 6 "wishes_told" ["many", "wishes"] (spP K eo0 2 m_wishes_told)) (h_can_keep : Callee P w K mg base 7 "can_keep" ["many", "wishes"] (spP K eo0 2 m_can_keep)) (h_bounds : Callee P w K mg base 8 "bounds" ["many", "wishes"] (spP K eo0 2 m_bounds)) (h_is_said : Callee P w K mg base 9 "is_said" ["many", "wishes", "wish"] (spP K eo0 3 m_is_said)) (h_needless_wishes : Callee P w K mg base 10 "needless_wishes" ["many", "wishes"] (spP K eo0 2 m_needless_wishes)) (h_soonest_moments : Callee P w K mg base 9 "soonest_moments" ["many", "wishes", "begin"] (spP K eo0 3 m_soonest_moments)) (h_fewest_left : Callee P w K mg base 8 "fewest_left" ["many", "wishes"] (spP K eo0 2 m_fewest_left)) (h__law_draw : Callee P w K mg base 1 "_law_draw" ["hand", "many"] (spH K eo0 2 m__law_draw)) (h__law_shortest : Callee P w K mg base 1 "_law_shortest" ["many", "wishes"] (spP K eo0 2 m__law_shortest)) (h__law_soonest : Callee P w K mg base 2 "_law_soonest" ["many", "wishes", "begin"] (spP K eo0 3 m__law_soonest)) (h__law_fewest : Callee P w K mg base 2 "_law_fewest" ["many", "wishes"] (spP K eo0 2 m__law_fewest)) (h__law_is_said : Callee P w K mg base 1 "_law_is_said" ["far", "wish"] (spP K eo0 2 m__law_is_said)) (F : FnP K "_law_is_right" s__law_is_right f fd) : FnOk P w K mg base CX0 11 f fd ["hand", "many", "wishes"] (spH K eo0 3 m__law_is_right) := by
  have nd := sc__law_is_right.nd
  obtain ⟨f_wishes_told, fd_wishes_told, G_wishes_told, M_wishes_told, K_wishes_told, B_wishes_told⟩ := h_wishes_told.ex
  obtain ⟨f_can_keep, fd_can_keep, G_can_keep, M_can_keep, K_can_keep, B_can_keep⟩ := h_can_keep.ex
  obtain ⟨f_bounds, fd_bounds, G_bounds, M_bounds, K_bounds, B_bounds⟩ := h_bounds.ex
  obtain ⟨f_is_said, fd_is_said, G_is_said, M_is_said, K_is_said, B_is_said⟩ := h_is_said.ex
  obtain ⟨f_needless_wishes, fd_needless_wishes, G_needless_wishes, M_needless_wishes, K_needless_wishes, B_needless_wishes⟩ := h_needless_wishes.ex
  obtain ⟨f_soonest_moments, fd_soonest_moments, G_soonest_moments, M_soonest_moments, K_soonest_moments, B_soonest_moments⟩ := h_soonest_moments.ex
  obtain ⟨f_fewest_left, fd_fewest_left, G_fewest_left, M_fewest_left, K_fewest_left, B_fewest_left⟩ := h_fewest_left.ex
  obtain ⟨f__law_draw, fd__law_draw, G__law_draw, M__law_draw, K__law_draw, B__law_draw⟩ := h__law_draw.ex
  obtain ⟨f__law_shortest, fd__law_shortest, G__law_shortest, M__law_shortest, K__law_shortest, B__law_shortest⟩ := h__law_shortest.ex
  obtain ⟨f__law_soonest, fd__law_soonest, G__law_soonest, M__law_soonest, K__law_soonest, B__law_soonest⟩ := h__law_soonest.ex
  obtain ⟨f__law_fewest, fd__law_fewest, G__law_fewest, M__law_fewest, K__law_fewest, B__law_fewest⟩ := h__law_fewest.ex
  obtain ⟨f__law_is_said, fd__law_is_said, G__law_is_said, M__law_is_said, K__law_is_said, B__law_is_said⟩ := h__law_is_said.ex
  exact fn_H F sc__law_is_right (by decide) (fun cdv A outer s H E hr => ⟨_,
 (pss_cons (ps_set (i := 3) nd rfl (by first | exact Or.inl rfl | exact Or.inr rfl) (pe_call G__law_shortest (hr.mono (by decide)) (by rfl) M__law_shortest K__law_shortest B__law_shortest .nil pass0 (pa_cons (pv 1) (pa_cons (pv 2) pa_nil))))
  (pss_cons (ps_set (i := 4) nd rfl (by first | exact Or.inl rfl | exact Or.inr rfl) (pe_call G_bounds (hr.mono (by decide)) (by rfl) M_bounds K_bounds B_bounds .nil pass0 (pa_cons (pv 1) (pa_cons (pv 2) pa_nil))))
  (pss_cons (ps_if (PW.pt (pw_or (pt_cmpR (op_neD hr.units) (pv 4) (pe_call G_bounds (hr.mono (by decide)) (by rfl) M_bounds K_bounds B_bounds .nil pass0 (pa_cons (pv 1) (pa_cons (pv 2) pa_nil))) (nomark _)) (pw_or1 (pt_cmpR (op_neD hr.units) (pe_cmpR op_isN (pv 4) pe_non (nomark _)) (pe_cmpR op_isN (pv 3) pe_non (nomark _)) (nomark _))))) (pss_one (ps_ret pe_bl)) pss_nil)
  (pss_cons (ps_if (pt_cmpR (op_neD hr.units) (pe_call G_can_keep (hr.mono (by decide)) (by rfl) M_can_keep K_can_keep B_can_keep .nil pass0 (pa_cons (pv 1) (pa_cons (pv 2) pa_nil))) (pe_cmpR op_notN (pv 3) pe_non (nomark _)) (nomark _)) (pss_one (ps_ret pe_bl)) pss_nil)
  (pss_cons (ps_set (i := 5) nd rfl (by first | exact Or.inl rfl | exact Or.inr rfl) (pe_call G__law_draw (hr.mono (by decide)) (by rfl) M__law_draw K__law_draw B__law_draw .nil pass0 (pa_cons (pv 0) (pa_cons (pv 1) pa_nil))))
  (pss_cons (ps_set (i := 6) nd rfl (by first | exact Or.inl rfl | exact Or.inr rfl) (pe_call G_soonest_moments (hr.mono (by decide)) (by rfl) M_soonest_moments K_soonest_moments B_soonest_moments .nil pass0 (pa_cons (pv 1) (pa_cons (pv 2) (pa_cons (pv 5) pa_nil)))))
  (pss_cons (ps_if (pt_cmpR (op_neD hr.units) (pe_ifExp (pt_cmpR op_isN (pv 6) pe_non (nomark _)) pe_non (pe_callTy call_tuple_of (by rfl) (hb "tuple" (by decide +kernel)) (by decide +kernel) (pa_cons (pv 6) pa_nil))) (pe_call G__law_soonest (hr.mono (by decide)) (by rfl) M__law_soonest K__law_soonest B__law_soonest .nil pass0 (pa_cons (pv 1) (pa_cons (pv 2) (pa_cons (pv 5) pa_nil)))) (nomark _)) (pss_one (ps_ret pe_bl)) pss_nil)
  (pss_cons (ps_if (pt_cmpR (op_neD hr.units) (pe_call G_fewest_left (hr.mono (by decide)) (by rfl) M_fewest_left K_fewest_left B_fewest_left .nil pass0 (pa_cons (pv 1) (pa_cons (pv 2) pa_nil))) (pe_call G__law_fewest (hr.mono (by decide)) (by rfl) M__law_fewest K__law_fewest B__law_fewest .nil pass0 (pa_cons (pv 1) (pa_cons (pv 2) pa_nil))) (nomark _)) (pss_one (ps_ret pe_bl)) pss_nil)
  (pss_cons (ps_if (pt_cmpR op_isN (pv 3) pe_non (nomark _)) (pss_one (ps_ret pe_bl)) pss_nil)
  (pss_cons (ps_if (pt_cmpR (op_neD hr.units) (pe_lc (own := [("row", 15)]) (g := (gName 15)) (by rfl) nd (pi_tup (pv 4)) (blkOk_by (own := [("row", 15)]) (N := ["hand", "many", "wishes", "far", "told_now", "begin", "soon", "due", "place", "rest", "lap", "one", "wish", "flag", "barring", "row"]) (sc := defScope s__law_is_right) (by decide +kernel)) (fun _ _ _ _ _ => (pg_name (i := 15) nd rfl (by first | exact Or.inl rfl | exact Or.inr rfl))) (fun _ _ _ _ _ => pts_nil) (fun _ _ _ _ _ => (pe_callTy call_list_of (by rfl) (hb "list" (by decide +kernel)) (by decide +kernel) (pa_cons (pv 15) pa_nil)))) (pv 3) (nomark _)) (pss_one (ps_ret pe_bl)) pss_nil)
  (pss_cons (ps_set (i := 7) nd rfl (by first | exact Or.inl rfl | exact Or.inr rfl) (pe_lst pa_nil))
  (pss_cons (ps_for PassesOwn.never rfl (pi_range1 (by rfl) (hb "range" (by decide +kernel)) (pa_cons (pe_callB call_len (by rfl) (hb "len" (by decide +kernel)) (by decide +kernel) (pa_cons (pv 2) pa_nil)) pa_nil)) (pg_name (i := 8) nd rfl (by first | exact Or.inl rfl | exact Or.inr rfl)) (pss_cons (ps_set (i := 9) nd rfl (by first | exact Or.inl rfl | exact Or.inr rfl) (pe_call G__law_shortest (hr.mono (by decide)) (by rfl) M__law_shortest K__law_shortest B__law_shortest .nil pass0 (pa_cons (pv 1) (pa_cons (pe_op op_catA (pe_slice sl_tupA (pv 2) po_none (po_some (pv 8))) (pe_slice sl_tupA (pv 2) (po_some (pe_op op_add (pv 8) pe_int)) po_none)) pa_nil))))
  (pss_one (ps_expr (pe_bm PySem.F.plainAttrs_list PySem.F.slot_list_extend PySem.F.type_list_extend mt_extend (pv 7) (pa_cons (pe_ifExp (pt_val (pe_call G__law_is_said (hr.mono (by decide)) (by rfl) M__law_is_said K__law_is_said B__law_is_said .nil pass0 (pa_cons (pv 9) (pa_cons (pe_ix ix_tup (pv 2) (pv 8) (fun _ _ => rfl)) pa_nil)))) (pe_lst (pa_cons (pv 8) pa_nil)) (pe_lst pa_nil)) pa_nil))))))
  (pss_cons (ps_if (pt_cmpR (op_neD hr.units) (pe_call G_needless_wishes (hr.mono (by decide)) (by rfl) M_needless_wishes K_needless_wishes B_needless_wishes .nil pass0 (pa_cons (pv 1) (pa_cons (pv 2) pa_nil))) (pe_callTy call_tuple_of (by rfl) (hb "tuple" (by decide +kernel)) (by decide +kernel) (pa_cons (pv 7) pa_nil)) (nomark _)) (pss_one (ps_ret pe_bl)) pss_nil)
  (pss_cons (ps_for PassesOwn.never rfl (pi_range1 (by rfl) (hb "range" (by decide +kernel)) (pa_cons pe_int pa_nil)) (pg_name (i := 10) nd rfl (by first | exact Or.inl rfl | exact Or.inr rfl)) (pss_cons (ps_set (i := 11) nd rfl (by first | exact Or.inl rfl | exact Or.inr rfl) (pe_call G__law_draw (hr.mono (by decide)) (by rfl) M__law_draw K__law_draw B__law_draw .nil pass0 (pa_cons (pv 0) (pa_cons (pv 1) pa_nil))))
  (pss_cons (ps_set (i := 12) nd rfl (by first | exact Or.inl rfl | exact Or.inr rfl) (pe_tup (pa_cons (pv 11) (pa_cons (pe_op op_modN (pe_callTy call_int1 (by rfl) (hb "int" (by decide +kernel)) (by decide +kernel) (pa_cons (pe_op op_add (pe_op op_add (pv 11) pe_int) (pe_call G__law_draw (hr.mono (by decide)) (by rfl) M__law_draw K__law_draw B__law_draw .nil pass0 (pa_cons (pv 0) (pa_cons (pe_op op_sub (pv 1) pe_int) pa_nil)))) pa_nil)) (pv 1)) (pa_cons (pe_op op_sub (pe_call G__law_draw (hr.mono (by decide)) (by rfl) M__law_draw K__law_draw B__law_draw .nil pass0 (pa_cons (pv 0) (pa_cons pe_int pa_nil))) pe_int) pa_nil)))))
  (pss_cons (ps_set (i := 13) nd rfl (by first | exact Or.inl rfl | exact Or.inr rfl) (pe_call G__law_is_said (hr.mono (by decide)) (by rfl) M__law_is_said K__law_is_said B__law_is_said .nil pass0 (pa_cons (pv 3) (pa_cons (pv 12) pa_nil))))
  (pss_cons (ps_if (pt_cmpR (op_neD hr.units) (pe_call G_is_said (hr.mono (by decide)) (by rfl) M_is_said K_is_said B_is_said .nil pass0 (pa_cons (pv 1) (pa_cons (pv 2) (pa_cons (pv 12) pa_nil)))) (pv 13) (nomark _)) (pss_one (ps_ret pe_bl)) pss_nil)
  (pss_cons (ps_set (i := 14) nd rfl (by first | exact Or.inl rfl | exact Or.inr rfl) (pe_tup (pa_cons (pe_ix ix_tup (pv 12) pe_int (fun _ _ => rfl)) (pa_cons (pe_ix ix_tup (pv 12) pe_int (fun _ _ => rfl)) (pa_cons (pe_op op_sub (pe_op op_sub pe_int (pe_ix ix_tup (pv 12) pe_int (fun _ _ => rfl))) pe_int) pa_nil)))))
  (pss_one (ps_if (pt_cmpR (op_neD hr.units) (pe_cmpR (op_eqD hr.units) (pe_ix ix_tup (pe_call G_wishes_told (hr.mono (by decide)) (by rfl) M_wishes_told K_wishes_told B_wishes_told .nil pass0 (pa_cons (pv 1) (pa_cons (pe_op op_catA (pv 2) (pe_tup (pa_cons (pv 14) pa_nil))) pa_nil))) pe_int (fun _ _ => rfl)) pe_str (nomark _)) (pv 13) (nomark _)) (pss_one (ps_ret pe_bl)) pss_nil))))))))
  (pss_one (ps_ret pe_bl)))))))))))))))),
 (snds_seq (snds_set (SndV.ofD (snd_callQ (snda_cons snd_var (snda_cons snd_var snda_nil)) (lenA_cons (lenA_cons lenA_nil)))) (by decide))
  (snds_seq (snds_set (SndV.ofD (snd_callQ (snda_cons snd_var (snda_cons snd_var snda_nil)) (lenA_cons (lenA_cons lenA_nil)))) (by decide))
  (snds_seq (snds_if (sndt_or (sndt_test (snd_op snd_var (snd_callQ (snda_cons snd_var (snda_cons snd_var snda_nil)) (lenA_cons (lenA_cons lenA_nil))) ops_ne)) (sndt_test (snd_op (snd_op snd_var (snd_c fun _ => .non) ops_isN) (snd_op snd_var (snd_c fun _ => .non) ops_isN) ops_ne))) (snds_ret (snd_c fun _ => .bl _)) snds_next)
  (snds_seq (snds_if (sndt_test (snd_op (snd_callQ (snda_cons snd_var (snda_cons snd_var snda_nil)) (lenA_cons (lenA_cons lenA_nil))) (snd_op snd_var (snd_c fun _ => .non) ops_notN) ops_ne)) (snds_ret (snd_c fun _ => .bl _)) snds_next)
  (snds_seq (snds_set (SndV.ofD (snd_callHQ (snda_cons snd_var snda_nil) (lenA_cons lenA_nil))) (by decide))
  (snds_seq (snds_set (SndV.ofD (snd_callQ (snda_cons snd_var (snda_cons snd_var (snda_cons snd_var snda_nil))) (lenA_cons (lenA_cons (lenA_cons lenA_nil))))) (by decide))
  (snds_seq (snds_if (sndt_test (snd_op (snd_if (sndt_test (snd_op snd_var (snd_c fun _ => .non) ops_isN)) (snd_c fun _ => .non) (snd_callB (snda_cons snd_var snda_nil) calls_tup)) (snd_callQ (snda_cons snd_var (snda_cons snd_var (snda_cons snd_var snda_nil))) (lenA_cons (lenA_cons (lenA_cons lenA_nil)))) ops_ne)) (snds_ret (snd_c fun _ => .bl _)) snds_next)
  (snds_seq (snds_if (sndt_test (snd_op (snd_callQ (snda_cons snd_var (snda_cons snd_var snda_nil)) (lenA_cons (lenA_cons lenA_nil))) (snd_callQ (snda_cons snd_var (snda_cons snd_var snda_nil)) (lenA_cons (lenA_cons lenA_nil))) ops_ne)) (snds_ret (snd_c fun _ => .bl _)) snds_next)
  (snds_seq (snds_if (sndt_test (snd_op snd_var (snd_c fun _ => .non) ops_isN)) (snds_ret (snd_c fun _ => .bl _)) snds_next)
  (snds_seq (snds_if (sndt_test (snd_op (Snd.ofL (sndl_lc (sndi_tup snd_var) sndg_name sndt_yes (Snd.ofL (sndl_callB (snda_cons snd_var snda_nil) calll_list)) (by decide))) snd_var ops_ne)) (snds_ret (snd_c fun _ => .bl _)) snds_next)
  (snds_seq (snds_set (SndV.ofL (sndl_lst snda_nil)) (by decide))
  (snds_seq (snds_for (sndi_range1 (snda_cons (snd_callB (snda_cons snd_var snda_nil) calls_len) snda_nil)) sndg_name (snds_seq (snds_set (SndV.ofD (snd_callQ (snda_cons snd_var (snda_cons (snd_op (snd_slT snd_var sndo_none (sndo_some snd_var)) (snd_slT snd_var (sndo_some (snd_op snd_var (snd_c fun _ => .int _) ops_add)) sndo_none) ops_catT) snda_nil)) (lenA_cons (lenA_cons lenA_nil)))) (by decide))
  (snds_ext (Snd.ofL (sndl_if (sndt_B (snd_callQ (snda_cons snd_var (snda_cons (snd_op snd_var snd_var ops_ixT) snda_nil)) (lenA_cons (lenA_cons lenA_nil)))) (sndl_lst (snda_cons snd_var snda_nil)) (sndl_lst snda_nil))))) (by decide))
  (snds_seq (snds_if (sndt_test (snd_op (snd_callQ (snda_cons snd_var (snda_cons snd_var snda_nil)) (lenA_cons (lenA_cons lenA_nil))) (snd_callS callsl_tup) ops_ne)) (snds_ret (snd_c fun _ => .bl _)) snds_next)
  (snds_seq (snds_for (sndi_range1 (snda_cons (snd_c fun _ => .int _) snda_nil)) sndg_name (snds_seq (snds_set (SndV.ofD (snd_callHQ (snda_cons snd_var snda_nil) (lenA_cons lenA_nil))) (by decide))
  (snds_seq (snds_set (SndV.ofD (snd_tup (snda_cons snd_var (snda_cons (snd_op (snd_callB (snda_cons (snd_op (snd_op snd_var (snd_c fun _ => .int _) ops_add) (snd_callHQ (snda_cons (snd_op snd_var (snd_c fun _ => .int _) ops_sub) snda_nil) (lenA_cons lenA_nil)) ops_add) snda_nil) calls_int) snd_var ops_mod) (snda_cons (snd_op (snd_callHQ (snda_cons (snd_c fun _ => .int _) snda_nil) (lenA_cons lenA_nil)) (snd_c fun _ => .int _) ops_sub) snda_nil))))) (by decide))
  (snds_seq (snds_set (SndV.ofD (snd_callQ (snda_cons snd_var (snda_cons snd_var snda_nil)) (lenA_cons (lenA_cons lenA_nil)))) (by decide))
  (snds_seq (snds_if (sndt_test (snd_op (snd_callQ (snda_cons snd_var (snda_cons snd_var (snda_cons snd_var snda_nil))) (lenA_cons (lenA_cons (lenA_cons lenA_nil)))) snd_var ops_ne)) (snds_ret (snd_c fun _ => .bl _)) snds_next)
  (snds_seq (snds_set (SndV.ofD (snd_tup (snda_cons (snd_op snd_var (snd_c fun _ => .int _) ops_ixT) (snda_cons (snd_op snd_var (snd_c fun _ => .int _) ops_ixT) (snda_cons (snd_op (snd_op (snd_c fun _ => .int _) (snd_op snd_var (snd_c fun _ => .int _) ops_ixT) ops_sub) (snd_c fun _ => .int _) ops_sub) snda_nil))))) (by decide))
  (snds_if (sndt_test (snd_op (snd_op (snd_op (snd_callQ (snda_cons snd_var (snda_cons (snd_op snd_var (snd_tup (snda_cons snd_var snda_nil)) ops_catT) snda_nil)) (lenA_cons (lenA_cons lenA_nil))) (snd_c fun _ => .int _) ops_ixT) (snd_c fun _ => .str _) ops_eq) snd_var ops_ne)) (snds_ret (snd_c fun _ => .bl _)) snds_next)))))) (by decide))
  (snds_ret (snd_c fun _ => .bl _))))))))))))))))⟩)

abbrev s_law : Stmt := top 30
theorem sc_law : FnScope ["script", "hand", "wishes", "lap", "many"] ["script"] (defScope s_law) := ⟨rfl, rfl, rfl, by decide +kernel, rfl, by decide +kernel, by decide +kernel⟩
def b_law : SD → Rs (Fl × SD) :=
 (sseq (sset 1 (mL (mcallScr m__law_hand 0)))
  (sseq (sset 2 (mD (mcall oTup (mcons (mcall oTup (mcons (mc (.int 0)) (mcons (mc (.int 1)) (mcons (mc (.int 3)) mnil)))) (mcons (mcall oTup (mcons (mc (.int 1)) (mcons (mc (.int 2)) (mcons (mc (.int 2)) mnil)))) (mcons (mcall oTup (mcons (mc (.int 0)) (mcons (mc (.int 2)) (mcons (mc (.int 5)) mnil)))) mnil))))))
  (sseq (sif (mor (mtest (mop oNe (mcallQ m_needless_wishes (mcons (mc (.int 3)) (mcons (mv 2) mnil))) (mcall oTup (mcons (mc (.int 2)) mnil)))) (mtest (mop oNe (mcallQ m_fewest_left (mcons (mc (.int 2)) (mcons (mcall oTup (mcons (mcall oTup (mcons (mc (.int 0)) (mcons (mc (.int 1)) (mcons (mc (.int 3)) mnil)))) (mcons (mcall oTup (mcons (mc (.int 1)) (mcons (mc (.int 0)) (mcons (mun oNeg (mc (.int 4))) mnil)))) mnil))) mnil))) (mcall oTup (mcons (mc (.int 0)) mnil)))))
 (sret (mc (.bool false)))
 (sfl .nx))
  (sseq (sif (mtest (mop oNotB (mcallQ m_is_said (mcons (mc (.int 3)) (mcons (mv 2) (mcons (mcall oTup (mcons (mc (.int 0)) (mcons (mc (.int 2)) (mcons (mc (.int 4)) mnil)))) mnil)))) (mc (.bool false))))
 (sret (mc (.bool false)))
 (sfl .nx))
  (sseq (sfor (mit oRange1 (mcons (mc (.int 5)) mnil)) (gset 3)
 ((sseq (sset 4 (mD (mop oAdd (mc (.int 2)) (mcallH m__law_draw 1 (mcons (mc (.int 4)) mnil)))))
  (sif (mnot (mtest (mcallH m__law_is_right 1 (mcons (mv 4) (mcons (mcallH m__law_wishes 1 (mcons (mv 4) (mcons (mc (.int 6)) mnil))) mnil)))))
 (sret (mc (.bool false)))
 (sfl .nx)))))
  (sret (mc (.bool true))))))))
theorem ok_law (hb : Bi mg) (h_is_said : Callee P w K mg base 9 "is_said" ["many", "wishes", "wish"] (spP K eo0 3 m_is_said)) (h_needless_wishes : Callee P w K mg base 10 "needless_wishes" ["many", "wishes"] (spP K eo0 2 m_needless_wishes)) (h_fewest_left : Callee P w K mg base 8 "fewest_left" ["many", "wishes"] (spP K eo0 2 m_fewest_left)) (h__law_hand : Callee P w K mg base 1 "_law_hand" ["script"] (spScr K m__law_hand)) (h__law_draw : Callee P w K mg base 1 "_law_draw" ["hand", "many"] (spH K eo0 2 m__law_draw)) (h__law_wishes : Callee P w K mg base 2 "_law_wishes" ["hand", "many", "most"] (spH K eo0 3 m__law_wishes)) (h__law_is_right : Callee P w K mg base 11 "_law_is_right" ["hand", "many", "wishes"] (spH K eo0 3 m__law_is_right)) (hlaw : ∀ ns, scriptOk ns → mlaw 5 b_law ns = .ok (.bool true)) (F : FnP K "law" s_law f fd) : FnOk P w K mg base CX0 12 f fd ["script"] (spLaw K scriptOk) := by
  have nd := sc_law.nd
  obtain ⟨f_is_said, fd_is_said, G_is_said, M_is_said, K_is_said, B_is_said⟩ := h_is_said.ex
  obtain ⟨f_needless_wishes, fd_needless_wishes, G_needless_wishes, M_needless_wishes, K_needless_wishes, B_needless_wishes⟩ := h_needless_wishes.ex
  obtain ⟨f_fewest_left, fd_fewest_left, G_fewest_left, M_fewest_left, K_fewest_left, B_fewest_left⟩ := h_fewest_left.ex
  obtain ⟨f__law_hand, fd__law_hand, G__law_hand, M__law_hand, K__law_hand, B__law_hand⟩ := h__law_hand.ex
  obtain ⟨f__law_draw, fd__law_draw, G__law_draw, M__law_draw, K__law_draw, B__law_draw⟩ := h__law_draw.ex
  obtain ⟨f__law_wishes, fd__law_wishes, G__law_wishes, M__law_wishes, K__law_wishes, B__law_wishes⟩ := h__law_wishes.ex
  obtain ⟨f__law_is_right, fd__law_is_right, G__law_is_right, M__law_is_right, K__law_is_right, B__law_is_right⟩ := h__law_is_right.ex
  exact fn_law F sc_law (by decide) (fun cdv A outer s H E hr => ⟨_,
 (pss_cons (ps_set (i := 1) nd rfl (by first | exact Or.inl rfl | exact Or.inr rfl) (pe_call G__law_hand (hr.mono (by decide)) (by rfl) M__law_hand K__law_hand B__law_hand .nil pass0 (pa_cons (pv 0) pa_nil)))
  (pss_cons (ps_set (i := 2) nd rfl (by first | exact Or.inl rfl | exact Or.inr rfl) (pe_tup (pa_cons (pe_tup (pa_cons pe_int (pa_cons pe_int (pa_cons pe_int pa_nil)))) (pa_cons (pe_tup (pa_cons pe_int (pa_cons pe_int (pa_cons pe_int pa_nil)))) (pa_cons (pe_tup (pa_cons pe_int (pa_cons pe_int (pa_cons pe_int pa_nil)))) pa_nil)))))
  (pss_cons (ps_if (PW.pt (pw_or (pt_cmpR (op_neD hr.units) (pe_call G_needless_wishes (hr.mono (by decide)) (by rfl) M_needless_wishes K_needless_wishes B_needless_wishes .nil pass0 (pa_cons pe_int (pa_cons (pv 2) pa_nil))) (pe_tup (pa_cons pe_int pa_nil)) (nomark _)) (pw_or1 (pt_cmpR (op_neD hr.units) (pe_call G_fewest_left (hr.mono (by decide)) (by rfl) M_fewest_left K_fewest_left B_fewest_left .nil pass0 (pa_cons pe_int (pa_cons (pe_tup (pa_cons (pe_tup (pa_cons pe_int (pa_cons pe_int (pa_cons pe_int pa_nil)))) (pa_cons (pe_tup (pa_cons pe_int (pa_cons pe_int (pa_cons (pe_un un_neg pe_int) pa_nil)))) pa_nil))) pa_nil))) (pe_tup (pa_cons pe_int pa_nil)) (nomark _))))) (pss_one (ps_ret pe_bl)) pss_nil)
  (pss_cons (ps_if (pt_cmpR op_notBl (pe_call G_is_said (hr.mono (by decide)) (by rfl) M_is_said K_is_said B_is_said .nil pass0 (pa_cons pe_int (pa_cons (pv 2) (pa_cons (pe_tup (pa_cons pe_int (pa_cons pe_int (pa_cons pe_int pa_nil)))) pa_nil)))) pe_bl (nomark _)) (pss_one (ps_ret pe_bl)) pss_nil)
  (pss_cons (ps_for PassesOwn.never rfl (pi_range1 (by rfl) (hb "range" (by decide +kernel)) (pa_cons pe_int pa_nil)) (pg_name (i := 3) nd rfl (by first | exact Or.inl rfl | exact Or.inr rfl)) (pss_cons (ps_set (i := 4) nd rfl (by first | exact Or.inl rfl | exact Or.inr rfl) (pe_op op_add pe_int (pe_call G__law_draw (hr.mono (by decide)) (by rfl) M__law_draw K__law_draw B__law_draw .nil pass0 (pa_cons (pv 1) (pa_cons pe_int pa_nil)))))
  (pss_one (ps_if (pt_not (pt_val (pe_call G__law_is_right (hr.mono (by decide)) (by rfl) M__law_is_right K__law_is_right B__law_is_right .nil pass0 (pa_cons (pv 1) (pa_cons (pv 4) (pa_cons (pe_call G__law_wishes (hr.mono (by decide)) (by rfl) M__law_wishes K__law_wishes B__law_wishes .nil pass0 (pa_cons (pv 1) (pa_cons (pv 4) (pa_cons pe_int pa_nil)))) pa_nil)))))) (pss_one (ps_ret pe_bl)) pss_nil))))
  (pss_one (ps_ret pe_bl))))))),
 (snds_seq (snds_set (SndV.ofL sndl_callScr) (by decide))
  (snds_seq (snds_set (SndV.ofD (snd_tup (snda_cons (snd_tup (snda_cons (snd_c fun _ => .int _) (snda_cons (snd_c fun _ => .int _) (snda_cons (snd_c fun _ => .int _) snda_nil)))) (snda_cons (snd_tup (snda_cons (snd_c fun _ => .int _) (snda_cons (snd_c fun _ => .int _) (snda_cons (snd_c fun _ => .int _) snda_nil)))) (snda_cons (snd_tup (snda_cons (snd_c fun _ => .int _) (snda_cons (snd_c fun _ => .int _) (snda_cons (snd_c fun _ => .int _) snda_nil)))) snda_nil))))) (by decide))
  (snds_seq (snds_if (sndt_or (sndt_test (snd_op (snd_callQ (snda_cons (snd_c fun _ => .int _) (snda_cons snd_var snda_nil)) (lenA_cons (lenA_cons lenA_nil))) (snd_tup (snda_cons (snd_c fun _ => .int _) snda_nil)) ops_ne)) (sndt_test (snd_op (snd_callQ (snda_cons (snd_c fun _ => .int _) (snda_cons (snd_tup (snda_cons (snd_tup (snda_cons (snd_c fun _ => .int _) (snda_cons (snd_c fun _ => .int _) (snda_cons (snd_c fun _ => .int _) snda_nil)))) (snda_cons (snd_tup (snda_cons (snd_c fun _ => .int _) (snda_cons (snd_c fun _ => .int _) (snda_cons (snd_un (snd_c fun _ => .int _) uns_neg) snda_nil)))) snda_nil))) snda_nil)) (lenA_cons (lenA_cons lenA_nil))) (snd_tup (snda_cons (snd_c fun _ => .int _) snda_nil)) ops_ne))) (snds_ret (snd_c fun _ => .bl _)) snds_next)
  (snds_seq (snds_if (sndt_test (snd_op (snd_callQ (snda_cons (snd_c fun _ => .int _) (snda_cons snd_var (snda_cons (snd_tup (snda_cons (snd_c fun _ => .int _) (snda_cons (snd_c fun _ => .int _) (snda_cons (snd_c fun _ => .int _) snda_nil)))) snda_nil))) (lenA_cons (lenA_cons (lenA_cons lenA_nil)))) (snd_c fun _ => .bl _) ops_notB)) (snds_ret (snd_c fun _ => .bl _)) snds_next)
  (snds_seq (snds_for (sndi_range1 (snda_cons (snd_c fun _ => .int _) snda_nil)) sndg_name (snds_seq (snds_set (SndV.ofD (snd_op (snd_c fun _ => .int _) (snd_callHQ (snda_cons (snd_c fun _ => .int _) snda_nil) (lenA_cons lenA_nil)) ops_add)) (by decide))
  (snds_if (sndt_not (sndt_B (snd_callHQ (snda_cons snd_var (snda_cons (snd_callHQ (snda_cons snd_var (snda_cons (snd_c fun _ => .int _) snda_nil)) (lenA_cons (lenA_cons lenA_nil))) snda_nil)) (lenA_cons (lenA_cons lenA_nil))))) (snds_ret (snd_c fun _ => .bl _)) snds_next)) (by decide))
  (snds_ret (snd_c fun _ => .bl _)))))))⟩) hlaw
end
end K39
namespace Wsh
abbrev Wi := Nat × Nat × Int
def Kept (h : Nat → Int) (W : List Wi) : Prop := ∀ a b m, (a, b, m) ∈ W → h b ≤ h a + m
def Feas (W : List Wi) : Prop := ∃ h, Kept h W
def Ok (n : Nat) (W : List Wi) : Prop := ∀ a b m, (a, b, m) ∈ W → a < n ∧ b < n ∧ a ≠ b
def up {α : Type} (f : Nat → α) (v : Nat) (y : α) : Nat → α := fun i => if i = v then y else f i
theorem up_eq {α : Type} {f : Nat → α} {v : Nat} {y : α} : up f v y v = y := if_pos rfl
theorem up_ne {α : Type} {f : Nat → α} {v i : Nat} {y : α} (h : i ≠ v) : up f v y i = f i := if_neg h
/-- the state of a settling -/
structure Se where
  x : Nat → Int
  by_ : Nat → Option Nat
  last : Option Nat
def bstep (s : Se) (i : Nat) (w : Wi) : Se := if s.x w.1 + w.2.2 < s.x w.2.1 then ⟨up s.x w.2.1 (s.x w.1 + w.2.2), up s.by_ w.2.1 (some i), some w.2.1⟩ else s
def bsteps : Se → Nat → List Wi → Se
  | s, _, [] => s
  | s, i, w :: ws => bsteps (bstep s i w) (i + 1) ws
def bround (W : List Wi) (s : Se) : Se := bsteps ⟨s.x, s.by_, none⟩ 0 W
def bstart : Se := ⟨fun _ => 0, fun _ => none, none⟩
def brounds (W : List Wi) : Nat → Se
  | 0 => bstart
  | k + 1 => bround W (brounds W k)
structure Inv (n : Nat) (W : List Wi) (k p : Nat) (s : Se) (rd tm : Nat → Nat) (t : Nat) : Prop where
  par : ∀ v i, s.by_ v = some i → ∃ u m, W[i]? = some (u, v, m) ∧ s.x u + m ≤ s.x v ∧ (tm v ≤ tm u → s.x u + m + 1 ≤ s.x v) ∧ rd v ≤ rd u + 1
  def_ : ∀ v, s.by_ v = none → rd v = 0
  tm_le : ∀ v, tm v ≤ t
  rd_le : ∀ v, rd v ≤ k
  done : ∀ i a b m, W[i]? = some (a, b, m) → i < p → rd a < k → s.x b ≤ s.x a + m
  todo : ∀ i a b m, W[i]? = some (a, b, m) → p ≤ i → rd a + 1 < k → s.x b ≤ s.x a + m
  new : ∀ v, s.last = some v → rd v = k ∧ v < n
  old : s.last = none → ∀ v, rd v < k
theorem Ok.get {n : Nat} {W : List Wi} (h : Ok n W) {i a b : Nat} {m : Int} (e : W[i]? = some (a, b, m)) : a < n ∧ b < n ∧ a ≠ b :=
  h a b m (List.mem_of_getElem? e)
theorem Inv.step {n : Nat} {W : List Wi} (ho : Ok n W) {k p : Nat} {s : Se} {rd tm : Nat → Nat} {t : Nat} (h : Inv n W k p s rd tm t) (w : Wi) (hw : W[p]? = some w) :
    ∃ rd' tm' t', Inv n W k (p + 1) (bstep s p w) rd' tm' t' := by
  obtain ⟨u, v, m⟩ := w
  obtain ⟨hu, hv, huv⟩ := ho.get hw
  unfold bstep
  by_cases hc : s.x u + m < s.x v
  · rw [if_pos hc]
    refine ⟨up rd v k, up tm v (t + 1), t + 1, ?_, ?_, ?_, ?_, ?_, ?_, ?_, ?_⟩ <;> (try dsimp only)
    · intro c i hi
      by_cases hcv : c = v
      · subst hcv
        rw [up_eq] at hi
        cases hi
        refine ⟨u, m, hw, ?_, ?_, ?_⟩
        · simp only [up_eq, up_ne huv]; omega
        · simp only [up_eq, up_ne huv]
          have := h.tm_le u
          omega
        · simp only [up_eq, up_ne huv]
          have : ¬ rd u + 1 < k := fun hk => by have := h.todo p u c m hw (Nat.le_refl _) hk; omega
          omega
      · simp only [up_ne hcv] at hi
        obtain ⟨u', m', h1, h2, h3, h4⟩ := h.par c i hi
        refine ⟨u', m', h1, ?_⟩
        by_cases hu' : u' = v
        · subst hu'
          simp only [up_eq, up_ne hcv]
          have := h.rd_le u'
          refine ⟨by omega, fun _ => by omega, by omega⟩
        · simp only [up_ne hu', up_ne hcv]
          exact ⟨h2, h3, h4⟩
    · intro c hi
      by_cases hcv : c = v
      · subst hcv; simp only [up_eq] at hi; cases hi
      · simp only [up_ne hcv] at hi ⊢; exact h.def_ c hi
    · intro c
      by_cases hcv : c = v
      · subst hcv; rw [up_eq]; omega
      · rw [up_ne hcv]; have := h.tm_le c; omega
    · intro c
      by_cases hcv : c = v
      · subst hcv; rw [up_eq]; omega
      · rw [up_ne hcv]; exact h.rd_le c
    · intro i a b m' hi hip hr
      by_cases hav : a = v
      · subst hav; rw [up_eq] at hr; omega
      · rw [up_ne hav] at hr
        simp only [up_ne hav]
        by_cases hip' : i = p
        · subst hip'
          rw [hw] at hi
          cases hi
          rw [up_eq]; omega
        · have h1 := h.done i a b m' hi (by omega) hr
          by_cases hbv : b = v
          · subst hbv; rw [up_eq]; omega
          · rw [up_ne hbv]; exact h1
    · intro i a b m' hi hip hr
      by_cases hav : a = v
      · subst hav; rw [up_eq] at hr; omega
      · rw [up_ne hav] at hr
        simp only [up_ne hav]
        have h1 := h.todo i a b m' hi (by omega) hr
        by_cases hbv : b = v
        · subst hbv; rw [up_eq]; omega
        · rw [up_ne hbv]; exact h1
    · intro c hcl
      cases hcl
      exact ⟨up_eq, hv⟩
    · intro hcl; cases hcl
  · rw [if_neg hc]
    refine ⟨rd, tm, t, h.par, h.def_, h.tm_le, h.rd_le, ?_, ?_, h.new, h.old⟩
    · intro i a b m' hi hip hr
      by_cases hip' : i = p
      · subst hip'
        rw [hw] at hi
        cases hi
        omega
      · exact h.done i a b m' hi (by omega) hr
    · intro i a b m' hi hip hr
      exact h.todo i a b m' hi (by omega) hr
theorem steps_inv {n : Nat} {W : List Wi} (ho : Ok n W) {k : Nat} : ∀ (ws : List Wi) (p : Nat) (s : Se) (rd tm : Nat → Nat) (t : Nat), W.drop p = ws → Inv n W k p s rd tm t →
    ∃ rd' tm' t', Inv n W k (p + ws.length) (bsteps s p ws) rd' tm' t'
  | [], p, s, rd, tm, t, _, h => ⟨rd, tm, t, h⟩
  | w :: ws, p, s, rd, tm, t, hd, h => by
    have hw : W[p]? = some w := by
      have := congrArg (fun l => l[0]?) hd
      simpa [List.getElem?_drop] using this
    obtain ⟨rd1, tm1, t1, h1⟩ := h.step ho w hw
    have hd' : W.drop (p + 1) = ws := by
      rw [← List.drop_drop, hd]; rfl
    obtain ⟨rd2, tm2, t2, h2⟩ := steps_inv ho ws (p + 1) _ rd1 tm1 t1 hd' h1
    refine ⟨rd2, tm2, t2, ?_⟩
    have e : p + (w :: ws).length = p + 1 + ws.length := by simp only [List.length_cons]; omega
    rw [e]
    exact h2
/-- between brounds: k brounds are done -/
def Mid (n : Nat) (W : List Wi) (k : Nat) (s : Se) : Prop := ∃ rd tm t, Inv n W k W.length s rd tm t
theorem Inv.next {n : Nat} {W : List Wi} {k p : Nat} {s : Se} {rd tm : Nat → Nat} {t : Nat} (h : Inv n W k p s rd tm t) (hp : W.length ≤ p) :
    Inv n W (k + 1) 0 ⟨s.x, s.by_, none⟩ rd tm t where
  par := h.par
  def_ := h.def_
  tm_le := h.tm_le
  rd_le v := by have := h.rd_le v; omega
  done i a b m hi hip := by omega
  todo i a b m hi _ hr := by
    have hl : i < W.length := (List.getElem?_eq_some_iff.mp hi).1
    exact h.done i a b m hi (by omega) (by omega)
  new v hv := by cases hv
  old _ v := by have := h.rd_le v; omega
def Pre (n : Nat) (W : List Wi) (k : Nat) (s : Se) : Prop := ∃ rd tm t, Inv n W (k + 1) 0 ⟨s.x, s.by_, none⟩ rd tm t
theorem Mid.pre {n : Nat} {W : List Wi} {k : Nat} {s : Se} (h : Mid n W k s) : Pre n W k s := by
  obtain ⟨rd, tm, t, h⟩ := h
  exact ⟨rd, tm, t, h.next (Nat.le_refl _)⟩
theorem round_mid {n : Nat} {W : List Wi} (ho : Ok n W) {k : Nat} {s : Se} (h : Pre n W k s) : Mid n W (k + 1) (bround W s) := by
  obtain ⟨rd, tm, t, h1⟩ := h
  obtain ⟨rd', tm', t', h2⟩ := steps_inv ho W 0 _ rd tm t rfl h1
  refine ⟨rd', tm', t', ?_⟩
  rw [Nat.zero_add] at h2
  exact h2
theorem start_pre {n : Nat} {W : List Wi} : Pre n W 0 bstart := ⟨fun _ => 0, fun _ => 0, 0, {
  par := fun v i h => by cases h
  def_ := fun v _ => rfl
  tm_le := fun v => Nat.le_refl _
  rd_le := fun v => by omega
  done := fun i a b m _ h _ => by omega
  todo := fun i a b m _ _ h => by omega
  new := fun v hv => by cases hv
  old := fun _ v => by omega }⟩
theorem Mid.kept {n : Nat} {W : List Wi} {k : Nat} {s : Se} (h : Mid n W k s) (hl : s.last = none) : Kept s.x W := by
  obtain ⟨rd, tm, t, h⟩ := h
  intro a b m hm
  obtain ⟨i, hi⟩ := List.getElem?_of_mem hm
  exact h.done i a b m hi (List.getElem?_eq_some_iff.mp hi).1 (h.old hl a)
/-- the one that by leads back to -/
def parOf (W : List Wi) (s : Se) (v : Nat) : Nat := match s.by_ v with
  | some i => match W[i]? with
    | some w => w.1
    | none => v
  | none => v
def back (W : List Wi) (s : Se) (v : Nat) : Nat → Nat
  | 0 => v
  | i + 1 => parOf W s (back W s v i)
theorem back_add {W : List Wi} {s : Se} {v : Nat} (i : Nat) : ∀ j, back W s v (i + j) = back W s (back W s v i) j
  | 0 => rfl
  | j + 1 => by
    show parOf W s (back W s v (i + j)) = _
    rw [back_add i j]
    rfl
theorem par_some {n : Nat} {W : List Wi} (ho : Ok n W) {k p : Nat} {s : Se} {rd tm : Nat → Nat} {t : Nat} (h : Inv n W k p s rd tm t) {v : Nat} (hr : 1 ≤ rd v) :
    ∃ i m, s.by_ v = some i ∧ W[i]? = some (parOf W s v, v, m) ∧ s.x (parOf W s v) + m ≤ s.x v ∧ (tm v ≤ tm (parOf W s v) → s.x (parOf W s v) + m + 1 ≤ s.x v) ∧ rd v ≤ rd (parOf W s v) + 1 ∧ parOf W s v < n := by
  cases hb : s.by_ v with
  | none => have := h.def_ v hb; omega
  | some i =>
    obtain ⟨u, m, h1, h2, h3, h4⟩ := h.par v i hb
    have e : parOf W s v = u := by unfold parOf; rw [hb]; dsimp only; rw [h1]
    rw [e]
    exact ⟨i, m, rfl, h1, h2, h3, h4, (ho.get h1).1⟩
theorem back_rd {n : Nat} {W : List Wi} (ho : Ok n W) {k p : Nat} {s : Se} {rd tm : Nat → Nat} {t : Nat} (h : Inv n W k p s rd tm t) {v : Nat} (hv : rd v = k) (hn : v < n) :
    ∀ j, j < k → k ≤ rd (back W s v j) + j ∧ back W s v j < n
  | 0, _ => ⟨by show k ≤ rd v + 0; omega, hn⟩
  | j + 1, hj => by
    have ih := back_rd ho h hv hn j (by omega)
    obtain ⟨i, m, h1, h2, h3, h4, h5, h6⟩ := par_some ho h (v := back W s v j) (by omega)
    exact ⟨by show k ≤ rd (parOf W s (back W s v j)) + (j + 1); omega, h6⟩
/-- no way without a hole: n + 1 numbers below n are not all unlike -/
theorem pigeon : ∀ (n : Nat) (f : Nat → Nat), (∀ i, i ≤ n → f i < n) → ∃ i j, i < j ∧ j ≤ n ∧ f i = f j
  | 0, f, h => absurd (h 0 (Nat.le_refl _)) (by omega)
  | n + 1, f, h => by
    by_cases hx : ∃ i, i ≤ n ∧ f i = f (n + 1)
    · obtain ⟨i, h1, h2⟩ := hx
      exact ⟨i, n + 1, by omega, Nat.le_refl _, h2⟩
    · have hne : ∀ i, i ≤ n → f i ≠ f (n + 1) := fun i hi e => hx ⟨i, hi, e⟩
      have hl := h (n + 1) (Nat.le_refl _)
      obtain ⟨i, j, h1, h2, h3⟩ := pigeon n (fun i => if f i = n then f (n + 1) else f i) fun i hi => by
        have h1 := h i (by omega)
        have h2 := hne i hi
        show (if f i = n then f (n + 1) else f i) < n
        by_cases hfi : f i = n
        · rw [if_pos hfi]; omega
        · rw [if_neg hfi]; omega
      refine ⟨i, j, h1, by omega, ?_⟩
      have h3 : (if f i = n then f (n + 1) else f i) = (if f j = n then f (n + 1) else f j) := h3
      have a1 := hne i (by omega)
      have a2 := hne j (by omega)
      by_cases e1 : f i = n
      · by_cases e2 : f j = n
        · omega
        · rw [if_pos e1, if_neg e2] at h3; omega
      · by_cases e2 : f j = n
        · rw [if_neg e1, if_pos e2] at h3; omega
        · rw [if_neg e1, if_neg e2] at h3; exact h3
/-- what a last one after n + 1 brounds tells -/
structure Ring (n : Nat) (W : List Wi) (s : Se) (v : Nat) : Prop where
  lt : ∀ j, j ≤ n → back W s v j < n
  edge : ∀ j, j ≤ n → ∃ i m, s.by_ (back W s v j) = some i ∧ W[i]? = some (back W s v (j + 1), back W s v j, m)
  bar : ¬ Feas W
theorem Mid.ring {n : Nat} {W : List Wi} (ho : Ok n W) {s : Se} {v : Nat} (h : Mid n W (n + 1) s) (hl : s.last = some v) : Ring n W s v := by
  obtain ⟨rd, tm, t, h⟩ := h
  obtain ⟨hv, hn⟩ := h.new v hl
  have hb := back_rd ho h hv hn
  have hp : ∀ j, j ≤ n → ∃ i m, s.by_ (back W s v j) = some i ∧ W[i]? = some (back W s v (j + 1), back W s v j, m) ∧ s.x (back W s v (j + 1)) + m ≤ s.x (back W s v j) ∧ (tm (back W s v j) ≤ tm (back W s v (j + 1)) → s.x (back W s v (j + 1)) + m + 1 ≤ s.x (back W s v j)) := fun j hj => by
    have := (hb j (by omega)).1
    obtain ⟨i, m, h1, h2, h3, h4, h5, h6⟩ := par_some ho h (v := back W s v j) (by omega)
    exact ⟨i, m, h1, h2, h3, h4⟩
  refine ⟨fun j hj => (hb j (by omega)).2, fun j hj => ?_, ?_⟩
  · obtain ⟨i, m, h1, h2, _⟩ := hp j hj
    exact ⟨i, m, h1, h2⟩
  · rintro ⟨g, hg⟩
    have key : ∀ d j, j + d + 1 ≤ n + 1 → s.x (back W s v (j + d + 1)) - g (back W s v (j + d + 1)) < s.x (back W s v j) - g (back W s v j) ∨
        (s.x (back W s v (j + d + 1)) - g (back W s v (j + d + 1)) = s.x (back W s v j) - g (back W s v j) ∧ tm (back W s v (j + d + 1)) < tm (back W s v j)) := by
      intro d
      induction d with
      | zero =>
        intro j hj
        obtain ⟨i, m, h1, h2, h3, h4⟩ := hp j (by omega)
        have h5 := hg _ _ _ (List.mem_of_getElem? h2)
        show s.x (back W s v (j + 1)) - g (back W s v (j + 1)) < _ ∨ (s.x (back W s v (j + 1)) - g (back W s v (j + 1)) = _ ∧ tm (back W s v (j + 1)) < _)
        by_cases ht : tm (back W s v j) ≤ tm (back W s v (j + 1))
        · have := h4 ht; omega
        · omega
      | succ d ih =>
        intro j hj
        have i1 := ih j (by omega)
        obtain ⟨i, m, h1, h2, h3, h4⟩ := hp (j + d + 1) (by omega)
        have h5 := hg _ _ _ (List.mem_of_getElem? h2)
        show s.x (back W s v (j + d + 1 + 1)) - g (back W s v (j + d + 1 + 1)) < _ ∨ (s.x (back W s v (j + d + 1 + 1)) - g (back W s v (j + d + 1 + 1)) = _ ∧ tm (back W s v (j + d + 1 + 1)) < _)
        by_cases ht : tm (back W s v (j + d + 1)) ≤ tm (back W s v (j + d + 1 + 1))
        · have := h4 ht; omega
        · omega
    obtain ⟨i, j, h1, h2, h3⟩ := pigeon n (back W s v) fun j hj => (hb j (by omega)).2
    have := key (j - i - 1) i (by omega)
    rw [show i + (j - i - 1) + 1 = j by omega, h3] at this
    omega
/-- the ring closes -/
theorem Ring.closed {n : Nat} {W : List Wi} {s : Se} {v : Nat} (h : Ring n W s v) : ∃ d, 1 ≤ d ∧ d ≤ n ∧ back W s (back W s v n) d = back W s v n ∧ ∀ j, ∃ j', j' ≤ n ∧ back W s (back W s v n) j = back W s v j' := by
  obtain ⟨i, j, h1, h2, h3⟩ := pigeon n (back W s v) h.lt
  have hper : ∀ q, back W s v (j + q) = back W s v (i + q) := fun q => by rw [back_add, back_add, h3]
  refine ⟨j - i, by omega, by omega, ?_, fun q => ?_⟩
  · rw [← back_add]
    have := hper (n - i)
    rw [show j + (n - i) = n + (j - i) by omega, show i + (n - i) = n by omega] at this
    exact this
  · rw [← back_add]
    have : ∀ m, ∃ j', j' ≤ n ∧ back W s v m = back W s v j' := by
      intro m
      induction m using Nat.strongRecOn with
      | ind m ih =>
        by_cases hm : m ≤ n
        · exact ⟨m, hm, rfl⟩
        · obtain ⟨j', a, b⟩ := ih (i + (m - j)) (by omega)
          refine ⟨j', a, ?_⟩
          have := hper (m - j)
          rw [show j + (m - j) = m by omega] at this
          rw [this, b]
    exact this _
/-- the brounds that settled goes through -/
def bsettle (W : List Wi) : Nat → Se → Se
  | 0, s => s
  | k + 1, s => if (bround W s).last = none then bround W s else bsettle W k (bround W s)
theorem bsettle_spec {n : Nat} {W : List Wi} (ho : Ok n W) : ∀ (r k : Nat) (s : Se), r + k = n + 1 → 1 ≤ r → Pre n W k s →
    ((bsettle W r s).last = none ∧ Kept (bsettle W r s).x W) ∨ (∃ v, (bsettle W r s).last = some v ∧ v < n ∧ Ring n W (bsettle W r s) v)
  | 0, k, s, _, h, _ => by omega
  | r + 1, k, s, hr, _, h => by
    have hm := round_mid ho h
    unfold bsettle
    by_cases hl : (bround W s).last = none
    · rw [if_pos hl]
      exact .inl ⟨hl, hm.kept hl⟩
    · rw [if_neg hl]
      by_cases h0 : r = 0
      · subst h0
        cases hv : (bround W s).last with
        | none => exact absurd hv hl
        | some v =>
          have hk : k + 1 = n + 1 := by omega
          rw [hk] at hm
          have hn : v < n := by
            obtain ⟨rd, tm, t, h⟩ := hm
            exact (h.new v hv).2
          exact .inr ⟨v, hv, hn, hm.ring ho hv⟩
      · exact bsettle_spec ho r (k + 1) _ (by omega) (by omega) hm.pre
theorem bsettle_ok {n : Nat} {W : List Wi} (ho : Ok n W) : ((bsettle W (n + 1) bstart).last = none ∧ Kept (bsettle W (n + 1) bstart).x W ∧ Feas W) ∨ (∃ v, (bsettle W (n + 1) bstart).last = some v ∧ v < n ∧ Ring n W (bsettle W (n + 1) bstart) v ∧ ¬ Feas W) := by
  rcases bsettle_spec ho (n + 1) 0 bstart rfl (by omega) start_pre with h | ⟨v, h1, h2, h3⟩
  · exact .inl ⟨h.1, h.2, ⟨_, h.2⟩⟩
  · exact .inr ⟨v, h1, h2, h3, h3.bar⟩
/-- after n + 1 brounds all is kept, if any moments keep it -/
theorem rounds_pre {n : Nat} {W : List Wi} (ho : Ok n W) : ∀ k, Pre n W k (brounds W k)
  | 0 => start_pre
  | k + 1 => (round_mid ho (rounds_pre ho k)).pre
theorem rounds_kept {n : Nat} {W : List Wi} (ho : Ok n W) (hf : Feas W) : Kept (brounds W (n + 1)).x W := by
  have hm := round_mid ho (rounds_pre ho n)
  cases hl : (bround W (brounds W n)).last with
  | none => exact hm.kept hl
  | some v => exact absurd hf (hm.ring ho hl).bar
theorem steps_still {W : List Wi} {s : Se} : ∀ (ws : List Wi) (p : Nat), (∀ w, w ∈ ws → w ∈ W) → Kept s.x W → bsteps s p ws = s
  | [], _, _, _ => rfl
  | w :: ws, p, h, hk => by
    have h1 : bstep s p w = s := by
      obtain ⟨a, b, m⟩ := w
      have := hk a b m (h _ (by simp))
      exact if_neg (by dsimp only; omega)
    show bsteps (bstep s p w) (p + 1) ws = s
    rw [h1]
    exact steps_still ws (p + 1) (fun w hw => h w (List.mem_cons_of_mem _ hw)) hk
theorem round_still {W : List Wi} {s : Se} (h : Kept s.x W) : (bround W s).x = s.x := by
  unfold bround
  rw [steps_still (s := ⟨s.x, s.by_, none⟩) W 0 (fun w hw => hw) h]
/-- least of all moments from nothing up: what brounds hold is above each kept one that is nowhere above nothing -/
theorem steps_low {W : List Wi} {g : Nat → Int} (hg : Kept g W) : ∀ (ws : List Wi) (p : Nat) (s : Se), (∀ w, w ∈ ws → w ∈ W) → (∀ v, g v ≤ s.x v) → ∀ v, g v ≤ (bsteps s p ws).x v
  | [], _, _, _, h => h
  | w :: ws, p, s, hw, h => by
    refine steps_low hg ws (p + 1) (bstep s p w) (fun w h => hw w (List.mem_cons_of_mem _ h)) ?_
    obtain ⟨a, b, m⟩ := w
    have h1 := hg a b m (hw _ (by simp))
    intro v
    unfold bstep
    dsimp only
    by_cases hc : s.x a + m < s.x b
    · rw [if_pos hc]
      dsimp only
      have := h a
      by_cases hv : v = b
      · subst hv; rw [up_eq]; omega
      · rw [up_ne hv]; exact h v
    · rw [if_neg hc]; exact h v
theorem rounds_low {W : List Wi} {g : Nat → Int} (hg : Kept g W) (h0 : ∀ v, g v ≤ 0) : ∀ k v, g v ≤ (brounds W k).x v
  | 0, v => h0 v
  | k + 1, v => steps_low hg W 0 ⟨_, _, none⟩ (fun w hw => hw) (rounds_low hg h0 k) v
theorem steps_neg {s : Se} : ∀ (ws : List Wi) (p : Nat) (s : Se), (∀ v, s.x v ≤ 0) → ∀ v, (bsteps s p ws).x v ≤ 0
  | [], _, _, h => h
  | w :: ws, p, s, h => by
    refine steps_neg (s := s) ws (p + 1) (bstep s p w) ?_
    intro v
    unfold bstep
    by_cases hc : s.x w.1 + w.2.2 < s.x w.2.1
    · rw [if_pos hc]
      dsimp only
      have := h w.2.1
      by_cases hv : v = w.2.1
      · rw [hv, up_eq]; omega
      · rw [up_ne hv]; exact h v
    · rw [if_neg hc]; exact h v
theorem rounds_neg {W : List Wi} : ∀ k v, (brounds W k).x v ≤ 0
  | 0, v => Int.le_refl _
  | k + 1, v => steps_neg (s := bstart) W 0 ⟨_, _, none⟩ (rounds_neg k) v
end Wsh
namespace Wsh
abbrev Mx := Nat → Nat → Option Int
def Lq (o : Option Int) (z : Int) : Prop := ∃ y, o = some y ∧ y ≤ z
instance (o : Option Int) (z : Int) : Decidable (Lq o z) := match o with
  | none => isFalse fun ⟨y, h, _⟩ => by cases h
  | some y => if h : y ≤ z then isTrue ⟨y, rfl, h⟩ else isFalse fun ⟨y', h1, h2⟩ => h (by cases h1; exact h2)
theorem Lq.mono {o : Option Int} {z z' : Int} (h : Lq o z) (hz : z ≤ z') : Lq o z' := by
  obtain ⟨y, a, b⟩ := h
  exact ⟨y, a, by omega⟩
def mup (M : Mx) (i j : Nat) (v : Option Int) : Mx := up M i (up (M i) j v)
theorem mup_eq {M : Mx} {i j : Nat} {v : Option Int} : mup M i j v i j = v := by unfold mup; rw [up_eq, up_eq]
theorem mup_ne {M : Mx} {i j a b : Nat} {v : Option Int} (h : ¬ (a = i ∧ b = j)) : mup M i j v a b = M a b := by
  unfold mup
  by_cases ha : a = i
  · subst ha
    rw [up_eq, up_ne fun e => h ⟨rfl, e⟩]
  · rw [up_ne ha]
theorem mup_self {M : Mx} {i j : Nat} : mup M i j (M i j) = M := by
  funext a b
  by_cases h : a = i ∧ b = j
  · obtain ⟨rfl, rfl⟩ := h; exact mup_eq
  · exact mup_ne h
def lessO (o : Option Int) (z : Int) : Int := match o with
  | none => z
  | some w => if z < w then z else w
def comb (M : Mx) (c i j : Nat) : Option Int := match M i c, M c j with
  | some y, some z => some (lessO (M i j) (y + z))
  | _, _ => M i j
theorem comb_cases {M : Mx} {c i j : Nat} {w : Int} (h : comb M c i j = some w) : M i j = some w ∨ ∃ y z, M i c = some y ∧ M c j = some z ∧ w = y + z := by
  unfold comb at h
  cases h1 : M i c with
  | none => rw [h1] at h; exact .inl h
  | some y =>
    cases h2 : M c j with
    | none => rw [h1, h2] at h; exact .inl h
    | some z =>
      rw [h1, h2] at h
      cases h3 : M i j with
      | none => rw [h3] at h; cases h; exact .inr ⟨y, z, rfl, rfl, rfl⟩
      | some w' =>
        rw [h3] at h
        simp only [lessO] at h
        by_cases hw : y + z < w'
        · rw [if_pos hw] at h; cases h; exact .inr ⟨y, z, rfl, rfl, rfl⟩
        · rw [if_neg hw] at h; cases h; exact .inl rfl
theorem comb_le1 {M : Mx} {c i j : Nat} {w : Int} (h : Lq (M i j) w) : Lq (comb M c i j) w := by
  obtain ⟨w', h3, hw⟩ := h
  unfold comb
  cases h1 : M i c with
  | none => exact ⟨w', h3, hw⟩
  | some y =>
    cases h2 : M c j with
    | none => exact ⟨w', h3, hw⟩
    | some z =>
      refine ⟨_, rfl, ?_⟩
      rw [h3]
      unfold lessO
      dsimp only
      by_cases hw : y + z < w'
      · rw [if_pos hw]; omega
      · rw [if_neg hw]; omega
theorem comb_le2 {M : Mx} {c i j : Nat} {y z : Int} (h1 : M i c = some y) (h2 : M c j = some z) : Lq (comb M c i j) (y + z) := by
  unfold comb
  rw [h1, h2]
  refine ⟨_, rfl, ?_⟩
  cases M i j with
  | none => exact Int.le_refl _
  | some w =>
    unfold lessO
    dsimp only
    by_cases hw : y + z < w
    · rw [if_pos hw]; omega
    · rw [if_neg hw]; omega
def relax (M : Mx) (c i j : Nat) : Mx := mup M i j (comb M c i j)
def inner (c i : Nat) (M : Mx) : Nat → Mx
  | 0 => M
  | j + 1 => relax (inner c i M j) c i j
def mid (n c : Nat) (M : Mx) : Nat → Mx
  | 0 => M
  | i + 1 => inner c i (mid n c M i) n
def outer (n : Nat) (M : Mx) : Nat → Mx
  | 0 => M
  | c + 1 => mid n c (outer n M c) n
/-- what holds of all cells and is kept by a bstep holds at the end -/
theorem outer_ind {n : Nat} (P : Mx → Prop) (hs : ∀ M c i j, P M → P (relax M c i j)) {M : Mx} (h : P M) : ∀ k, P (outer n M k) := by
  have h1 : ∀ c i M, P M → ∀ j, P (inner c i M j) := by
    intro c i M h j
    induction j with
    | zero => exact h
    | succ j ih => exact hs _ c i j ih
  have h2 : ∀ c M, P M → ∀ i, P (mid n c M i) := by
    intro c M h i
    induction i with
    | zero => exact h
    | succ i ih => exact h1 c i _ ih n
  intro k
  induction k with
  | zero => exact h
  | succ k ih => exact h2 k _ ih n
theorem relax_le {M : Mx} {c i j a b : Nat} {w : Int} (h : Lq (M a b) w) : Lq (relax M c i j a b) w := by
  unfold relax
  by_cases e : a = i ∧ b = j
  · obtain ⟨rfl, rfl⟩ := e
    rw [mup_eq]
    exact comb_le1 h
  · rw [mup_ne e]; exact h
theorem outer_le {n : Nat} {M : Mx} {a b : Nat} {w : Int} (h : Lq (M a b) w) (k : Nat) : Lq (outer n M k a b) w :=
  outer_ind (fun M => Lq (M a b) w) (fun _ _ _ _ h => relax_le h) h k
theorem outer_add {n : Nat} {M : Mx} (c : Nat) : ∀ d, outer n M (c + d) = (fun N => Nat.rec N (fun e N => mid n (c + e) N n) d) (outer n M c)
  | 0 => rfl
  | d + 1 => by
    show mid n (c + d) (outer n M (c + d)) n = _
    rw [outer_add c d]
theorem outer_le' {n : Nat} {M : Mx} {a b : Nat} {w : Int} (c : Nat) (h : Lq (outer n M c a b) w) : ∀ d, Lq (outer n M (c + d) a b) w
  | 0 => h
  | d + 1 => by
    have h0 := outer_le' c h d
    have h1 : ∀ i M, Lq (M a b) w → ∀ j, Lq (inner (c + d) i M j a b) w := by
      intro i M h j
      induction j with
      | zero => exact h
      | succ j ih => exact relax_le ih
    have h2 : ∀ M, Lq (M a b) w → ∀ i, Lq (mid n (c + d) M i a b) w := by
      intro M h i
      induction i with
      | zero => exact h
      | succ i ih => exact h1 i _ ih n
    exact h2 _ h0 n
def Sound (W : List Wi) (M : Mx) : Prop := ∀ h, Kept h W → ∀ a b y, M a b = some y → h b ≤ h a + y
theorem relax_sound {W : List Wi} {M : Mx} {c i j : Nat} (hs : Sound W M) : Sound W (relax M c i j) := by
  intro h hk a b y hy
  unfold relax at hy
  by_cases e : a = i ∧ b = j
  · obtain ⟨rfl, rfl⟩ := e
    rw [mup_eq] at hy
    rcases comb_cases hy with h1 | ⟨p, q, h1, h2, rfl⟩
    · exact hs h hk a b y h1
    · have := hs h hk _ _ _ h1
      have := hs h hk _ _ _ h2
      omega
  · rw [mup_ne e] at hy; exact hs h hk a b y hy
def NN (M : Mx) (c : Nat) : Prop := ∀ y, M c c = some y → 0 ≤ y
theorem comb_col {M : Mx} {c a : Nat} (h : NN M c) : comb M c a c = M a c := by
  unfold comb
  cases h1 : M a c with
  | none => rfl
  | some y =>
    cases h2 : M c c with
    | none => rfl
    | some z =>
      have := h z h2
      show some (lessO (some y) (y + z)) = some y
      unfold lessO
      dsimp only
      rw [if_neg (by omega)]
theorem comb_row {M : Mx} {c b : Nat} (h : NN M c) : comb M c c b = M c b := by
  unfold comb
  cases h2 : M c c with
  | none => rfl
  | some z =>
    cases h1 : M c b with
    | none => rfl
    | some y =>
      have := h z h2
      show some (lessO (some y) (z + y)) = some y
      unfold lessO
      dsimp only
      rw [if_neg (by omega)]
theorem mid_eq {n c : Nat} {M : Mx} (h : NN M c) : ∀ i, mid n c M i = fun a b => if a < i ∧ b < n then comb M c a b else M a b
  | 0 => by funext a b; rw [if_neg (by omega)]; rfl
  | i + 1 => by
    have key : ∀ j, j ≤ n → inner c i (mid n c M i) j = fun a b => if (a < i ∧ b < n) ∨ (a = i ∧ b < j) then comb M c a b else M a b := by
      intro j
      induction j with
      | zero =>
        intro _
        show mid n c M i = _
        rw [mid_eq h i]
        funext a b
        by_cases e : a < i ∧ b < n
        · rw [if_pos e, if_pos (.inl e)]
        · rw [if_neg e, if_neg (by omega)]
      | succ j ih =>
        intro hj
        show relax _ c i j = _
        rw [ih (by omega)]
        funext a b
        unfold relax
        by_cases e : a = i ∧ b = j
        · obtain ⟨rfl, rfl⟩ := e
          rw [mup_eq, if_pos (by omega)]
          have r1 : (fun a b_1 => if (a < a ∧ b_1 < n) ∨ (a = a ∧ b_1 < b) then comb M c a b_1 else M a b_1) = (fun a b_1 => if (a < a ∧ b_1 < n) ∨ (a = a ∧ b_1 < b) then comb M c a b_1 else M a b_1) := rfl
          unfold comb
          dsimp only
          have e1 : (if (a < a ∧ c < n) ∨ (a = a ∧ c < b) then comb M c a c else M a c) = M a c := by rw [comb_col h]; exact ite_self _
          have e2 : (if (c < a ∧ b < n) ∨ (c = a ∧ b < b) then comb M c c b else M c b) = M c b := by rw [comb_row h]; exact ite_self _
          have e3 : (if (a < a ∧ b < n) ∨ (a = a ∧ b < b) then comb M c a b else M a b) = M a b := if_neg (by omega)
          unfold comb at e1 e2 e3
          rw [e1, e2, e3]
        · rw [mup_ne e]
          by_cases e2 : (a < i ∧ b < n) ∨ (a = i ∧ b < j)
          · rw [if_pos e2, if_pos (by omega)]
          · rw [if_neg e2, if_neg (by omega)]
    show inner c i (mid n c M i) n = _
    rw [key n (Nat.le_refl _)]
    funext a b
    by_cases e : a < i + 1 ∧ b < n
    · rw [if_pos e, if_pos (by omega)]
    · rw [if_neg e, if_neg (by omega)]
def Clo (n k : Nat) (M : Mx) : Prop := ∀ c, c < k → ∀ a, a < n → ∀ b, b < n → ∀ y z, M a c = some y → M c b = some z → Lq (M a b) (y + z)
theorem clo_next {n k : Nat} {M : Mx} (hk : k < n) (h : NN M k) (hc : Clo n k M) : Clo n (k + 1) (mid n k M n) := by
  rw [mid_eq h]
  intro c hck a ha b hb y z hy hz
  have hcn : c < n := by omega
  dsimp only at hy hz ⊢
  rw [if_pos ⟨ha, hcn⟩] at hy
  rw [if_pos ⟨hcn, hb⟩] at hz
  rw [if_pos ⟨ha, hb⟩]
  by_cases e : c = k
  · subst e
    rw [comb_col h] at hy
    rw [comb_row h] at hz
    exact comb_le2 hy hz
  · have hc' : c < k := by omega
    rcases comb_cases hy with h1 | ⟨y1, y2, h1, h2, rfl⟩ <;> rcases comb_cases hz with h3 | ⟨z1, z2, h3, h4, rfl⟩
    · exact comb_le1 (hc c hc' a ha b hb y z h1 h3)
    · obtain ⟨w, hw1, hw2⟩ := hc c hc' a ha k hk _ _ h1 h3
      exact (comb_le2 hw1 h4).mono (by omega)
    · obtain ⟨w, hw1, hw2⟩ := hc c hc' k hk b hb _ _ h2 h3
      exact (comb_le2 h1 hw1).mono (by omega)
    · obtain ⟨w, hw1, hw2⟩ := hc c hc' k hk k hk _ _ h2 h3
      have := h w hw1
      exact (comb_le2 h1 h4).mono (by omega)
theorem outer_clo {n : Nat} {M : Mx} (hn : ∀ c, c < n → NN (outer n M n) c) (hs : ∀ c, ∃ y, M c c = some y) : Clo n n (outer n M n) := by
  have key : ∀ k, k ≤ n → Clo n k (outer n M k) := by
    intro k
    induction k with
    | zero => intro _ c hc; omega
    | succ k ih =>
      intro hk
      refine clo_next (by omega) (fun y hy => ?_) (ih (by omega))
      have h1 := outer_le' k (w := y) ⟨y, hy, Int.le_refl _⟩ (n - k)
      rw [show k + (n - k) = n by omega] at h1
      obtain ⟨y', h2, h3⟩ := h1
      have := hn k (by omega) y' h2
      omega
  exact key n (Nat.le_refl _)
def diag : Mx := fun a b => if a = b then some 0 else none
def put (M : Mx) (w : Wi) : Mx := mup M w.1 w.2.1 (some (lessO (M w.1 w.2.1) w.2.2))
def init (W : List Wi) : Mx := W.foldl put diag
def fw (n : Nat) (W : List Wi) : Mx := outer n (init W) n
theorem put_le {M : Mx} {w : Wi} {a b : Nat} {z : Int} (h : Lq (M a b) z) : Lq (put M w a b) z := by
  unfold put
  by_cases e : a = w.1 ∧ b = w.2.1
  · obtain ⟨rfl, rfl⟩ := e
    rw [mup_eq]
    obtain ⟨y, h1, h2⟩ := h
    refine ⟨_, rfl, ?_⟩
    rw [h1]
    unfold lessO
    dsimp only
    by_cases hw : w.2.2 < y
    · rw [if_pos hw]; omega
    · rw [if_neg hw]; omega
  · rw [mup_ne e]; exact h
theorem put_new {M : Mx} {w : Wi} : Lq (put M w w.1 w.2.1) w.2.2 := by
  unfold put
  rw [mup_eq]
  refine ⟨_, rfl, ?_⟩
  cases M w.1 w.2.1 with
  | none => exact Int.le_refl _
  | some y =>
    unfold lessO
    dsimp only
    by_cases hw : w.2.2 < y
    · rw [if_pos hw]; omega
    · rw [if_neg hw]; omega
theorem puts_le {a b : Nat} {z : Int} : ∀ (W : List Wi) (M : Mx), Lq (M a b) z → Lq (W.foldl put M a b) z
  | [], _, h => h
  | w :: W, M, h => puts_le W _ (put_le h)
theorem puts_new {a b : Nat} {z : Int} : ∀ (W : List Wi) (M : Mx), (a, b, z) ∈ W → Lq (W.foldl put M a b) z
  | [], _, h => by cases h
  | w :: W, M, h => by
    rcases List.mem_cons.mp h with rfl | h
    · exact puts_le W _ (put_new (w := (a, b, z)))
    · exact puts_new W _ h
theorem puts_sound {W0 : List Wi} : ∀ (W : List Wi) (M : Mx), (∀ w, w ∈ W → w ∈ W0) → Sound W0 M → Sound W0 (W.foldl put M)
  | [], _, _, h => h
  | w :: W, M, hw, h => by
    refine puts_sound W _ (fun w h => hw w (List.mem_cons_of_mem _ h)) ?_
    intro g hg a b y hy
    unfold put at hy
    by_cases e : a = w.1 ∧ b = w.2.1
    · obtain ⟨rfl, rfl⟩ := e
      rw [mup_eq] at hy
      cases hy
      have h1 := hg _ _ _ (hw w (by simp))
      cases h2 : M w.1 w.2.1 with
      | none => exact h1
      | some y =>
        have := h g hg _ _ _ h2
        unfold lessO
        dsimp only
        by_cases hw : w.2.2 < y
        · rw [if_pos hw]; omega
        · rw [if_neg hw]; omega
    · rw [mup_ne e] at hy; exact h g hg a b y hy
theorem diag_sound {W : List Wi} : Sound W diag := by
  intro h _ a b y hy
  unfold diag at hy
  by_cases e : a = b
  · subst e; rw [if_pos rfl] at hy; cases hy; omega
  · rw [if_neg e] at hy; cases hy
theorem fw_sound {n : Nat} {W : List Wi} : Sound W (fw n W) :=
  outer_ind (Sound W) (fun _ _ _ _ h => relax_sound h) (puts_sound W diag (fun _ h => h) diag_sound) n
theorem init_diag {W : List Wi} (c : Nat) : Lq (init W c c) 0 := puts_le W _ ⟨0, if_pos rfl, Int.le_refl _⟩
theorem fw_diag {n : Nat} {W : List Wi} (c : Nat) : Lq (fw n W c c) 0 := outer_le (init_diag c) n
theorem fw_edge {n : Nat} {W : List Wi} {a b : Nat} {m : Int} (h : (a, b, m) ∈ W) : Lq (fw n W a b) m := outer_le (puts_new W _ h) n
theorem fw_clo {n : Nat} {W : List Wi} (hn : ∀ c, c < n → NN (fw n W) c) {a b c : Nat} (ha : a < n) (hb : b < n) (hc : c < n) {y z : Int}
    (hy : Lq (fw n W a c) y) (hz : Lq (fw n W c b) z) : Lq (fw n W a b) (y + z) := by
  obtain ⟨y', h1, h2⟩ := hy
  obtain ⟨z', h3, h4⟩ := hz
  exact (outer_clo hn (fun c => by obtain ⟨y, h, _⟩ := init_diag (W := W) c; exact ⟨y, h⟩) c hc a ha b hb y' z' h1 h3).mono (by omega)
theorem fw_nn {n : Nat} {W : List Wi} (h : Feas W) (c : Nat) : NN (fw n W) c := by
  obtain ⟨g, hg⟩ := h
  intro y hy
  have := fw_sound g hg c c y hy
  omega
/-- the least of a column -/
def least (M : Mx) (v : Nat) : Nat → Int
  | 0 => 0
  | s + 1 => match M s v with
    | none => least M v s
    | some y => if y < least M v s then y else least M v s
theorem least_le {M : Mx} {v : Nat} : ∀ n s, s < n → ∀ z, Lq (M s v) z → least M v n ≤ z
  | 0, s, h => by omega
  | n + 1, s, h => by
    intro z hz
    by_cases e : s = n
    · subst e
      obtain ⟨y, h1, h2⟩ := hz
      unfold least
      rw [h1]
      dsimp only
      by_cases hy : y < least M v s
      · rw [if_pos hy]; exact h2
      · rw [if_neg hy]; omega
    · have := least_le n s (by omega) z hz
      unfold least
      cases M n v with
      | none => exact this
      | some y =>
        dsimp only
        by_cases hy : y < least M v n
        · rw [if_pos hy]; omega
        · rw [if_neg hy]; exact this
theorem least_at {M : Mx} {v : Nat} : ∀ n, least M v n = 0 ∨ ∃ s, s < n ∧ M s v = some (least M v n)
  | 0 => .inl rfl
  | n + 1 => by
    have ih := least_at (M := M) (v := v) n
    unfold least
    cases h : M n v with
    | none =>
      rcases ih with h1 | ⟨s, h1, h2⟩
      · exact .inl h1
      · exact .inr ⟨s, by omega, h2⟩
    | some y =>
      dsimp only
      by_cases hy : y < least M v n
      · rw [if_pos hy]; exact .inr ⟨n, by omega, h⟩
      · rw [if_neg hy]
        rcases ih with h1 | ⟨s, h1, h2⟩
        · exact .inl h1
        · exact .inr ⟨s, by omega, h2⟩
theorem fw_feas {n : Nat} {W : List Wi} (ho : Ok n W) (hn : ∀ c, c < n → NN (fw n W) c) : Feas W := by
  refine ⟨fun v => least (fw n W) v n, fun a b m hm => ?_⟩
  obtain ⟨ha, hb, _⟩ := ho a b m hm
  dsimp only
  rcases least_at (M := fw n W) (v := a) n with h | ⟨s, h1, h2⟩
  · rw [h, Int.zero_add]
    exact least_le n a ha m (fw_edge hm)
  · exact least_le n s h1 _ (fw_clo hn h1 hb ha ⟨_, h2, Int.le_refl _⟩ (fw_edge hm))
theorem fw_iff {n : Nat} {W : List Wi} (ho : Ok n W) : (∀ c, c < n → NN (fw n W) c) ↔ Feas W := ⟨fw_feas ho, fun h c _ => fw_nn h c⟩
theorem Kept.append {h : Nat → Int} {W V : List Wi} : Kept h (W ++ V) ↔ Kept h W ∧ Kept h V := by
  constructor
  · exact fun k => ⟨fun a b m hm => k a b m (List.mem_append_left _ hm), fun a b m hm => k a b m (List.mem_append_right _ hm)⟩
  · rintro ⟨k1, k2⟩ a b m hm
    rcases List.mem_append.mp hm with h | h
    · exact k1 a b m h
    · exact k2 a b m h
/-- what is said, by barring -/
theorem said_iff {n : Nat} {W : List Wi} (ho : Ok n W) (hf : Feas W) {a b : Nat} (ha : a < n) (hb : b < n) {m : Int} :
    Lq (fw n W a b) m ↔ ¬ Feas (W ++ [(b, a, - m - 1)]) := by
  constructor
  · rintro ⟨y, h1, h2⟩ ⟨g, hg⟩
    obtain ⟨k1, k2⟩ := Kept.append.mp hg
    have e1 := fw_sound g k1 a b y h1
    have e2 := k2 b a (- m - 1) (by simp)
    omega
  · intro hn
    refine Classical.byContradiction fun hle => hn ?_
    obtain ⟨g, hg⟩ := hf
    have nn : ∀ c, c < n → NN (fw n W) c := fun c _ => fw_nn ⟨g, hg⟩ c
    obtain ⟨C, hC1, hC2⟩ : ∃ C : Int, 0 ≤ g a + C ∧ m + 1 ≤ g b + C := by
      by_cases h : - g a ≤ m + 1 - g b
      · exact ⟨m + 1 - g b, by omega, by omega⟩
      · exact ⟨- g a, by omega, by omega⟩
    refine ⟨fun v => lessO (fw n W a v) (g v + C), Kept.append.mpr ⟨fun u v w hw => ?_, fun u v w hw => ?_⟩⟩
    · obtain ⟨hu, hv, _⟩ := ho u v w hw
      have k := hg u v w hw
      dsimp only
      have le2 : ∀ (o : Option Int) z, lessO o z ≤ z := fun o z => by
        cases o with
        | none => exact Int.le_refl _
        | some y => unfold lessO; dsimp only; by_cases h : z < y
                    · rw [if_pos h]; omega
                    · rw [if_neg h]; omega
      have le1 : ∀ (o : Option Int) z q, Lq o q → lessO o z ≤ q := fun o z q hq => by
        obtain ⟨y, rfl, hy⟩ := hq
        unfold lessO; dsimp only; by_cases h : z < y
        · rw [if_pos h]; omega
        · rw [if_neg h]; omega
      cases h1 : fw n W a u with
      | none =>
        have := le2 (fw n W a v) (g v + C)
        show _ ≤ (g u + C) + w
        omega
      | some y =>
        unfold lessO
        dsimp only
        by_cases h : g u + C < y
        · rw [if_pos h]
          have := le2 (fw n W a v) (g v + C)
          unfold lessO at this
          omega
        · rw [if_neg h]
          exact le1 _ _ _ (fw_clo nn ha hv hu ⟨y, h1, Int.le_refl _⟩ (fw_edge hw))
    · simp only [List.mem_singleton, Prod.mk.injEq] at hw
      obtain ⟨rfl, rfl, rfl⟩ := hw
      dsimp only
      have e1 : lessO (fw n W v v) (g v + C) ≤ 0 := by
        obtain ⟨y, h1, h2⟩ := fw_diag (n := n) (W := W) v
        rw [h1]
        unfold lessO; dsimp only; by_cases h : g v + C < y
        · rw [if_pos h]; omega
        · rw [if_neg h]; omega
      have e2 : m + 1 ≤ lessO (fw n W v u) (g u + C) := by
        cases h1 : fw n W v u with
        | none => exact hC2
        | some y =>
          have : m + 1 ≤ y := by
            by_cases h : y ≤ m
            · exact absurd ⟨y, h1, h⟩ hle
            · omega
          unfold lessO; dsimp only; by_cases h : g u + C < y
          · rw [if_pos h]; omega
          · rw [if_neg h]; omega
      omega
/-- the wishes the other way about -/
def rev (W : List Wi) : List Wi := W.map fun w => (w.2.1, w.1, w.2.2)
theorem rev_kept {h : Nat → Int} {W : List Wi} : Kept h (rev W) ↔ Kept (fun v => - h v) W := by
  constructor
  · intro k a b m hm
    have := k b a m (List.mem_map.mpr ⟨(a, b, m), hm, rfl⟩)
    dsimp only
    omega
  · intro k a b m hm
    obtain ⟨⟨u, v, w⟩, h1, h2⟩ := List.mem_map.mp hm
    cases h2
    have := k u v w h1
    dsimp only at this ⊢
    omega
theorem rev_ok {n : Nat} {W : List Wi} (h : Ok n W) : Ok n (rev W) := by
  intro a b m hm
  obtain ⟨⟨u, v, w⟩, h1, h2⟩ := List.mem_map.mp hm
  cases h2
  obtain ⟨a, b, c⟩ := h u v w h1
  exact ⟨b, a, fun e => c e.symm⟩
/-- the soonest moments, by the law's own going up -/
def soon (W : List Wi) (k : Nat) (v : Nat) : Int := - (brounds (rev W) k).x v
def more (n s : Nat) : List Wi := ((List.range n).filter (fun a => a ≠ s)).map fun a => (a, s, (0 : Int))
theorem more_mem {n s a b : Nat} {m : Int} : (a, b, m) ∈ more n s ↔ a < n ∧ a ≠ s ∧ b = s ∧ m = 0 := by
  unfold more
  simp only [List.mem_map, List.mem_filter, List.mem_range, Prod.mk.injEq]
  constructor
  · rintro ⟨c, ⟨h1, h2⟩, rfl, rfl, rfl⟩
    exact ⟨h1, by simpa using h2, rfl, rfl⟩
  · rintro ⟨h1, h2, rfl, rfl⟩
    exact ⟨a, ⟨h1, by simpa using h2⟩, rfl, rfl, rfl⟩
theorem soon_kept {n : Nat} {W : List Wi} (ho : Ok n W) (hf : Feas W) : Kept (soon W (n + 2)) W := by
  obtain ⟨g, hg⟩ := hf
  have hr : Feas (rev W) := ⟨fun v => - g v, rev_kept.mpr (by simpa using hg)⟩
  have hk := rounds_kept (rev_ok ho) hr
  have h2 : (brounds (rev W) (n + 2)).x = (brounds (rev W) (n + 1)).x := round_still hk
  unfold soon
  rw [h2]
  exact rev_kept.mp hk
theorem soon_pos {W : List Wi} {k v : Nat} : 0 ≤ soon W k v := by
  have := rounds_neg (W := rev W) k v
  unfold soon
  omega
theorem soon_low {W : List Wi} {g : Nat → Int} (hg : Kept g W) (h0 : ∀ v, 0 ≤ g v) (k v : Nat) : soon W k v ≤ g v := by
  have := rounds_low (W := rev W) (g := fun v => - g v) (rev_kept.mpr (by simpa using hg)) (fun v => by have := h0 v; omega) k v
  unfold soon
  omega
theorem more_ok {n s : Nat} {W : List Wi} (ho : Ok n W) (hs : s < n) : Ok n (W ++ more n s) := by
  intro a b m hm
  rcases List.mem_append.mp hm with h | h
  · exact ho a b m h
  · obtain ⟨h1, h2, rfl, rfl⟩ := more_mem.mp h
    exact ⟨h1, hs, h2⟩
theorem Kept.cut {n : Nat} {W : List Wi} (ho : Ok n W) {g g' : Nat → Int} (h : Kept g W) (e : ∀ v, v < n → g' v = g v) : Kept g' W := by
  intro a b m hm
  obtain ⟨h1, h2, _⟩ := ho a b m hm
  rw [e a h1, e b h2]
  exact h a b m hm
theorem soon_feas {n s : Nat} {W : List Wi} (ho : Ok n W) (hs : s < n) : Feas (W ++ more n s) ↔ (soon W (n + 2) s = 0 ∧ Kept (soon W (n + 2)) W) := by
  constructor
  · rintro ⟨g, hg⟩
    obtain ⟨k1, k2⟩ := Kept.append.mp hg
    have hf : Feas W := ⟨g, k1⟩
    refine ⟨?_, soon_kept ho hf⟩
    have low : ∀ v, v < n → g s ≤ g v := fun v hv => by
      by_cases e : v = s
      · rw [e]; exact Int.le_refl _
      · have := k2 v s 0 (more_mem.mpr ⟨hv, e, rfl, rfl⟩); omega
    have h1 := soon_low (W := W) (g := fun v => if v < n then g v - g s else 0) (Kept.cut (g := fun v => g v - g s) ho (fun a b m hm => by have := k1 a b m hm; dsimp only; omega) (fun v hv => if_pos hv)) (fun v => by
      by_cases hv : v < n
      · rw [if_pos hv]; have := low v hv; omega
      · rw [if_neg hv]; exact Int.le_refl _) (n + 2) s
    rw [if_pos hs] at h1
    have := soon_pos (W := W) (k := n + 2) (v := s)
    omega
  · rintro ⟨h0, hk⟩
    refine ⟨soon W (n + 2), Kept.append.mpr ⟨hk, fun a b m hm => ?_⟩⟩
    obtain ⟨h1, h2, rfl, rfl⟩ := more_mem.mp hm
    have := soon_pos (W := W) (k := n + 2) (v := a)
    omega
theorem soon_eq {n s : Nat} {W : List Wi} (ho : Ok n W) (hs : s < n) (hf : Feas (W ++ more n s)) {v : Nat} (hv : v < n) : fw n (W ++ more n s) v s = some (- soon W (n + 2) v) := by
  obtain ⟨h0, hk⟩ := (soon_feas ho hs).mp hf
  have hk2 : Kept (soon W (n + 2)) (W ++ more n s) := Kept.append.mpr ⟨hk, fun a b m hm => by
    obtain ⟨h1, h2, rfl, rfl⟩ := more_mem.mp hm
    have := soon_pos (W := W) (k := n + 2) (v := a)
    omega⟩
  have le0 : ∀ u, u < n → Lq (fw n (W ++ more n s) u s) 0 := fun u hu => by
    by_cases e : u = s
    · subst e; exact fw_diag _
    · exact fw_edge (List.mem_append_right _ (more_mem.mpr ⟨hu, e, rfl, rfl⟩))
  obtain ⟨y, h1, h2⟩ := le0 v hv
  rw [h1]
  have e1 := fw_sound _ hk2 v s y h1
  have nn : ∀ c, c < n → NN (fw n (W ++ more n s)) c := fun c _ => fw_nn hf c
  have e2 := soon_low (W := W) (g := fun u => if u < n then - ((fw n (W ++ more n s) u s).getD 0) else 0) (fun a b m hm => by
    obtain ⟨ha, hb, _⟩ := ho a b m hm
    dsimp only
    rw [if_pos ha, if_pos hb]
    obtain ⟨p, p1, p2⟩ := le0 a ha
    obtain ⟨q, q1, q2⟩ := le0 b hb
    have := fw_clo nn ha hs hb (fw_edge (List.mem_append_left _ hm)) ⟨q, q1, Int.le_refl _⟩
    obtain ⟨r, r1, r2⟩ := this
    rw [r1, q1]
    show - q ≤ - r + m
    omega) (fun u => by
    by_cases hu : u < n
    · rw [if_pos hu]
      obtain ⟨p, p1, p2⟩ := le0 u hu
      rw [p1]
      show 0 ≤ - p
      omega
    · rw [if_neg hu]; exact Int.le_refl _) (n + 2) v
  rw [if_pos hv, h1] at e2
  have e2' : soon W (n + 2) v ≤ - y := e2
  congr 1
  omega
end Wsh
namespace K39
open PySem L2 Evl Mir Wsh
def vec {α : Type} (n : Nat) (f : Nat → α) : List α := (List.range n).map f
theorem vec_len {α : Type} {n : Nat} {f : Nat → α} : (vec n f).length = n := by simp [vec]
theorem vec_get {α : Type} {n i : Nat} {f : Nat → α} (h : i < n) : (vec n f)[i]? = some (f i) := by simp [vec, h]
theorem vec_set {α : Type} {n i : Nat} {f : Nat → α} {d : α} : (vec n f).set i d = vec n (up f i d) := by
  apply List.ext_getElem?
  intro j
  unfold vec
  rw [List.getElem?_set, List.getElem?_map, List.getElem?_map]
  by_cases hj : j < n
  · rw [List.getElem?_range hj]
    by_cases e : i = j
    · subst e
      simp [hj, up_eq]
    · simp [e, up_ne (Ne.symm e)]
  · have : (List.range n)[j]? = none := by simp; omega
    rw [this]
    simp
    intro e
    subst e
    omega
theorem ixN_nat {n i : Nat} (h : i < n) : ixN n (i : Int) = some i := by
  unfold ixN
  rw [if_pos (by omega), if_pos (by omega)]
  rfl
theorem atI_vec {α : Type} {n i : Nat} {f : Nat → α} (h : i < n) : atI (vec n f) (i : Int) = some (f i) := by
  unfold atI
  rw [vec_len, ixN_nat h]
  exact vec_get h
theorem atI_get {α : Type} {l : List α} {i : Nat} {a : α} (h : l[i]? = some a) : atI l (i : Int) = some a := by
  unfold atI
  rw [ixN_nat (List.getElem?_eq_some_iff.mp h).1]
  exact h
def isIntD : D → Bool
  | .int _ => true
  | _ => false
theorem is_integer_eq (d : D) : m_is_integer [d] = .ok (.bool (isIntD d)) := by cases d <;> rfl
theorem is_within_int (i a b : Int) : m_is_within [.int i, .int a, .int b] = .ok (.bool (decide (a ≤ i ∧ i ≤ b))) := by
  unfold m_is_within b_is_within
  refine mdef_of ?_
  simp -implicitDefEqProofs only [nr_seq, after_app, nr_nx, nr_rt, br_ok, nr_ite, Int.cast_ofNat_Int, Int.reduceEq, ne_eq, not_true_eq_false, not_false_eq_true, Bool.false_eq_true, if_false, Int.reduceLE, Int.reduceLT, Int.reduceNeg, Int.reduceSub, Int.reduceAdd, decide_eq_true_eq, Bool.or_false, Bool.or_true, true_or, or_true, or_false, false_or, decide_not, bne_self_eq_false, Option.some.injEq, startS, startH, startScr, List.map, List.cons_append, List.nil_append, List.append_nil, List.length_cons, List.length_nil, List.length_set, List.replicate_zero, List.replicate_succ, Nat.reduceAdd, Nat.reduceSub, Nat.reduceLT, Nat.reduceLeDiff, Nat.zero_add, Nat.reduceMul, and_self, and_true, true_and, if_true, reduceIte, decide_true, decide_false, Nat.lt_irrefl, sif, sset, mD, mL, mLL, mLL0, stg, gset, gtup, gcons, gnil, sret, sfl, sdrop, saug, mtest, mnot, mand, mor, mandV, morV, mnotV, mife, mcallQ, mcallH, mcall, mcallL, mcallS, mcallSL, mcons, mnil, mv, mc, mop, mopL, mun, misi, mfrz, mP, pv', pop, mchain, mtrue, mrevL, mit, mitems, mcallScr, mscr, scrOf, mlcomp, oAdd, oSub, oMul, oDiv, oMod, oPow, oLt, oLe, oGt, oGe, o2I, o2IC, oNeg, oIsN, oNotN, oIsB, oNotB, oLst, oTup, oTupS, oLenS, asInt2, spar, spar3, sput, smut, oApp, mixS, slotL, ownL, SV.fz, oItems, oItemsT, oIxT, oIxL, oTupOf, oListOf, oEnumT, oLen, on1, oInt, oAbs, oMax2, oMin2, gput, unwipe, wipeS, oldS, mcallS, oExt, sappL, sapp2, sput2, pix2, pixS, oCatT, oCat, mslT, mpart, mnopart, List.getElem?_cons_zero, List.getElem?_cons_succ, List.set_cons_zero, List.set_cons_succ, ownLL_0, ownLL_1, ownLL_2, ownLL_3, ownLL_4, Rs.bind_ok, toRs_some, lift_some, asInt_int, asList_list, asTup_tup, noErr_ok, obind_some, asBool_bool, Bool.not_true, Bool.not_false, isT, isNone_none, isNone_int, isNone_bool, isNone_tup, isNone_list, ifT, ifF, is_integer_eq, isIntD]
  by_cases h : a ≤ i <;> by_cases h2 : i ≤ b <;> simp [h, h2, isIntD, Rs.bind_ok, noErr_ok, nr_rt]
abbrev wD (w : Wi) : D := .tuple [.int w.1, .int w.2.1, .int w.2.2]
abbrev wsD (W : List Wi) : D := .tuple (W.map wD)
structure Va (n : Nat) (W : List Wi) : Prop where
  pos : 1 ≤ n
  le : n ≤ 30
  len : W.length ≤ 200
  ok : Ok n W
  gap : ∀ a b m, (a, b, m) ∈ W → -10000 ≤ m ∧ m ≤ 10000
theorem oNe_int (i j : Int) : oNe (.int i) (.int j) = some (.bool (decide (i ≠ j))) := by
  unfold oNe
  show some (PyData.bool (!decide (i = j))) = _
  by_cases h : i = j <;> simp [h]
theorem oEq_int (i j : Int) : oEq (.int i) (.int j) = some (.bool (decide (i = j))) := rfl
theorem allBools_map {l : List D} {p : D → Bool} : oAllL (l.map fun d => .bool (p d)) = some (.bool (l.all p)) := by
  have : ∀ l : List D, allBools (l.map fun d => .bool (p d)) = some (l.map p) := by
    intro l
    induction l with
    | nil => rfl
    | cons d l ih => show (allBools (l.map _)).bind _ = _; rw [ih]; rfl
  unfold oAllL
  rw [this]
  simp [List.all_map]
theorem anyBools_map {l : List D} {p : D → Bool} : oAnyL (l.map fun d => .bool (p d)) = some (.bool (l.any p)) := by
  have : ∀ l : List D, allBools (l.map fun d => .bool (p d)) = some (l.map p) := by
    intro l
    induction l with
    | nil => rfl
    | cons d l ih => show (allBools (l.map _)).bind _ = _; rw [ih]; rfl
  unfold oAnyL
  rw [this]
  simp [List.any_map]
theorem ws_len {W : List Wi} : (W.map wD).length = W.length := List.length_map _
theorem all_true {l : List D} : oAllL (l.map fun _ => .bool true) = some (.bool true) := by
  rw [allBools_map (p := fun _ => true)]
  simp
theorem is_row_w (w : Wi) (h1 : w.1 < 30) (h2 : w.2.1 < 30) (h3 : -10000 ≤ w.2.2 ∧ w.2.2 ≤ 10000) : m_is_row [wD w, .int 3, .int (-10000), .int 10000] = .ok (.bool true) := by
  unfold m_is_row b_is_row
  refine mdef_of ?_
  simp -implicitDefEqProofs only [nr_seq, after_app, nr_nx, nr_rt, br_ok, nr_ite, Int.cast_ofNat_Int, Int.reduceEq, ne_eq, not_true_eq_false, not_false_eq_true, Bool.false_eq_true, if_false, Int.reduceLE, Int.reduceLT, Int.reduceNeg, Int.reduceSub, Int.reduceAdd, decide_eq_true_eq, Bool.or_false, Bool.or_true, true_or, or_true, or_false, false_or, decide_not, bne_self_eq_false, Option.some.injEq, startS, startH, startScr, List.map, List.cons_append, List.nil_append, List.append_nil, List.length_cons, List.length_nil, List.length_set, List.replicate_zero, List.replicate_succ, Nat.reduceAdd, Nat.reduceSub, Nat.reduceLT, Nat.reduceLeDiff, Nat.zero_add, Nat.reduceMul, and_self, and_true, true_and, if_true, reduceIte, decide_true, decide_false, Nat.lt_irrefl, sif, sset, mD, mL, mLL, mLL0, stg, gset, gtup, gcons, gnil, sret, sfl, sdrop, saug, mtest, mnot, mand, mor, mandV, morV, mnotV, mife, mcallQ, mcallH, mcall, mcallL, mcallS, mcallSL, mcons, mnil, mv, mc, mop, mopL, mun, misi, mfrz, mP, pv', pop, mchain, mtrue, mrevL, mit, mitems, mcallScr, mscr, scrOf, mlcomp, oAdd, oSub, oMul, oDiv, oMod, oPow, oLt, oLe, oGt, oGe, o2I, o2IC, oNeg, oIsN, oNotN, oIsB, oNotB, oLst, oTup, oTupS, oLenS, asInt2, spar, spar3, sput, smut, oApp, mixS, slotL, ownL, SV.fz, oItems, oItemsT, oIxT, oIxL, oTupOf, oListOf, oEnumT, oLen, on1, oInt, oAbs, oMax2, oMin2, gput, unwipe, wipeS, oldS, mcallS, oExt, sappL, sapp2, sput2, pix2, pixS, oCatT, oCat, mslT, mpart, mnopart, List.getElem?_cons_zero, List.getElem?_cons_succ, List.set_cons_zero, List.set_cons_succ, ownLL_0, ownLL_1, ownLL_2, ownLL_3, ownLL_4, Rs.bind_ok, toRs_some, lift_some, asInt_int, asList_list, asTup_tup, noErr_ok, obind_some, asBool_bool, Bool.not_true, Bool.not_false, isT, isNone_none, isNone_int, isNone_bool, isNone_tup, isNone_list, ifT, ifF, oNe_int, mlcomp]
  rw [mlc_all (v := fun _ => .bool true) _ (fun d hd => ?_)]
  · simp -implicitDefEqProofs only [nr_seq, after_app, nr_nx, nr_rt, br_ok, nr_ite, Int.cast_ofNat_Int, Int.reduceEq, ne_eq, not_true_eq_false, not_false_eq_true, Bool.false_eq_true, if_false, Int.reduceLE, Int.reduceLT, Int.reduceNeg, Int.reduceSub, Int.reduceAdd, decide_eq_true_eq, Bool.or_false, Bool.or_true, true_or, or_true, or_false, false_or, decide_not, bne_self_eq_false, Option.some.injEq, startS, startH, startScr, List.map, List.cons_append, List.nil_append, List.append_nil, List.length_cons, List.length_nil, List.length_set, List.replicate_zero, List.replicate_succ, Nat.reduceAdd, Nat.reduceSub, Nat.reduceLT, Nat.reduceLeDiff, Nat.zero_add, Nat.reduceMul, and_self, and_true, true_and, if_true, reduceIte, decide_true, decide_false, Nat.lt_irrefl, sif, sset, mD, mL, mLL, mLL0, stg, gset, gtup, gcons, gnil, sret, sfl, sdrop, saug, mtest, mnot, mand, mor, mandV, morV, mnotV, mife, mcallQ, mcallH, mcall, mcallL, mcallS, mcallSL, mcons, mnil, mv, mc, mop, mopL, mun, misi, mfrz, mP, pv', pop, mchain, mtrue, mrevL, mit, mitems, mcallScr, mscr, scrOf, mlcomp, oAdd, oSub, oMul, oDiv, oMod, oPow, oLt, oLe, oGt, oGe, o2I, o2IC, oNeg, oIsN, oNotN, oIsB, oNotB, oLst, oTup, oTupS, oLenS, asInt2, spar, spar3, sput, smut, oApp, mixS, slotL, ownL, SV.fz, oItems, oItemsT, oIxT, oIxL, oTupOf, oListOf, oEnumT, oLen, on1, oInt, oAbs, oMax2, oMin2, gput, unwipe, wipeS, oldS, mcallS, oExt, sappL, sapp2, sput2, pix2, pixS, oCatT, oCat, mslT, mpart, mnopart, List.getElem?_cons_zero, List.getElem?_cons_succ, List.set_cons_zero, List.set_cons_succ, ownLL_0, ownLL_1, ownLL_2, ownLL_3, ownLL_4, Rs.bind_ok, toRs_some, lift_some, asInt_int, asList_list, asTup_tup, noErr_ok, obind_some, asBool_bool, Bool.not_true, Bool.not_false, isT, isNone_none, isNone_int, isNone_bool, isNone_tup, isNone_list, ifT, ifF, show oAllL [PyData.bool true, PyData.bool true, PyData.bool true] = some (.bool true) from rfl]
  · simp only [List.mem_cons, List.not_mem_nil, or_false] at hd
    rcases hd with rfl | rfl | rfl
    · simp -implicitDefEqProofs only [nr_seq, after_app, nr_nx, nr_rt, br_ok, nr_ite, Int.cast_ofNat_Int, Int.reduceEq, ne_eq, not_true_eq_false, not_false_eq_true, Bool.false_eq_true, if_false, Int.reduceLE, Int.reduceLT, Int.reduceNeg, Int.reduceSub, Int.reduceAdd, decide_eq_true_eq, Bool.or_false, Bool.or_true, true_or, or_true, or_false, false_or, decide_not, bne_self_eq_false, Option.some.injEq, startS, startH, startScr, List.map, List.cons_append, List.nil_append, List.append_nil, List.length_cons, List.length_nil, List.length_set, List.replicate_zero, List.replicate_succ, Nat.reduceAdd, Nat.reduceSub, Nat.reduceLT, Nat.reduceLeDiff, Nat.zero_add, Nat.reduceMul, and_self, and_true, true_and, if_true, reduceIte, decide_true, decide_false, Nat.lt_irrefl, sif, sset, mD, mL, mLL, mLL0, stg, gset, gtup, gcons, gnil, sret, sfl, sdrop, saug, mtest, mnot, mand, mor, mandV, morV, mnotV, mife, mcallQ, mcallH, mcall, mcallL, mcallS, mcallSL, mcons, mnil, mv, mc, mop, mopL, mun, misi, mfrz, mP, pv', pop, mchain, mtrue, mrevL, mit, mitems, mcallScr, mscr, scrOf, mlcomp, oAdd, oSub, oMul, oDiv, oMod, oPow, oLt, oLe, oGt, oGe, o2I, o2IC, oNeg, oIsN, oNotN, oIsB, oNotB, oLst, oTup, oTupS, oLenS, asInt2, spar, spar3, sput, smut, oApp, mixS, slotL, ownL, SV.fz, oItems, oItemsT, oIxT, oIxL, oTupOf, oListOf, oEnumT, oLen, on1, oInt, oAbs, oMax2, oMin2, gput, unwipe, wipeS, oldS, mcallS, oExt, sappL, sapp2, sput2, pix2, pixS, oCatT, oCat, mslT, mpart, mnopart, List.getElem?_cons_zero, List.getElem?_cons_succ, List.set_cons_zero, List.set_cons_succ, ownLL_0, ownLL_1, ownLL_2, ownLL_3, ownLL_4, Rs.bind_ok, toRs_some, lift_some, asInt_int, asList_list, asTup_tup, noErr_ok, obind_some, asBool_bool, Bool.not_true, Bool.not_false, isT, isNone_none, isNone_int, isNone_bool, isNone_tup, isNone_list, ifT, ifF, is_within_int]
      rw [decide_eq_true (by omega)]
    · simp -implicitDefEqProofs only [nr_seq, after_app, nr_nx, nr_rt, br_ok, nr_ite, Int.cast_ofNat_Int, Int.reduceEq, ne_eq, not_true_eq_false, not_false_eq_true, Bool.false_eq_true, if_false, Int.reduceLE, Int.reduceLT, Int.reduceNeg, Int.reduceSub, Int.reduceAdd, decide_eq_true_eq, Bool.or_false, Bool.or_true, true_or, or_true, or_false, false_or, decide_not, bne_self_eq_false, Option.some.injEq, startS, startH, startScr, List.map, List.cons_append, List.nil_append, List.append_nil, List.length_cons, List.length_nil, List.length_set, List.replicate_zero, List.replicate_succ, Nat.reduceAdd, Nat.reduceSub, Nat.reduceLT, Nat.reduceLeDiff, Nat.zero_add, Nat.reduceMul, and_self, and_true, true_and, if_true, reduceIte, decide_true, decide_false, Nat.lt_irrefl, sif, sset, mD, mL, mLL, mLL0, stg, gset, gtup, gcons, gnil, sret, sfl, sdrop, saug, mtest, mnot, mand, mor, mandV, morV, mnotV, mife, mcallQ, mcallH, mcall, mcallL, mcallS, mcallSL, mcons, mnil, mv, mc, mop, mopL, mun, misi, mfrz, mP, pv', pop, mchain, mtrue, mrevL, mit, mitems, mcallScr, mscr, scrOf, mlcomp, oAdd, oSub, oMul, oDiv, oMod, oPow, oLt, oLe, oGt, oGe, o2I, o2IC, oNeg, oIsN, oNotN, oIsB, oNotB, oLst, oTup, oTupS, oLenS, asInt2, spar, spar3, sput, smut, oApp, mixS, slotL, ownL, SV.fz, oItems, oItemsT, oIxT, oIxL, oTupOf, oListOf, oEnumT, oLen, on1, oInt, oAbs, oMax2, oMin2, gput, unwipe, wipeS, oldS, mcallS, oExt, sappL, sapp2, sput2, pix2, pixS, oCatT, oCat, mslT, mpart, mnopart, List.getElem?_cons_zero, List.getElem?_cons_succ, List.set_cons_zero, List.set_cons_succ, ownLL_0, ownLL_1, ownLL_2, ownLL_3, ownLL_4, Rs.bind_ok, toRs_some, lift_some, asInt_int, asList_list, asTup_tup, noErr_ok, obind_some, asBool_bool, Bool.not_true, Bool.not_false, isT, isNone_none, isNone_int, isNone_bool, isNone_tup, isNone_list, ifT, ifF, is_within_int]
      rw [decide_eq_true (by omega)]
    · simp -implicitDefEqProofs only [nr_seq, after_app, nr_nx, nr_rt, br_ok, nr_ite, Int.cast_ofNat_Int, Int.reduceEq, ne_eq, not_true_eq_false, not_false_eq_true, Bool.false_eq_true, if_false, Int.reduceLE, Int.reduceLT, Int.reduceNeg, Int.reduceSub, Int.reduceAdd, decide_eq_true_eq, Bool.or_false, Bool.or_true, true_or, or_true, or_false, false_or, decide_not, bne_self_eq_false, Option.some.injEq, startS, startH, startScr, List.map, List.cons_append, List.nil_append, List.append_nil, List.length_cons, List.length_nil, List.length_set, List.replicate_zero, List.replicate_succ, Nat.reduceAdd, Nat.reduceSub, Nat.reduceLT, Nat.reduceLeDiff, Nat.zero_add, Nat.reduceMul, and_self, and_true, true_and, if_true, reduceIte, decide_true, decide_false, Nat.lt_irrefl, sif, sset, mD, mL, mLL, mLL0, stg, gset, gtup, gcons, gnil, sret, sfl, sdrop, saug, mtest, mnot, mand, mor, mandV, morV, mnotV, mife, mcallQ, mcallH, mcall, mcallL, mcallS, mcallSL, mcons, mnil, mv, mc, mop, mopL, mun, misi, mfrz, mP, pv', pop, mchain, mtrue, mrevL, mit, mitems, mcallScr, mscr, scrOf, mlcomp, oAdd, oSub, oMul, oDiv, oMod, oPow, oLt, oLe, oGt, oGe, o2I, o2IC, oNeg, oIsN, oNotN, oIsB, oNotB, oLst, oTup, oTupS, oLenS, asInt2, spar, spar3, sput, smut, oApp, mixS, slotL, ownL, SV.fz, oItems, oItemsT, oIxT, oIxL, oTupOf, oListOf, oEnumT, oLen, on1, oInt, oAbs, oMax2, oMin2, gput, unwipe, wipeS, oldS, mcallS, oExt, sappL, sapp2, sput2, pix2, pixS, oCatT, oCat, mslT, mpart, mnopart, List.getElem?_cons_zero, List.getElem?_cons_succ, List.set_cons_zero, List.set_cons_succ, ownLL_0, ownLL_1, ownLL_2, ownLL_3, ownLL_4, Rs.bind_ok, toRs_some, lift_some, asInt_int, asList_list, asTup_tup, noErr_ok, obind_some, asBool_bool, Bool.not_true, Bool.not_false, isT, isNone_none, isNone_int, isNone_bool, isNone_tup, isNone_list, ifT, ifF, is_within_int]
      rw [decide_eq_true (by omega)]
theorem ws_mem {W : List Wi} {d : D} (h : d ∈ W.map wD) : ∃ a b m, (a, b, m) ∈ W ∧ d = .tuple [.int a, .int b, .int m] := by
  obtain ⟨⟨a, b, m⟩, h1, rfl⟩ := List.mem_map.mp h
  exact ⟨a, b, m, h1, rfl⟩
theorem is_wishes_va {n : Nat} {W : List Wi} (h : Va n W) : m_is_wishes [.int n, wsD W] = .ok (.bool true) := by
  have hl := h.len
  have h1 : (1 : Int) ≤ n := by have := h.pos; omega
  have h2 : (n : Int) ≤ 30 := by have := h.le; omega
  have h3 : ¬ (200 : Int) < (W.length : Int) := by omega
  have h4 : W.length ≤ 100000 := by omega
  unfold m_is_wishes b_is_wishes
  refine mdef_of ?_
  simp -implicitDefEqProofs only [nr_seq, after_app, nr_nx, nr_rt, br_ok, nr_ite, Int.cast_ofNat_Int, Int.reduceEq, ne_eq, not_true_eq_false, not_false_eq_true, Bool.false_eq_true, if_false, Int.reduceLE, Int.reduceLT, Int.reduceNeg, Int.reduceSub, Int.reduceAdd, decide_eq_true_eq, Bool.or_false, Bool.or_true, true_or, or_true, or_false, false_or, decide_not, bne_self_eq_false, Option.some.injEq, startS, startH, startScr, List.map, List.cons_append, List.nil_append, List.append_nil, List.length_cons, List.length_nil, List.length_set, List.replicate_zero, List.replicate_succ, Nat.reduceAdd, Nat.reduceSub, Nat.reduceLT, Nat.reduceLeDiff, Nat.zero_add, Nat.reduceMul, and_self, and_true, true_and, if_true, reduceIte, decide_true, decide_false, Nat.lt_irrefl, sif, sset, mD, mL, mLL, mLL0, stg, gset, gtup, gcons, gnil, sret, sfl, sdrop, saug, mtest, mnot, mand, mor, mandV, morV, mnotV, mife, mcallQ, mcallH, mcall, mcallL, mcallS, mcallSL, mcons, mnil, mv, mc, mop, mopL, mun, misi, mfrz, mP, pv', pop, mchain, mtrue, mrevL, mit, mitems, mcallScr, mscr, scrOf, mlcomp, oAdd, oSub, oMul, oDiv, oMod, oPow, oLt, oLe, oGt, oGe, o2I, o2IC, oNeg, oIsN, oNotN, oIsB, oNotB, oLst, oTup, oTupS, oLenS, asInt2, spar, spar3, sput, smut, oApp, mixS, slotL, ownL, SV.fz, oItems, oItemsT, oIxT, oIxL, oTupOf, oListOf, oEnumT, oLen, on1, oInt, oAbs, oMax2, oMin2, gput, unwipe, wipeS, oldS, mcallS, oExt, sappL, sapp2, sput2, pix2, pixS, oCatT, oCat, mslT, mpart, mnopart, List.getElem?_cons_zero, List.getElem?_cons_succ, List.set_cons_zero, List.set_cons_succ, ownLL_0, ownLL_1, ownLL_2, ownLL_3, ownLL_4, Rs.bind_ok, toRs_some, lift_some, asInt_int, asList_list, asTup_tup, noErr_ok, obind_some, asBool_bool, Bool.not_true, Bool.not_false, isT, isNone_none, isNone_int, isNone_bool, isNone_tup, isNone_list, ifT, ifF, is_within_int, mlcomp, ws_len, h1, h2, h3, h4]
  rw [mlc_all (v := fun _ => .bool true) _ (fun d hd => ?_)]
  · simp -implicitDefEqProofs only [nr_seq, after_app, nr_nx, nr_rt, br_ok, nr_ite, Int.cast_ofNat_Int, Int.reduceEq, ne_eq, not_true_eq_false, not_false_eq_true, Bool.false_eq_true, if_false, Int.reduceLE, Int.reduceLT, Int.reduceNeg, Int.reduceSub, Int.reduceAdd, decide_eq_true_eq, Bool.or_false, Bool.or_true, true_or, or_true, or_false, false_or, decide_not, bne_self_eq_false, Option.some.injEq, startS, startH, startScr, List.map, List.cons_append, List.nil_append, List.append_nil, List.length_cons, List.length_nil, List.length_set, List.replicate_zero, List.replicate_succ, Nat.reduceAdd, Nat.reduceSub, Nat.reduceLT, Nat.reduceLeDiff, Nat.zero_add, Nat.reduceMul, and_self, and_true, true_and, if_true, reduceIte, decide_true, decide_false, Nat.lt_irrefl, sif, sset, mD, mL, mLL, mLL0, stg, gset, gtup, gcons, gnil, sret, sfl, sdrop, saug, mtest, mnot, mand, mor, mandV, morV, mnotV, mife, mcallQ, mcallH, mcall, mcallL, mcallS, mcallSL, mcons, mnil, mv, mc, mop, mopL, mun, misi, mfrz, mP, pv', pop, mchain, mtrue, mrevL, mit, mitems, mcallScr, mscr, scrOf, mlcomp, oAdd, oSub, oMul, oDiv, oMod, oPow, oLt, oLe, oGt, oGe, o2I, o2IC, oNeg, oIsN, oNotN, oIsB, oNotB, oLst, oTup, oTupS, oLenS, asInt2, spar, spar3, sput, smut, oApp, mixS, slotL, ownL, SV.fz, oItems, oItemsT, oIxT, oIxL, oTupOf, oListOf, oEnumT, oLen, on1, oInt, oAbs, oMax2, oMin2, gput, unwipe, wipeS, oldS, mcallS, oExt, sappL, sapp2, sput2, pix2, pixS, oCatT, oCat, mslT, mpart, mnopart, List.getElem?_cons_zero, List.getElem?_cons_succ, List.set_cons_zero, List.set_cons_succ, ownLL_0, ownLL_1, ownLL_2, ownLL_3, ownLL_4, Rs.bind_ok, toRs_some, lift_some, asInt_int, asList_list, asTup_tup, noErr_ok, obind_some, asBool_bool, Bool.not_true, Bool.not_false, isT, isNone_none, isNone_int, isNone_bool, isNone_tup, isNone_list, ifT, ifF, all_true, h4, ws_len]
    rw [mlc_all (v := fun _ => .bool true) _ (fun d hd => ?_)]
    · simp -implicitDefEqProofs only [nr_seq, after_app, nr_nx, nr_rt, br_ok, nr_ite, Int.cast_ofNat_Int, Int.reduceEq, ne_eq, not_true_eq_false, not_false_eq_true, Bool.false_eq_true, if_false, Int.reduceLE, Int.reduceLT, Int.reduceNeg, Int.reduceSub, Int.reduceAdd, decide_eq_true_eq, Bool.or_false, Bool.or_true, true_or, or_true, or_false, false_or, decide_not, bne_self_eq_false, Option.some.injEq, startS, startH, startScr, List.map, List.cons_append, List.nil_append, List.append_nil, List.length_cons, List.length_nil, List.length_set, List.replicate_zero, List.replicate_succ, Nat.reduceAdd, Nat.reduceSub, Nat.reduceLT, Nat.reduceLeDiff, Nat.zero_add, Nat.reduceMul, and_self, and_true, true_and, if_true, reduceIte, decide_true, decide_false, Nat.lt_irrefl, sif, sset, mD, mL, mLL, mLL0, stg, gset, gtup, gcons, gnil, sret, sfl, sdrop, saug, mtest, mnot, mand, mor, mandV, morV, mnotV, mife, mcallQ, mcallH, mcall, mcallL, mcallS, mcallSL, mcons, mnil, mv, mc, mop, mopL, mun, misi, mfrz, mP, pv', pop, mchain, mtrue, mrevL, mit, mitems, mcallScr, mscr, scrOf, mlcomp, oAdd, oSub, oMul, oDiv, oMod, oPow, oLt, oLe, oGt, oGe, o2I, o2IC, oNeg, oIsN, oNotN, oIsB, oNotB, oLst, oTup, oTupS, oLenS, asInt2, spar, spar3, sput, smut, oApp, mixS, slotL, ownL, SV.fz, oItems, oItemsT, oIxT, oIxL, oTupOf, oListOf, oEnumT, oLen, on1, oInt, oAbs, oMax2, oMin2, gput, unwipe, wipeS, oldS, mcallS, oExt, sappL, sapp2, sput2, pix2, pixS, oCatT, oCat, mslT, mpart, mnopart, List.getElem?_cons_zero, List.getElem?_cons_succ, List.set_cons_zero, List.set_cons_succ, ownLL_0, ownLL_1, ownLL_2, ownLL_3, ownLL_4, Rs.bind_ok, toRs_some, lift_some, asInt_int, asList_list, asTup_tup, noErr_ok, obind_some, asBool_bool, Bool.not_true, Bool.not_false, isT, isNone_none, isNone_int, isNone_bool, isNone_tup, isNone_list, ifT, ifF, all_true]
    · obtain ⟨a, b, m, hm, rfl⟩ := ws_mem hd
      obtain ⟨q1, q2, q3⟩ := h.ok a b m hm
      simp -implicitDefEqProofs only [nr_seq, after_app, nr_nx, nr_rt, br_ok, nr_ite, Int.cast_ofNat_Int, Int.reduceEq, ne_eq, not_true_eq_false, not_false_eq_true, Bool.false_eq_true, if_false, Int.reduceLE, Int.reduceLT, Int.reduceNeg, Int.reduceSub, Int.reduceAdd, decide_eq_true_eq, Bool.or_false, Bool.or_true, true_or, or_true, or_false, false_or, decide_not, bne_self_eq_false, Option.some.injEq, startS, startH, startScr, List.map, List.cons_append, List.nil_append, List.append_nil, List.length_cons, List.length_nil, List.length_set, List.replicate_zero, List.replicate_succ, Nat.reduceAdd, Nat.reduceSub, Nat.reduceLT, Nat.reduceLeDiff, Nat.zero_add, Nat.reduceMul, and_self, and_true, true_and, if_true, reduceIte, decide_true, decide_false, Nat.lt_irrefl, sif, sset, mD, mL, mLL, mLL0, stg, gset, gtup, gcons, gnil, sret, sfl, sdrop, saug, mtest, mnot, mand, mor, mandV, morV, mnotV, mife, mcallQ, mcallH, mcall, mcallL, mcallS, mcallSL, mcons, mnil, mv, mc, mop, mopL, mun, misi, mfrz, mP, pv', pop, mchain, mtrue, mrevL, mit, mitems, mcallScr, mscr, scrOf, mlcomp, oAdd, oSub, oMul, oDiv, oMod, oPow, oLt, oLe, oGt, oGe, o2I, o2IC, oNeg, oIsN, oNotN, oIsB, oNotB, oLst, oTup, oTupS, oLenS, asInt2, spar, spar3, sput, smut, oApp, mixS, slotL, ownL, SV.fz, oItems, oItemsT, oIxT, oIxL, oTupOf, oListOf, oEnumT, oLen, on1, oInt, oAbs, oMax2, oMin2, gput, unwipe, wipeS, oldS, mcallS, oExt, sappL, sapp2, sput2, pix2, pixS, oCatT, oCat, mslT, mpart, mnopart, List.getElem?_cons_zero, List.getElem?_cons_succ, List.set_cons_zero, List.set_cons_succ, ownLL_0, ownLL_1, ownLL_2, ownLL_3, ownLL_4, Rs.bind_ok, toRs_some, lift_some, asInt_int, asList_list, asTup_tup, noErr_ok, obind_some, asBool_bool, Bool.not_true, Bool.not_false, isT, isNone_none, isNone_int, isNone_bool, isNone_tup, isNone_list, ifT, ifF, show (0 : Int) ≤ (a : Int) by omega, show (a : Int) < (n : Int) by omega, show (0 : Int) ≤ (b : Int) by omega, show (b : Int) < (n : Int) by omega, oNe_int, show ¬ ((a : Int) = (b : Int)) by omega]
  · obtain ⟨a, b, m, hm, rfl⟩ := ws_mem hd
    obtain ⟨q1, q2, q3⟩ := h.ok a b m hm
    have q4 := h.gap a b m hm
    have q5 := is_row_w (a, b, m) (by have := h.le; dsimp only; omega) (by have := h.le; dsimp only; omega) q4
    simp -implicitDefEqProofs only [nr_seq, after_app, nr_nx, nr_rt, br_ok, nr_ite, Int.cast_ofNat_Int, Int.reduceEq, ne_eq, not_true_eq_false, not_false_eq_true, Bool.false_eq_true, if_false, Int.reduceLE, Int.reduceLT, Int.reduceNeg, Int.reduceSub, Int.reduceAdd, decide_eq_true_eq, Bool.or_false, Bool.or_true, true_or, or_true, or_false, false_or, decide_not, bne_self_eq_false, Option.some.injEq, startS, startH, startScr, List.map, List.cons_append, List.nil_append, List.append_nil, List.length_cons, List.length_nil, List.length_set, List.replicate_zero, List.replicate_succ, Nat.reduceAdd, Nat.reduceSub, Nat.reduceLT, Nat.reduceLeDiff, Nat.zero_add, Nat.reduceMul, and_self, and_true, true_and, if_true, reduceIte, decide_true, decide_false, Nat.lt_irrefl, sif, sset, mD, mL, mLL, mLL0, stg, gset, gtup, gcons, gnil, sret, sfl, sdrop, saug, mtest, mnot, mand, mor, mandV, morV, mnotV, mife, mcallQ, mcallH, mcall, mcallL, mcallS, mcallSL, mcons, mnil, mv, mc, mop, mopL, mun, misi, mfrz, mP, pv', pop, mchain, mtrue, mrevL, mit, mitems, mcallScr, mscr, scrOf, mlcomp, oAdd, oSub, oMul, oDiv, oMod, oPow, oLt, oLe, oGt, oGe, o2I, o2IC, oNeg, oIsN, oNotN, oIsB, oNotB, oLst, oTup, oTupS, oLenS, asInt2, spar, spar3, sput, smut, oApp, mixS, slotL, ownL, SV.fz, oItems, oItemsT, oIxT, oIxL, oTupOf, oListOf, oEnumT, oLen, on1, oInt, oAbs, oMax2, oMin2, gput, unwipe, wipeS, oldS, mcallS, oExt, sappL, sapp2, sput2, pix2, pixS, oCatT, oCat, mslT, mpart, mnopart, List.getElem?_cons_zero, List.getElem?_cons_succ, List.set_cons_zero, List.set_cons_succ, ownLL_0, ownLL_1, ownLL_2, ownLL_3, ownLL_4, Rs.bind_ok, toRs_some, lift_some, asInt_int, asList_list, asTup_tup, noErr_ok, obind_some, asBool_bool, Bool.not_true, Bool.not_false, isT, isNone_none, isNone_int, isNone_bool, isNone_tup, isNone_list, ifT, ifF, show - (10000 : Int) = -10000 from rfl, q5]
theorem check_va {n : Nat} {W : List Wi} (h : Va n W) : m_check_wishes [.int n, wsD W] = .ok .none := by
  unfold m_check_wishes b_check_wishes
  refine mdef_of ?_
  simp -implicitDefEqProofs only [nr_seq, after_app, nr_nx, nr_rt, br_ok, nr_ite, Int.cast_ofNat_Int, Int.reduceEq, ne_eq, not_true_eq_false, not_false_eq_true, Bool.false_eq_true, if_false, Int.reduceLE, Int.reduceLT, Int.reduceNeg, Int.reduceSub, Int.reduceAdd, decide_eq_true_eq, Bool.or_false, Bool.or_true, true_or, or_true, or_false, false_or, decide_not, bne_self_eq_false, Option.some.injEq, startS, startH, startScr, List.map, List.cons_append, List.nil_append, List.append_nil, List.length_cons, List.length_nil, List.length_set, List.replicate_zero, List.replicate_succ, Nat.reduceAdd, Nat.reduceSub, Nat.reduceLT, Nat.reduceLeDiff, Nat.zero_add, Nat.reduceMul, and_self, and_true, true_and, if_true, reduceIte, decide_true, decide_false, Nat.lt_irrefl, sif, sset, mD, mL, mLL, mLL0, stg, gset, gtup, gcons, gnil, sret, sfl, sdrop, saug, mtest, mnot, mand, mor, mandV, morV, mnotV, mife, mcallQ, mcallH, mcall, mcallL, mcallS, mcallSL, mcons, mnil, mv, mc, mop, mopL, mun, misi, mfrz, mP, pv', pop, mchain, mtrue, mrevL, mit, mitems, mcallScr, mscr, scrOf, mlcomp, oAdd, oSub, oMul, oDiv, oMod, oPow, oLt, oLe, oGt, oGe, o2I, o2IC, oNeg, oIsN, oNotN, oIsB, oNotB, oLst, oTup, oTupS, oLenS, asInt2, spar, spar3, sput, smut, oApp, mixS, slotL, ownL, SV.fz, oItems, oItemsT, oIxT, oIxL, oTupOf, oListOf, oEnumT, oLen, on1, oInt, oAbs, oMax2, oMin2, gput, unwipe, wipeS, oldS, mcallS, oExt, sappL, sapp2, sput2, pix2, pixS, oCatT, oCat, mslT, mpart, mnopart, List.getElem?_cons_zero, List.getElem?_cons_succ, List.set_cons_zero, List.set_cons_succ, ownLL_0, ownLL_1, ownLL_2, ownLL_3, ownLL_4, Rs.bind_ok, toRs_some, lift_some, asInt_int, asList_list, asTup_tup, noErr_ok, obind_some, asBool_bool, Bool.not_true, Bool.not_false, isT, isNone_none, isNone_int, isNone_bool, isNone_tup, isNone_list, ifT, ifF, is_wishes_va h]
def optD : Option Nat → D
  | none => .none
  | some i => .int i
theorem rep_vec {n : Nat} {d : D} (h : n ≤ 30) : oRep (.list [d]) (.int n) = some (vec n fun _ => d) := by
  have hc : (n : Int) < 100000 ∧ -100000 < (n : Int) ∧ [d].length * (n : Int).toNat ≤ 100000 := ⟨by omega, by omega, by rw [List.length_singleton]; omega⟩
  have hv : (List.replicate n [d]).flatten = vec n fun _ => d := by
    unfold vec
    rw [List.flatten_replicate_singleton]
    exact (List.eq_replicate_iff.mpr ⟨by simp, by simp⟩).symm
  unfold oRep
  rw [asList_list, obind_some, asInt_int, obind_some]
  split
  · rw [Int.toNat_natCast, hv]
  · rename_i hx
    exact absurd hc hx
theorem range1_nat {n : Nat} (h : n ≤ 100000) : oRange1 [.int (n : Int)] = some (rangeD 0 n) := by
  unfold oRange1
  dsimp only
  rw [if_pos (by omega), if_pos (by omega), Int.toNat_natCast]
theorem range1_of {z : Int} {k : Nat} (e : z = k) (h : k ≤ 100000) : oRange1 [.int z] = some (rangeD 0 k) := e ▸ range1_nat h
theorem rangeD_len {n : Nat} : (rangeD 0 n).length = n := by simp [rangeD]
theorem rangeD_get {n i : Nat} {d : D} (h : (rangeD 0 n)[i]? = some d) : i < n ∧ d = .int i := by
  unfold rangeD at h
  rw [List.getElem?_map] at h
  by_cases hi : i < n
  · rw [List.getElem?_range hi] at h
    simp only [Option.map_some, Option.some.injEq, Int.zero_add] at h
    exact ⟨hi, h.symm⟩
  · have : (List.range n)[i]? = none := by simp; omega
    rw [this] at h
    cases h
theorem enum_get {W : List Wi} {i : Nat} {d : D} (h : (enumD (W.map wD))[i]? = some d) : ∃ a b m, W[i]? = some (a, b, m) ∧ d = .tuple [.int (i : Nat), .tuple [.int a, .int b, .int m]] := by
  obtain ⟨x, h1, rfl⟩ := enumD_get h
  rw [List.getElem?_map] at h1
  cases h2 : W[i]? with
  | none => rw [h2] at h1; cases h1
  | some w =>
    rw [h2] at h1
    cases h1
    exact ⟨w.1, w.2.1, w.2.2, rfl, rfl⟩
theorem enum_len {ds : List D} : (enumD ds).length = ds.length := by simp [enumD]
theorem steps_snoc : ∀ (ws : List Wi) (s : Se) (i : Nat) (w : Wi), bsteps s i (ws ++ [w]) = bstep (bsteps s i ws) (i + ws.length) w
  | [], _, _, _ => rfl
  | x :: ws, s, i, w => by
    show bsteps (bstep s i x) (i + 1) (ws ++ [w]) = _
    rw [steps_snoc ws]
    show bstep (bsteps (bstep s i x) (i + 1) ws) (i + 1 + ws.length) w = bstep (bsteps (bstep s i x) (i + 1) ws) (i + (ws.length + 1)) w
    rw [show i + 1 + ws.length = i + (ws.length + 1) by omega]
theorem steps_take {W : List Wi} {s : Se} {j : Nat} {w : Wi} (h : W[j]? = some w) : bsteps s 0 (W.take (j + 1)) = bstep (bsteps s 0 (W.take j)) j w := by
  obtain ⟨hl, _⟩ := List.getElem?_eq_some_iff.mp h
  rw [List.take_add_one, h]
  show bsteps s 0 (W.take j ++ [w]) = _
  rw [steps_snoc, Nat.zero_add, List.length_take, Nat.min_eq_left (by omega)]
def setD (n : Nat) (s : Se) : D := .tuple [.list (vec n fun v => .int (s.x v)), .list (vec n fun v => optD (s.by_ v)), optD s.last]
theorem optD_none {o : Option Nat} : isNone (optD o) = o.isNone := by cases o <;> rfl
theorem settled_eq {n : Nat} {W : List Wi} (h : Va n W) : m_settled [.int n, wsD W] = .ok (setD n (bsettle W (n + 1) bstart)) := by
  have hn := h.le
  have hl := h.len
  generalize hF : bsettle W (n + 1) bstart = Fi
  unfold m_settled b_settled
  refine mdef_of ?_
  simp -implicitDefEqProofs only [nr_seq, after_app, nr_nx, nr_rt, br_ok, nr_ite, Int.cast_ofNat_Int, Int.reduceEq, ne_eq, not_true_eq_false, not_false_eq_true, Bool.false_eq_true, if_false, Int.reduceLE, Int.reduceLT, Int.reduceNeg, Int.reduceSub, Int.reduceAdd, decide_eq_true_eq, Bool.or_false, Bool.or_true, true_or, or_true, or_false, false_or, decide_not, bne_self_eq_false, Option.some.injEq, startS, startH, startScr, List.map, List.cons_append, List.nil_append, List.append_nil, List.length_cons, List.length_nil, List.length_set, List.replicate_zero, List.replicate_succ, Nat.reduceAdd, Nat.reduceSub, Nat.reduceLT, Nat.reduceLeDiff, Nat.zero_add, Nat.reduceMul, and_self, and_true, true_and, if_true, reduceIte, decide_true, decide_false, Nat.lt_irrefl, sif, sset, mD, mL, mLL, mLL0, stg, gset, gtup, gcons, gnil, sret, sfl, sdrop, saug, mtest, mnot, mand, mor, mandV, morV, mnotV, mife, mcallQ, mcallH, mcall, mcallL, mcallS, mcallSL, mcons, mnil, mv, mc, mop, mopL, mun, misi, mfrz, mP, pv', pop, mchain, mtrue, mrevL, mit, mitems, mcallScr, mscr, scrOf, mlcomp, oAdd, oSub, oMul, oDiv, oMod, oPow, oLt, oLe, oGt, oGe, o2I, o2IC, oNeg, oIsN, oNotN, oIsB, oNotB, oLst, oTup, oTupS, oLenS, asInt2, spar, spar3, sput, smut, oApp, mixS, slotL, ownL, SV.fz, oItems, oItemsT, oIxT, oIxL, oTupOf, oListOf, oEnumT, oLen, on1, oInt, oAbs, oMax2, oMin2, gput, unwipe, wipeS, oldS, mcallS, oExt, sappL, sapp2, sput2, pix2, pixS, oCatT, oCat, mslT, mpart, mnopart, List.getElem?_cons_zero, List.getElem?_cons_succ, List.set_cons_zero, List.set_cons_succ, ownLL_0, ownLL_1, ownLL_2, ownLL_3, ownLL_4, Rs.bind_ok, toRs_some, lift_some, asInt_int, asList_list, asTup_tup, noErr_ok, obind_some, asBool_bool, Bool.not_true, Bool.not_false, isT, isNone_none, isNone_int, isNone_bool, isNone_tup, isNone_list, ifT, ifF, rep_vec hn]
  refine nr_fors (P := fun i s => ∃ st x5 x6 x7 x8 x9, i ≤ n + 1 ∧ bsettle W (n + 1 - i) st = Fi ∧ s = [some (.d (.int n)), some (.d (wsD W)), some (.ol (vec n fun v => .int (st.x v))), some (.ol (vec n fun v => optD (st.by_ v))), some (.d (optD st.last)), x5, x6, x7, x8, x9])
    (ds := rangeD 0 (n + 1)) ?_ ?_ ?_ ?_
  · simp -implicitDefEqProofs only [nr_seq, after_app, nr_nx, nr_rt, br_ok, nr_ite, Int.cast_ofNat_Int, Int.reduceEq, ne_eq, not_true_eq_false, not_false_eq_true, Bool.false_eq_true, if_false, Int.reduceLE, Int.reduceLT, Int.reduceNeg, Int.reduceSub, Int.reduceAdd, decide_eq_true_eq, Bool.or_false, Bool.or_true, true_or, or_true, or_false, false_or, decide_not, bne_self_eq_false, Option.some.injEq, startS, startH, startScr, List.map, List.cons_append, List.nil_append, List.append_nil, List.length_cons, List.length_nil, List.length_set, List.replicate_zero, List.replicate_succ, Nat.reduceAdd, Nat.reduceSub, Nat.reduceLT, Nat.reduceLeDiff, Nat.zero_add, Nat.reduceMul, and_self, and_true, true_and, if_true, reduceIte, decide_true, decide_false, Nat.lt_irrefl, sif, sset, mD, mL, mLL, mLL0, stg, gset, gtup, gcons, gnil, sret, sfl, sdrop, saug, mtest, mnot, mand, mor, mandV, morV, mnotV, mife, mcallQ, mcallH, mcall, mcallL, mcallS, mcallSL, mcons, mnil, mv, mc, mop, mopL, mun, misi, mfrz, mP, pv', pop, mchain, mtrue, mrevL, mit, mitems, mcallScr, mscr, scrOf, mlcomp, oAdd, oSub, oMul, oDiv, oMod, oPow, oLt, oLe, oGt, oGe, o2I, o2IC, oNeg, oIsN, oNotN, oIsB, oNotB, oLst, oTup, oTupS, oLenS, asInt2, spar, spar3, sput, smut, oApp, mixS, slotL, ownL, SV.fz, oItems, oItemsT, oIxT, oIxL, oTupOf, oListOf, oEnumT, oLen, on1, oInt, oAbs, oMax2, oMin2, gput, unwipe, wipeS, oldS, mcallS, oExt, sappL, sapp2, sput2, pix2, pixS, oCatT, oCat, mslT, mpart, mnopart, List.getElem?_cons_zero, List.getElem?_cons_succ, List.set_cons_zero, List.set_cons_succ, ownLL_0, ownLL_1, ownLL_2, ownLL_3, ownLL_4, Rs.bind_ok, toRs_some, lift_some, asInt_int, asList_list, asTup_tup, noErr_ok, obind_some, asBool_bool, Bool.not_true, Bool.not_false, isT, isNone_none, isNone_int, isNone_bool, isNone_tup, isNone_list, ifT, ifF, range1_of (z := (n : Int) + 1) (k := n + 1) (by omega) (by omega)]
  · exact ⟨bstart, _, _, _, _, _, Nat.zero_le _, hF, rfl⟩
  · rintro i d s hd ⟨st, x5, x6, x7, x8, x9, hi, hs, rfl⟩
    obtain ⟨hi1, rfl⟩ := rangeD_get hd
    unfold turn
    simp -implicitDefEqProofs only [nr_seq, after_app, nr_nx, nr_rt, br_ok, nr_ite, Int.cast_ofNat_Int, Int.reduceEq, ne_eq, not_true_eq_false, not_false_eq_true, Bool.false_eq_true, if_false, Int.reduceLE, Int.reduceLT, Int.reduceNeg, Int.reduceSub, Int.reduceAdd, decide_eq_true_eq, Bool.or_false, Bool.or_true, true_or, or_true, or_false, false_or, decide_not, bne_self_eq_false, Option.some.injEq, startS, startH, startScr, List.map, List.cons_append, List.nil_append, List.append_nil, List.length_cons, List.length_nil, List.length_set, List.replicate_zero, List.replicate_succ, Nat.reduceAdd, Nat.reduceSub, Nat.reduceLT, Nat.reduceLeDiff, Nat.zero_add, Nat.reduceMul, and_self, and_true, true_and, if_true, reduceIte, decide_true, decide_false, Nat.lt_irrefl, sif, sset, mD, mL, mLL, mLL0, stg, gset, gtup, gcons, gnil, sret, sfl, sdrop, saug, mtest, mnot, mand, mor, mandV, morV, mnotV, mife, mcallQ, mcallH, mcall, mcallL, mcallS, mcallSL, mcons, mnil, mv, mc, mop, mopL, mun, misi, mfrz, mP, pv', pop, mchain, mtrue, mrevL, mit, mitems, mcallScr, mscr, scrOf, mlcomp, oAdd, oSub, oMul, oDiv, oMod, oPow, oLt, oLe, oGt, oGe, o2I, o2IC, oNeg, oIsN, oNotN, oIsB, oNotB, oLst, oTup, oTupS, oLenS, asInt2, spar, spar3, sput, smut, oApp, mixS, slotL, ownL, SV.fz, oItems, oItemsT, oIxT, oIxL, oTupOf, oListOf, oEnumT, oLen, on1, oInt, oAbs, oMax2, oMin2, gput, unwipe, wipeS, oldS, mcallS, oExt, sappL, sapp2, sput2, pix2, pixS, oCatT, oCat, mslT, mpart, mnopart, List.getElem?_cons_zero, List.getElem?_cons_succ, List.set_cons_zero, List.set_cons_succ, ownLL_0, ownLL_1, ownLL_2, ownLL_3, ownLL_4, Rs.bind_ok, toRs_some, lift_some, asInt_int, asList_list, asTup_tup, noErr_ok, obind_some, asBool_bool, Bool.not_true, Bool.not_false, isT, isNone_none, isNone_int, isNone_bool, isNone_tup, isNone_list, ifT, ifF]
    refine nr_fors (P := fun j s => ∃ X B L x5 x6 x7 x8 x9, s = [some (.d (.int n)), some (.d (wsD W)), some (.ol (vec n X)), some (.ol (vec n B)), some (.d L), x5, x6, x7, x8, x9] ∧
      (∀ v, X v = .int ((bsteps ⟨st.x, st.by_, none⟩ 0 (W.take j)).x v)) ∧ (∀ v, B v = optD ((bsteps ⟨st.x, st.by_, none⟩ 0 (W.take j)).by_ v)) ∧ L = optD (bsteps ⟨st.x, st.by_, none⟩ 0 (W.take j)).last)
      (ds := enumD (W.map wD)) ?_ ?_ ?_ ?_
    · simp -implicitDefEqProofs only [nr_seq, after_app, nr_nx, nr_rt, br_ok, nr_ite, Int.cast_ofNat_Int, Int.reduceEq, ne_eq, not_true_eq_false, not_false_eq_true, Bool.false_eq_true, if_false, Int.reduceLE, Int.reduceLT, Int.reduceNeg, Int.reduceSub, Int.reduceAdd, decide_eq_true_eq, Bool.or_false, Bool.or_true, true_or, or_true, or_false, false_or, decide_not, bne_self_eq_false, Option.some.injEq, startS, startH, startScr, List.map, List.cons_append, List.nil_append, List.append_nil, List.length_cons, List.length_nil, List.length_set, List.replicate_zero, List.replicate_succ, Nat.reduceAdd, Nat.reduceSub, Nat.reduceLT, Nat.reduceLeDiff, Nat.zero_add, Nat.reduceMul, and_self, and_true, true_and, if_true, reduceIte, decide_true, decide_false, Nat.lt_irrefl, sif, sset, mD, mL, mLL, mLL0, stg, gset, gtup, gcons, gnil, sret, sfl, sdrop, saug, mtest, mnot, mand, mor, mandV, morV, mnotV, mife, mcallQ, mcallH, mcall, mcallL, mcallS, mcallSL, mcons, mnil, mv, mc, mop, mopL, mun, misi, mfrz, mP, pv', pop, mchain, mtrue, mrevL, mit, mitems, mcallScr, mscr, scrOf, mlcomp, oAdd, oSub, oMul, oDiv, oMod, oPow, oLt, oLe, oGt, oGe, o2I, o2IC, oNeg, oIsN, oNotN, oIsB, oNotB, oLst, oTup, oTupS, oLenS, asInt2, spar, spar3, sput, smut, oApp, mixS, slotL, ownL, SV.fz, oItems, oItemsT, oIxT, oIxL, oTupOf, oListOf, oEnumT, oLen, on1, oInt, oAbs, oMax2, oMin2, gput, unwipe, wipeS, oldS, mcallS, oExt, sappL, sapp2, sput2, pix2, pixS, oCatT, oCat, mslT, mpart, mnopart, List.getElem?_cons_zero, List.getElem?_cons_succ, List.set_cons_zero, List.set_cons_succ, ownLL_0, ownLL_1, ownLL_2, ownLL_3, ownLL_4, Rs.bind_ok, toRs_some, lift_some, asInt_int, asList_list, asTup_tup, noErr_ok, obind_some, asBool_bool, Bool.not_true, Bool.not_false, isT, isNone_none, isNone_int, isNone_bool, isNone_tup, isNone_list, ifT, ifF]
    · exact ⟨_, _, _, _, _, _, _, _, rfl, fun v => rfl, fun v => rfl, rfl⟩
    · rintro j d s hd ⟨X, B, L, x5, x6, x7, x8, x9, rfl, hX, hB, rfl⟩
      obtain ⟨a, b, m, hw, rfl⟩ := enum_get hd
      obtain ⟨ha, hb, hab⟩ := h.ok.get hw
      rw [steps_take hw]
      revert hX hB
      generalize bsteps ⟨st.x, st.by_, none⟩ 0 (W.take j) = cur
      intro hX hB
      unfold turn bstep
      simp -implicitDefEqProofs only [nr_seq, after_app, nr_nx, nr_rt, br_ok, nr_ite, Int.cast_ofNat_Int, Int.reduceEq, ne_eq, not_true_eq_false, not_false_eq_true, Bool.false_eq_true, if_false, Int.reduceLE, Int.reduceLT, Int.reduceNeg, Int.reduceSub, Int.reduceAdd, decide_eq_true_eq, Bool.or_false, Bool.or_true, true_or, or_true, or_false, false_or, decide_not, bne_self_eq_false, Option.some.injEq, startS, startH, startScr, List.map, List.cons_append, List.nil_append, List.append_nil, List.length_cons, List.length_nil, List.length_set, List.replicate_zero, List.replicate_succ, Nat.reduceAdd, Nat.reduceSub, Nat.reduceLT, Nat.reduceLeDiff, Nat.zero_add, Nat.reduceMul, and_self, and_true, true_and, if_true, reduceIte, decide_true, decide_false, Nat.lt_irrefl, sif, sset, mD, mL, mLL, mLL0, stg, gset, gtup, gcons, gnil, sret, sfl, sdrop, saug, mtest, mnot, mand, mor, mandV, morV, mnotV, mife, mcallQ, mcallH, mcall, mcallL, mcallS, mcallSL, mcons, mnil, mv, mc, mop, mopL, mun, misi, mfrz, mP, pv', pop, mchain, mtrue, mrevL, mit, mitems, mcallScr, mscr, scrOf, mlcomp, oAdd, oSub, oMul, oDiv, oMod, oPow, oLt, oLe, oGt, oGe, o2I, o2IC, oNeg, oIsN, oNotN, oIsB, oNotB, oLst, oTup, oTupS, oLenS, asInt2, spar, spar3, sput, smut, oApp, mixS, slotL, ownL, SV.fz, oItems, oItemsT, oIxT, oIxL, oTupOf, oListOf, oEnumT, oLen, on1, oInt, oAbs, oMax2, oMin2, gput, unwipe, wipeS, oldS, mcallS, oExt, sappL, sapp2, sput2, pix2, pixS, oCatT, oCat, mslT, mpart, mnopart, List.getElem?_cons_zero, List.getElem?_cons_succ, List.set_cons_zero, List.set_cons_succ, ownLL_0, ownLL_1, ownLL_2, ownLL_3, ownLL_4, Rs.bind_ok, toRs_some, lift_some, asInt_int, asList_list, asTup_tup, noErr_ok, obind_some, asBool_bool, Bool.not_true, Bool.not_false, isT, isNone_none, isNone_int, isNone_bool, isNone_tup, isNone_list, ifT, ifF, atI_vec, ha, hb, hX]
      by_cases hc : cur.x a + m < cur.x b
      · simp -implicitDefEqProofs only [nr_seq, after_app, nr_nx, nr_rt, br_ok, nr_ite, Int.cast_ofNat_Int, Int.reduceEq, ne_eq, not_true_eq_false, not_false_eq_true, Bool.false_eq_true, if_false, Int.reduceLE, Int.reduceLT, Int.reduceNeg, Int.reduceSub, Int.reduceAdd, decide_eq_true_eq, Bool.or_false, Bool.or_true, true_or, or_true, or_false, false_or, decide_not, bne_self_eq_false, Option.some.injEq, startS, startH, startScr, List.map, List.cons_append, List.nil_append, List.append_nil, List.length_cons, List.length_nil, List.length_set, List.replicate_zero, List.replicate_succ, Nat.reduceAdd, Nat.reduceSub, Nat.reduceLT, Nat.reduceLeDiff, Nat.zero_add, Nat.reduceMul, and_self, and_true, true_and, if_true, reduceIte, decide_true, decide_false, Nat.lt_irrefl, sif, sset, mD, mL, mLL, mLL0, stg, gset, gtup, gcons, gnil, sret, sfl, sdrop, saug, mtest, mnot, mand, mor, mandV, morV, mnotV, mife, mcallQ, mcallH, mcall, mcallL, mcallS, mcallSL, mcons, mnil, mv, mc, mop, mopL, mun, misi, mfrz, mP, pv', pop, mchain, mtrue, mrevL, mit, mitems, mcallScr, mscr, scrOf, mlcomp, oAdd, oSub, oMul, oDiv, oMod, oPow, oLt, oLe, oGt, oGe, o2I, o2IC, oNeg, oIsN, oNotN, oIsB, oNotB, oLst, oTup, oTupS, oLenS, asInt2, spar, spar3, sput, smut, oApp, mixS, slotL, ownL, SV.fz, oItems, oItemsT, oIxT, oIxL, oTupOf, oListOf, oEnumT, oLen, on1, oInt, oAbs, oMax2, oMin2, gput, unwipe, wipeS, oldS, mcallS, oExt, sappL, sapp2, sput2, pix2, pixS, oCatT, oCat, mslT, mpart, mnopart, List.getElem?_cons_zero, List.getElem?_cons_succ, List.set_cons_zero, List.set_cons_succ, ownLL_0, ownLL_1, ownLL_2, ownLL_3, ownLL_4, Rs.bind_ok, toRs_some, lift_some, asInt_int, asList_list, asTup_tup, noErr_ok, obind_some, asBool_bool, Bool.not_true, Bool.not_false, isT, isNone_none, isNone_int, isNone_bool, isNone_tup, isNone_list, ifT, ifF, hc, vec_len, ixN_nat, hb, vec_set]
        refine ⟨_, _, _, _, _, _, _, _, rfl, fun v => ?_, fun v => ?_, rfl⟩
        · unfold up; by_cases e : v = b
          · rw [if_pos e, if_pos e]
          · rw [if_neg e, if_neg e]; exact hX v
        · unfold up; by_cases e : v = b
          · rw [if_pos e, if_pos e]; rfl
          · rw [if_neg e, if_neg e]; exact hB v
      · simp -implicitDefEqProofs only [nr_seq, after_app, nr_nx, nr_rt, br_ok, nr_ite, Int.cast_ofNat_Int, Int.reduceEq, ne_eq, not_true_eq_false, not_false_eq_true, Bool.false_eq_true, if_false, Int.reduceLE, Int.reduceLT, Int.reduceNeg, Int.reduceSub, Int.reduceAdd, decide_eq_true_eq, Bool.or_false, Bool.or_true, true_or, or_true, or_false, false_or, decide_not, bne_self_eq_false, Option.some.injEq, startS, startH, startScr, List.map, List.cons_append, List.nil_append, List.append_nil, List.length_cons, List.length_nil, List.length_set, List.replicate_zero, List.replicate_succ, Nat.reduceAdd, Nat.reduceSub, Nat.reduceLT, Nat.reduceLeDiff, Nat.zero_add, Nat.reduceMul, and_self, and_true, true_and, if_true, reduceIte, decide_true, decide_false, Nat.lt_irrefl, sif, sset, mD, mL, mLL, mLL0, stg, gset, gtup, gcons, gnil, sret, sfl, sdrop, saug, mtest, mnot, mand, mor, mandV, morV, mnotV, mife, mcallQ, mcallH, mcall, mcallL, mcallS, mcallSL, mcons, mnil, mv, mc, mop, mopL, mun, misi, mfrz, mP, pv', pop, mchain, mtrue, mrevL, mit, mitems, mcallScr, mscr, scrOf, mlcomp, oAdd, oSub, oMul, oDiv, oMod, oPow, oLt, oLe, oGt, oGe, o2I, o2IC, oNeg, oIsN, oNotN, oIsB, oNotB, oLst, oTup, oTupS, oLenS, asInt2, spar, spar3, sput, smut, oApp, mixS, slotL, ownL, SV.fz, oItems, oItemsT, oIxT, oIxL, oTupOf, oListOf, oEnumT, oLen, on1, oInt, oAbs, oMax2, oMin2, gput, unwipe, wipeS, oldS, mcallS, oExt, sappL, sapp2, sput2, pix2, pixS, oCatT, oCat, mslT, mpart, mnopart, List.getElem?_cons_zero, List.getElem?_cons_succ, List.set_cons_zero, List.set_cons_succ, ownLL_0, ownLL_1, ownLL_2, ownLL_3, ownLL_4, Rs.bind_ok, toRs_some, lift_some, asInt_int, asList_list, asTup_tup, noErr_ok, obind_some, asBool_bool, Bool.not_true, Bool.not_false, isT, isNone_none, isNone_int, isNone_bool, isNone_tup, isNone_list, ifT, ifF, hc]
        exact ⟨_, _, _, _, _, _, _, _, rfl, hX, hB, rfl⟩
    · rintro s ⟨X, B, L, x5, x6, x7, x8, x9, rfl, hX, hB, rfl⟩
      rw [enum_len, ws_len, List.take_length] at hX hB
      rw [enum_len, ws_len, List.take_length]
      have eX : X = fun v => .int ((bround W st).x v) := funext hX
      have eB : B = fun v => optD ((bround W st).by_ v) := funext hB
      subst eX eB
      have er : n + 1 - i = (n + 1 - (i + 1)) + 1 := by omega
      rw [er] at hs
      unfold bsettle at hs
      by_cases hl : (bround W st).last = none
      · rw [if_pos hl] at hs
        have hl' : (bsteps ⟨st.x, st.by_, none⟩ 0 W).last = none := hl
        rw [hl']
        simp -implicitDefEqProofs only [nr_seq, after_app, nr_nx, nr_rt, br_ok, nr_ite, Int.cast_ofNat_Int, Int.reduceEq, ne_eq, not_true_eq_false, not_false_eq_true, Bool.false_eq_true, if_false, Int.reduceLE, Int.reduceLT, Int.reduceNeg, Int.reduceSub, Int.reduceAdd, decide_eq_true_eq, Bool.or_false, Bool.or_true, true_or, or_true, or_false, false_or, decide_not, bne_self_eq_false, Option.some.injEq, startS, startH, startScr, List.map, List.cons_append, List.nil_append, List.append_nil, List.length_cons, List.length_nil, List.length_set, List.replicate_zero, List.replicate_succ, Nat.reduceAdd, Nat.reduceSub, Nat.reduceLT, Nat.reduceLeDiff, Nat.zero_add, Nat.reduceMul, and_self, and_true, true_and, if_true, reduceIte, decide_true, decide_false, Nat.lt_irrefl, sif, sset, mD, mL, mLL, mLL0, stg, gset, gtup, gcons, gnil, sret, sfl, sdrop, saug, mtest, mnot, mand, mor, mandV, morV, mnotV, mife, mcallQ, mcallH, mcall, mcallL, mcallS, mcallSL, mcons, mnil, mv, mc, mop, mopL, mun, misi, mfrz, mP, pv', pop, mchain, mtrue, mrevL, mit, mitems, mcallScr, mscr, scrOf, mlcomp, oAdd, oSub, oMul, oDiv, oMod, oPow, oLt, oLe, oGt, oGe, o2I, o2IC, oNeg, oIsN, oNotN, oIsB, oNotB, oLst, oTup, oTupS, oLenS, asInt2, spar, spar3, sput, smut, oApp, mixS, slotL, ownL, SV.fz, oItems, oItemsT, oIxT, oIxL, oTupOf, oListOf, oEnumT, oLen, on1, oInt, oAbs, oMax2, oMin2, gput, unwipe, wipeS, oldS, mcallS, oExt, sappL, sapp2, sput2, pix2, pixS, oCatT, oCat, mslT, mpart, mnopart, List.getElem?_cons_zero, List.getElem?_cons_succ, List.set_cons_zero, List.set_cons_succ, ownLL_0, ownLL_1, ownLL_2, ownLL_3, ownLL_4, Rs.bind_ok, toRs_some, lift_some, asInt_int, asList_list, asTup_tup, noErr_ok, obind_some, asBool_bool, Bool.not_true, Bool.not_false, isT, isNone_none, isNone_int, isNone_bool, isNone_tup, isNone_list, ifT, ifF, optD, isNone_none]
        rw [← hs]
        unfold setD
        rw [hl]
        rfl
      · rw [if_neg hl] at hs
        have hl' : isNone (optD (bsteps ⟨st.x, st.by_, none⟩ 0 W).last) = false := by
          rw [optD_none]
          cases h9 : (bsteps ⟨st.x, st.by_, none⟩ 0 W).last with
          | none => exact absurd h9 hl
          | some v => rfl
        simp -implicitDefEqProofs only [nr_seq, after_app, nr_nx, nr_rt, br_ok, nr_ite, Int.cast_ofNat_Int, Int.reduceEq, ne_eq, not_true_eq_false, not_false_eq_true, Bool.false_eq_true, if_false, Int.reduceLE, Int.reduceLT, Int.reduceNeg, Int.reduceSub, Int.reduceAdd, decide_eq_true_eq, Bool.or_false, Bool.or_true, true_or, or_true, or_false, false_or, decide_not, bne_self_eq_false, Option.some.injEq, startS, startH, startScr, List.map, List.cons_append, List.nil_append, List.append_nil, List.length_cons, List.length_nil, List.length_set, List.replicate_zero, List.replicate_succ, Nat.reduceAdd, Nat.reduceSub, Nat.reduceLT, Nat.reduceLeDiff, Nat.zero_add, Nat.reduceMul, and_self, and_true, true_and, if_true, reduceIte, decide_true, decide_false, Nat.lt_irrefl, sif, sset, mD, mL, mLL, mLL0, stg, gset, gtup, gcons, gnil, sret, sfl, sdrop, saug, mtest, mnot, mand, mor, mandV, morV, mnotV, mife, mcallQ, mcallH, mcall, mcallL, mcallS, mcallSL, mcons, mnil, mv, mc, mop, mopL, mun, misi, mfrz, mP, pv', pop, mchain, mtrue, mrevL, mit, mitems, mcallScr, mscr, scrOf, mlcomp, oAdd, oSub, oMul, oDiv, oMod, oPow, oLt, oLe, oGt, oGe, o2I, o2IC, oNeg, oIsN, oNotN, oIsB, oNotB, oLst, oTup, oTupS, oLenS, asInt2, spar, spar3, sput, smut, oApp, mixS, slotL, ownL, SV.fz, oItems, oItemsT, oIxT, oIxL, oTupOf, oListOf, oEnumT, oLen, on1, oInt, oAbs, oMax2, oMin2, gput, unwipe, wipeS, oldS, mcallS, oExt, sappL, sapp2, sput2, pix2, pixS, oCatT, oCat, mslT, mpart, mnopart, List.getElem?_cons_zero, List.getElem?_cons_succ, List.set_cons_zero, List.set_cons_succ, ownLL_0, ownLL_1, ownLL_2, ownLL_3, ownLL_4, Rs.bind_ok, toRs_some, lift_some, asInt_int, asList_list, asTup_tup, noErr_ok, obind_some, asBool_bool, Bool.not_true, Bool.not_false, isT, isNone_none, isNone_int, isNone_bool, isNone_tup, isNone_list, ifT, ifF, hl']
        exact ⟨bround W st, _, _, _, _, _, by omega, hs, rfl⟩
  · rintro s ⟨st, x5, x6, x7, x8, x9, hi, hs, rfl⟩
    rw [rangeD_len, Nat.sub_self] at hs
    unfold bsettle at hs
    subst hs
    simp -implicitDefEqProofs only [nr_seq, after_app, nr_nx, nr_rt, br_ok, nr_ite, Int.cast_ofNat_Int, Int.reduceEq, ne_eq, not_true_eq_false, not_false_eq_true, Bool.false_eq_true, if_false, Int.reduceLE, Int.reduceLT, Int.reduceNeg, Int.reduceSub, Int.reduceAdd, decide_eq_true_eq, Bool.or_false, Bool.or_true, true_or, or_true, or_false, false_or, decide_not, bne_self_eq_false, Option.some.injEq, startS, startH, startScr, List.map, List.cons_append, List.nil_append, List.append_nil, List.length_cons, List.length_nil, List.length_set, List.replicate_zero, List.replicate_succ, Nat.reduceAdd, Nat.reduceSub, Nat.reduceLT, Nat.reduceLeDiff, Nat.zero_add, Nat.reduceMul, and_self, and_true, true_and, if_true, reduceIte, decide_true, decide_false, Nat.lt_irrefl, sif, sset, mD, mL, mLL, mLL0, stg, gset, gtup, gcons, gnil, sret, sfl, sdrop, saug, mtest, mnot, mand, mor, mandV, morV, mnotV, mife, mcallQ, mcallH, mcall, mcallL, mcallS, mcallSL, mcons, mnil, mv, mc, mop, mopL, mun, misi, mfrz, mP, pv', pop, mchain, mtrue, mrevL, mit, mitems, mcallScr, mscr, scrOf, mlcomp, oAdd, oSub, oMul, oDiv, oMod, oPow, oLt, oLe, oGt, oGe, o2I, o2IC, oNeg, oIsN, oNotN, oIsB, oNotB, oLst, oTup, oTupS, oLenS, asInt2, spar, spar3, sput, smut, oApp, mixS, slotL, ownL, SV.fz, oItems, oItemsT, oIxT, oIxL, oTupOf, oListOf, oEnumT, oLen, on1, oInt, oAbs, oMax2, oMin2, gput, unwipe, wipeS, oldS, mcallS, oExt, sappL, sapp2, sput2, pix2, pixS, oCatT, oCat, mslT, mpart, mnopart, List.getElem?_cons_zero, List.getElem?_cons_succ, List.set_cons_zero, List.set_cons_succ, ownLL_0, ownLL_1, ownLL_2, ownLL_3, ownLL_4, Rs.bind_ok, toRs_some, lift_some, asInt_int, asList_list, asTup_tup, noErr_ok, obind_some, asBool_bool, Bool.not_true, Bool.not_false, isT, isNone_none, isNone_int, isNone_bool, isNone_tup, isNone_list, ifT, ifF]
    rfl
end K39
namespace K39
open PySem L2 Evl Mir Wsh
abbrev sMom : D := .str (PySem.Str.ofString "moments")
abbrev sRing : D := .str (PySem.Str.ofString "ring")
theorem allInts_vec {n : Nat} {f : Nat → Int} : allInts (vec n fun v => .int (f v)) = some (vec n f) := by
  unfold vec
  induction List.range n with
  | nil => rfl
  | cons a l ih => show (allInts (l.map _)).bind _ = _; rw [ih]; rfl
theorem minI_some {a : Int} {l : List Int} : ∃ m, minI (a :: l) = some m := by
  unfold minI
  cases minI l <;> exact ⟨_, rfl⟩
theorem min_vec {n : Nat} {f : Nat → Int} (h : 1 ≤ n) : ∃ m : Int, oMinL (vec n fun v => .int (f v)) = some (.int m) := by
  unfold oMinL
  rw [allInts_vec]
  obtain ⟨k, rfl⟩ : ∃ k, n = k + 1 := ⟨n - 1, by omega⟩
  have : vec (k + 1) f = f 0 :: (vec k fun i => f (i + 1)) := by simp [vec, List.range_succ_eq_map]
  rw [obind_some, this]
  obtain ⟨m, hm⟩ := minI_some (a := f 0) (l := vec k fun i => f (i + 1))
  exact ⟨m, by rw [hm]; rfl⟩
theorem vec_mem {α : Type} {n : Nat} {f : Nat → α} {d : α} (h : d ∈ vec n f) : ∃ i, i < n ∧ d = f i := by
  obtain ⟨i, h1, rfl⟩ := List.mem_map.mp h
  exact ⟨i, List.mem_range.mp h1, rfl⟩
theorem vec_map {α β : Type} {n : Nat} {f : Nat → α} {g : α → β} : (vec n f).map g = vec n fun i => g (f i) := by simp [vec]
theorem told_moments {n : Nat} {W : List Wi} (h : Va n W) (hl : (bsettle W (n + 1) bstart).last = none) : ∃ X, m_wishes_told [.int n, wsD W] = .ok X ∧ ∃ t, X = .tuple [sMom, t] := by
  have hn := h.le
  have hn5 : n ≤ 100000 := by omega
  obtain ⟨mn, hmn⟩ := min_vec (f := (bsettle W (n + 1) bstart).x) h.pos
  unfold m_wishes_told b_wishes_told
  refine mdef_P ?_
  simp -implicitDefEqProofs only [nr_seq, after_app, nr_nx, nr_rt, br_ok, nr_ite, Int.cast_ofNat_Int, Int.reduceEq, ne_eq, not_true_eq_false, not_false_eq_true, Bool.false_eq_true, if_false, Int.reduceLE, Int.reduceLT, Int.reduceNeg, Int.reduceSub, Int.reduceAdd, decide_eq_true_eq, Bool.or_false, Bool.or_true, true_or, or_true, or_false, false_or, decide_not, bne_self_eq_false, Option.some.injEq, startS, startH, startScr, List.map, List.cons_append, List.nil_append, List.append_nil, List.length_cons, List.length_nil, List.length_set, List.replicate_zero, List.replicate_succ, Nat.reduceAdd, Nat.reduceSub, Nat.reduceLT, Nat.reduceLeDiff, Nat.zero_add, Nat.reduceMul, and_self, and_true, true_and, if_true, reduceIte, decide_true, decide_false, Nat.lt_irrefl, sif, sset, mD, mL, mLL, mLL0, stg, gset, gtup, gcons, gnil, sret, sfl, sdrop, saug, mtest, mnot, mand, mor, mandV, morV, mnotV, mife, mcallQ, mcallH, mcall, mcallL, mcallS, mcallSL, mcons, mnil, mv, mc, mop, mopL, mun, misi, mfrz, mP, pv', pop, mchain, mtrue, mrevL, mit, mitems, mcallScr, mscr, scrOf, mlcomp, oAdd, oSub, oMul, oDiv, oMod, oPow, oLt, oLe, oGt, oGe, o2I, o2IC, oNeg, oIsN, oNotN, oIsB, oNotB, oLst, oTup, oTupS, oLenS, asInt2, spar, spar3, sput, smut, oApp, mixS, slotL, ownL, SV.fz, oItems, oItemsT, oIxT, oIxL, oTupOf, oListOf, oEnumT, oLen, on1, oInt, oAbs, oMax2, oMin2, gput, unwipe, wipeS, oldS, mcallS, oExt, sappL, sapp2, sput2, pix2, pixS, oCatT, oCat, mslT, mpart, mnopart, List.getElem?_cons_zero, List.getElem?_cons_succ, List.set_cons_zero, List.set_cons_succ, ownLL_0, ownLL_1, ownLL_2, ownLL_3, ownLL_4, Rs.bind_ok, toRs_some, lift_some, asInt_int, asList_list, asTup_tup, noErr_ok, obind_some, asBool_bool, Bool.not_true, Bool.not_false, isT, isNone_none, isNone_int, isNone_bool, isNone_tup, isNone_list, ifT, ifF, check_va h, settled_eq h, setD, hl, isNone_none, optD, hmn, vec_len, hn5]
  rw [mlc_all (v := fun d => match d with | .int i => .int (i - mn) | d => d) _ (fun d hd => ?_)]
  · simp -implicitDefEqProofs only [nr_seq, after_app, nr_nx, nr_rt, br_ok, nr_ite, Int.cast_ofNat_Int, Int.reduceEq, ne_eq, not_true_eq_false, not_false_eq_true, Bool.false_eq_true, if_false, Int.reduceLE, Int.reduceLT, Int.reduceNeg, Int.reduceSub, Int.reduceAdd, decide_eq_true_eq, Bool.or_false, Bool.or_true, true_or, or_true, or_false, false_or, decide_not, bne_self_eq_false, Option.some.injEq, startS, startH, startScr, List.map, List.cons_append, List.nil_append, List.append_nil, List.length_cons, List.length_nil, List.length_set, List.replicate_zero, List.replicate_succ, Nat.reduceAdd, Nat.reduceSub, Nat.reduceLT, Nat.reduceLeDiff, Nat.zero_add, Nat.reduceMul, and_self, and_true, true_and, if_true, reduceIte, decide_true, decide_false, Nat.lt_irrefl, sif, sset, mD, mL, mLL, mLL0, stg, gset, gtup, gcons, gnil, sret, sfl, sdrop, saug, mtest, mnot, mand, mor, mandV, morV, mnotV, mife, mcallQ, mcallH, mcall, mcallL, mcallS, mcallSL, mcons, mnil, mv, mc, mop, mopL, mun, misi, mfrz, mP, pv', pop, mchain, mtrue, mrevL, mit, mitems, mcallScr, mscr, scrOf, mlcomp, oAdd, oSub, oMul, oDiv, oMod, oPow, oLt, oLe, oGt, oGe, o2I, o2IC, oNeg, oIsN, oNotN, oIsB, oNotB, oLst, oTup, oTupS, oLenS, asInt2, spar, spar3, sput, smut, oApp, mixS, slotL, ownL, SV.fz, oItems, oItemsT, oIxT, oIxL, oTupOf, oListOf, oEnumT, oLen, on1, oInt, oAbs, oMax2, oMin2, gput, unwipe, wipeS, oldS, mcallS, oExt, sappL, sapp2, sput2, pix2, pixS, oCatT, oCat, mslT, mpart, mnopart, List.getElem?_cons_zero, List.getElem?_cons_succ, List.set_cons_zero, List.set_cons_succ, ownLL_0, ownLL_1, ownLL_2, ownLL_3, ownLL_4, Rs.bind_ok, toRs_some, lift_some, asInt_int, asList_list, asTup_tup, noErr_ok, obind_some, asBool_bool, Bool.not_true, Bool.not_false, isT, isNone_none, isNone_int, isNone_bool, isNone_tup, isNone_list, ifT, ifF]
    exact ⟨_, rfl⟩
  · obtain ⟨i, hi, rfl⟩ := vec_mem hd
    simp -implicitDefEqProofs only [nr_seq, after_app, nr_nx, nr_rt, br_ok, nr_ite, Int.cast_ofNat_Int, Int.reduceEq, ne_eq, not_true_eq_false, not_false_eq_true, Bool.false_eq_true, if_false, Int.reduceLE, Int.reduceLT, Int.reduceNeg, Int.reduceSub, Int.reduceAdd, decide_eq_true_eq, Bool.or_false, Bool.or_true, true_or, or_true, or_false, false_or, decide_not, bne_self_eq_false, Option.some.injEq, startS, startH, startScr, List.map, List.cons_append, List.nil_append, List.append_nil, List.length_cons, List.length_nil, List.length_set, List.replicate_zero, List.replicate_succ, Nat.reduceAdd, Nat.reduceSub, Nat.reduceLT, Nat.reduceLeDiff, Nat.zero_add, Nat.reduceMul, and_self, and_true, true_and, if_true, reduceIte, decide_true, decide_false, Nat.lt_irrefl, sif, sset, mD, mL, mLL, mLL0, stg, gset, gtup, gcons, gnil, sret, sfl, sdrop, saug, mtest, mnot, mand, mor, mandV, morV, mnotV, mife, mcallQ, mcallH, mcall, mcallL, mcallS, mcallSL, mcons, mnil, mv, mc, mop, mopL, mun, misi, mfrz, mP, pv', pop, mchain, mtrue, mrevL, mit, mitems, mcallScr, mscr, scrOf, mlcomp, oAdd, oSub, oMul, oDiv, oMod, oPow, oLt, oLe, oGt, oGe, o2I, o2IC, oNeg, oIsN, oNotN, oIsB, oNotB, oLst, oTup, oTupS, oLenS, asInt2, spar, spar3, sput, smut, oApp, mixS, slotL, ownL, SV.fz, oItems, oItemsT, oIxT, oIxL, oTupOf, oListOf, oEnumT, oLen, on1, oInt, oAbs, oMax2, oMin2, gput, unwipe, wipeS, oldS, mcallS, oExt, sappL, sapp2, sput2, pix2, pixS, oCatT, oCat, mslT, mpart, mnopart, List.getElem?_cons_zero, List.getElem?_cons_succ, List.set_cons_zero, List.set_cons_succ, ownLL_0, ownLL_1, ownLL_2, ownLL_3, ownLL_4, Rs.bind_ok, toRs_some, lift_some, asInt_int, asList_list, asTup_tup, noErr_ok, obind_some, asBool_bool, Bool.not_true, Bool.not_false, isT, isNone_none, isNone_int, isNone_bool, isNone_tup, isNone_list, ifT, ifF, hmn]
theorem oIxT_w {W : List Wi} {i : Nat} {w : Wi} (h : W[i]? = some w) : atI (W.map wD) (i : Int) = some (wD w) := atI_get (by rw [List.getElem?_map, h]; rfl)
theorem at0 {d : D} {l : List D} : atI (d :: l) 0 = some d := by
  unfold atI ixN
  rw [if_pos (Int.le_refl _), if_pos (by simp only [List.length_cons]; omega)]
  rfl
theorem at1 {d e : D} {l : List D} : atI (d :: e :: l) 1 = some e := by
  unfold atI ixN
  rw [if_pos (by omega), if_pos (by simp only [List.length_cons]; omega)]
  rfl
theorem at2 {d e f : D} {l : List D} : atI (d :: e :: f :: l) 2 = some f := by
  unfold atI ixN
  rw [if_pos (by omega), if_pos (by simp only [List.length_cons]; omega)]
  rfl
theorem told_ring {n : Nat} {W : List Wi} (h : Va n W) {v : Nat} (hl : (bsettle W (n + 1) bstart).last = some v) (hr : Ring n W (bsettle W (n + 1) bstart) v) : ∃ X, m_wishes_told [.int n, wsD W] = .ok X ∧ ∃ t, X = .tuple [sRing, t] := by
  have hn := h.le
  have hn5 : n ≤ 100000 := by omega
  have hset := settled_eq h
  revert hl hr hset
  generalize bsettle W (n + 1) bstart = S
  intro hl hr hset
  have edge : ∀ j, j ≤ n → ∃ i m, optD (S.by_ (back W S v j)) = .int i ∧ atI (W.map wD) (i : Int) = some (.tuple [.int (back W S v (j + 1)), .int (back W S v j), .int m]) := by
    intro j hj
    obtain ⟨i, m, h1, h2⟩ := hr.edge j hj
    exact ⟨i, m, by rw [h1]; rfl, oIxT_w h2⟩
  unfold m_wishes_told b_wishes_told
  refine mdef_P ?_
  simp -implicitDefEqProofs only [nr_seq, after_app, nr_nx, nr_rt, br_ok, nr_ite, Int.cast_ofNat_Int, Int.reduceEq, ne_eq, not_true_eq_false, not_false_eq_true, Bool.false_eq_true, if_false, Int.reduceLE, Int.reduceLT, Int.reduceNeg, Int.reduceSub, Int.reduceAdd, decide_eq_true_eq, Bool.or_false, Bool.or_true, true_or, or_true, or_false, false_or, decide_not, bne_self_eq_false, Option.some.injEq, startS, startH, startScr, List.map, List.cons_append, List.nil_append, List.append_nil, List.length_cons, List.length_nil, List.length_set, List.replicate_zero, List.replicate_succ, Nat.reduceAdd, Nat.reduceSub, Nat.reduceLT, Nat.reduceLeDiff, Nat.zero_add, Nat.reduceMul, and_self, and_true, true_and, if_true, reduceIte, decide_true, decide_false, Nat.lt_irrefl, sif, sset, mD, mL, mLL, mLL0, stg, gset, gtup, gcons, gnil, sret, sfl, sdrop, saug, mtest, mnot, mand, mor, mandV, morV, mnotV, mife, mcallQ, mcallH, mcall, mcallL, mcallS, mcallSL, mcons, mnil, mv, mc, mop, mopL, mun, misi, mfrz, mP, pv', pop, mchain, mtrue, mrevL, mit, mitems, mcallScr, mscr, scrOf, mlcomp, oAdd, oSub, oMul, oDiv, oMod, oPow, oLt, oLe, oGt, oGe, o2I, o2IC, oNeg, oIsN, oNotN, oIsB, oNotB, oLst, oTup, oTupS, oLenS, asInt2, spar, spar3, sput, smut, oApp, mixS, slotL, ownL, SV.fz, oItems, oItemsT, oIxT, oIxL, oTupOf, oListOf, oEnumT, oLen, on1, oInt, oAbs, oMax2, oMin2, gput, unwipe, wipeS, oldS, mcallS, oExt, sappL, sapp2, sput2, pix2, pixS, oCatT, oCat, mslT, mpart, mnopart, List.getElem?_cons_zero, List.getElem?_cons_succ, List.set_cons_zero, List.set_cons_succ, ownLL_0, ownLL_1, ownLL_2, ownLL_3, ownLL_4, Rs.bind_ok, toRs_some, lift_some, asInt_int, asList_list, asTup_tup, noErr_ok, obind_some, asBool_bool, Bool.not_true, Bool.not_false, isT, isNone_none, isNone_int, isNone_bool, isNone_tup, isNone_list, ifT, ifF, check_va h, hset, setD, hl, isNone_none, optD, vec_len, hn5]
  refine nr_fors (P := fun i s => ∃ x5 x6 x7 x8, s = [some (.d (.int n)), some (.d (wsD W)), some (.d (.list (vec n fun v => .int (S.x v)))), some (.d (.list (vec n fun v => optD (S.by_ v)))), some (.d (.int (back W S v i))), x5, x6, x7, x8])
    (ds := rangeD 0 n) ?_ ?_ ?_ ?_
  · simp -implicitDefEqProofs only [nr_seq, after_app, nr_nx, nr_rt, br_ok, nr_ite, Int.cast_ofNat_Int, Int.reduceEq, ne_eq, not_true_eq_false, not_false_eq_true, Bool.false_eq_true, if_false, Int.reduceLE, Int.reduceLT, Int.reduceNeg, Int.reduceSub, Int.reduceAdd, decide_eq_true_eq, Bool.or_false, Bool.or_true, true_or, or_true, or_false, false_or, decide_not, bne_self_eq_false, Option.some.injEq, startS, startH, startScr, List.map, List.cons_append, List.nil_append, List.append_nil, List.length_cons, List.length_nil, List.length_set, List.replicate_zero, List.replicate_succ, Nat.reduceAdd, Nat.reduceSub, Nat.reduceLT, Nat.reduceLeDiff, Nat.zero_add, Nat.reduceMul, and_self, and_true, true_and, if_true, reduceIte, decide_true, decide_false, Nat.lt_irrefl, sif, sset, mD, mL, mLL, mLL0, stg, gset, gtup, gcons, gnil, sret, sfl, sdrop, saug, mtest, mnot, mand, mor, mandV, morV, mnotV, mife, mcallQ, mcallH, mcall, mcallL, mcallS, mcallSL, mcons, mnil, mv, mc, mop, mopL, mun, misi, mfrz, mP, pv', pop, mchain, mtrue, mrevL, mit, mitems, mcallScr, mscr, scrOf, mlcomp, oAdd, oSub, oMul, oDiv, oMod, oPow, oLt, oLe, oGt, oGe, o2I, o2IC, oNeg, oIsN, oNotN, oIsB, oNotB, oLst, oTup, oTupS, oLenS, asInt2, spar, spar3, sput, smut, oApp, mixS, slotL, ownL, SV.fz, oItems, oItemsT, oIxT, oIxL, oTupOf, oListOf, oEnumT, oLen, on1, oInt, oAbs, oMax2, oMin2, gput, unwipe, wipeS, oldS, mcallS, oExt, sappL, sapp2, sput2, pix2, pixS, oCatT, oCat, mslT, mpart, mnopart, List.getElem?_cons_zero, List.getElem?_cons_succ, List.set_cons_zero, List.set_cons_succ, ownLL_0, ownLL_1, ownLL_2, ownLL_3, ownLL_4, Rs.bind_ok, toRs_some, lift_some, asInt_int, asList_list, asTup_tup, noErr_ok, obind_some, asBool_bool, Bool.not_true, Bool.not_false, isT, isNone_none, isNone_int, isNone_bool, isNone_tup, isNone_list, ifT, ifF, range1_nat hn5]
  · exact ⟨_, _, _, _, rfl⟩
  · rintro i d s hd ⟨x5, x6, x7, x8, rfl⟩
    obtain ⟨hi1, rfl⟩ := rangeD_get hd
    obtain ⟨k, m, h1, h2⟩ := edge i (by omega)
    have h3 := hr.lt i (by omega)
    unfold turn
    simp -implicitDefEqProofs only [nr_seq, after_app, nr_nx, nr_rt, br_ok, nr_ite, Int.cast_ofNat_Int, Int.reduceEq, ne_eq, not_true_eq_false, not_false_eq_true, Bool.false_eq_true, if_false, Int.reduceLE, Int.reduceLT, Int.reduceNeg, Int.reduceSub, Int.reduceAdd, decide_eq_true_eq, Bool.or_false, Bool.or_true, true_or, or_true, or_false, false_or, decide_not, bne_self_eq_false, Option.some.injEq, startS, startH, startScr, List.map, List.cons_append, List.nil_append, List.append_nil, List.length_cons, List.length_nil, List.length_set, List.replicate_zero, List.replicate_succ, Nat.reduceAdd, Nat.reduceSub, Nat.reduceLT, Nat.reduceLeDiff, Nat.zero_add, Nat.reduceMul, and_self, and_true, true_and, if_true, reduceIte, decide_true, decide_false, Nat.lt_irrefl, sif, sset, mD, mL, mLL, mLL0, stg, gset, gtup, gcons, gnil, sret, sfl, sdrop, saug, mtest, mnot, mand, mor, mandV, morV, mnotV, mife, mcallQ, mcallH, mcall, mcallL, mcallS, mcallSL, mcons, mnil, mv, mc, mop, mopL, mun, misi, mfrz, mP, pv', pop, mchain, mtrue, mrevL, mit, mitems, mcallScr, mscr, scrOf, mlcomp, oAdd, oSub, oMul, oDiv, oMod, oPow, oLt, oLe, oGt, oGe, o2I, o2IC, oNeg, oIsN, oNotN, oIsB, oNotB, oLst, oTup, oTupS, oLenS, asInt2, spar, spar3, sput, smut, oApp, mixS, slotL, ownL, SV.fz, oItems, oItemsT, oIxT, oIxL, oTupOf, oListOf, oEnumT, oLen, on1, oInt, oAbs, oMax2, oMin2, gput, unwipe, wipeS, oldS, mcallS, oExt, sappL, sapp2, sput2, pix2, pixS, oCatT, oCat, mslT, mpart, mnopart, List.getElem?_cons_zero, List.getElem?_cons_succ, List.set_cons_zero, List.set_cons_succ, ownLL_0, ownLL_1, ownLL_2, ownLL_3, ownLL_4, Rs.bind_ok, toRs_some, lift_some, asInt_int, asList_list, asTup_tup, noErr_ok, obind_some, asBool_bool, Bool.not_true, Bool.not_false, isT, isNone_none, isNone_int, isNone_bool, isNone_tup, isNone_list, ifT, ifF, atI_vec, h3, h1, h2, at0]
    exact ⟨_, _, _, _, rfl⟩
  · rintro s ⟨x5, x6, x7, x8, rfl⟩
    rw [rangeD_len]
    obtain ⟨k, m, h1, h2⟩ := edge n (by omega)
    have h3 := hr.lt n (by omega)
    obtain ⟨d, d1, d2, d3, d4⟩ := hr.closed
    simp -implicitDefEqProofs only [nr_seq, after_app, nr_nx, nr_rt, br_ok, nr_ite, Int.cast_ofNat_Int, Int.reduceEq, ne_eq, not_true_eq_false, not_false_eq_true, Bool.false_eq_true, if_false, Int.reduceLE, Int.reduceLT, Int.reduceNeg, Int.reduceSub, Int.reduceAdd, decide_eq_true_eq, Bool.or_false, Bool.or_true, true_or, or_true, or_false, false_or, decide_not, bne_self_eq_false, Option.some.injEq, startS, startH, startScr, List.map, List.cons_append, List.nil_append, List.append_nil, List.length_cons, List.length_nil, List.length_set, List.replicate_zero, List.replicate_succ, Nat.reduceAdd, Nat.reduceSub, Nat.reduceLT, Nat.reduceLeDiff, Nat.zero_add, Nat.reduceMul, and_self, and_true, true_and, if_true, reduceIte, decide_true, decide_false, Nat.lt_irrefl, sif, sset, mD, mL, mLL, mLL0, stg, gset, gtup, gcons, gnil, sret, sfl, sdrop, saug, mtest, mnot, mand, mor, mandV, morV, mnotV, mife, mcallQ, mcallH, mcall, mcallL, mcallS, mcallSL, mcons, mnil, mv, mc, mop, mopL, mun, misi, mfrz, mP, pv', pop, mchain, mtrue, mrevL, mit, mitems, mcallScr, mscr, scrOf, mlcomp, oAdd, oSub, oMul, oDiv, oMod, oPow, oLt, oLe, oGt, oGe, o2I, o2IC, oNeg, oIsN, oNotN, oIsB, oNotB, oLst, oTup, oTupS, oLenS, asInt2, spar, spar3, sput, smut, oApp, mixS, slotL, ownL, SV.fz, oItems, oItemsT, oIxT, oIxL, oTupOf, oListOf, oEnumT, oLen, on1, oInt, oAbs, oMax2, oMin2, gput, unwipe, wipeS, oldS, mcallS, oExt, sappL, sapp2, sput2, pix2, pixS, oCatT, oCat, mslT, mpart, mnopart, List.getElem?_cons_zero, List.getElem?_cons_succ, List.set_cons_zero, List.set_cons_succ, ownLL_0, ownLL_1, ownLL_2, ownLL_3, ownLL_4, Rs.bind_ok, toRs_some, lift_some, asInt_int, asList_list, asTup_tup, noErr_ok, obind_some, asBool_bool, Bool.not_true, Bool.not_false, isT, isNone_none, isNone_int, isNone_bool, isNone_tup, isNone_list, ifT, ifF, atI_vec, h3, h1, h2, at0]
    refine nr_while (P := fun r s => ∃ q R x5 x8, 1 ≤ q ∧ q + r = d ∧ R.length = q ∧ s = [some (.d (.int n)), some (.d (wsD W)), some (.d (.list (vec n fun v => .int (S.x v)))), some (.d (.list (vec n fun v => optD (S.by_ v)))), some (.d (.int (back W S v n))), x5, some (.ol R), some (.d (.int (back W S (back W S v n) q))), x8]) (d - 1) 1000 _ (by omega) ?_ ?_
    · exact ⟨1, [.int k], _, _, by omega, by omega, rfl, rfl⟩
    · rintro r s ⟨q, R, x5, x8, q1, q2, q3, rfl⟩
      have q4 : back W S (back W S v n) q < n := by
        obtain ⟨j', j1, j2⟩ := d4 q
        rw [j2]
        exact hr.lt j' j1
      have q5 : (back W S (back W S v n) q : Int) ≠ (back W S v n : Int) → q < d := fun e => by
        by_cases e2 : q = d
        · subst e2; rw [d3] at e; exact absurd rfl e
        · omega
      have q6 : R.length < 100000 := by omega
      obtain ⟨i', m', p1, p2⟩ : ∃ i m, optD (S.by_ (back W S (back W S v n) q)) = .int i ∧ atI (W.map wD) (i : Int) = some (.tuple [.int (back W S (back W S v n) (q + 1)), .int (back W S (back W S v n) q), .int m]) := by
        obtain ⟨j', j1, j2⟩ := d4 q
        obtain ⟨i, m, e1, e2⟩ := edge j' j1
        refine ⟨i, m, by rw [j2]; exact e1, ?_⟩
        have : back W S (back W S v n) (q + 1) = back W S v (j' + 1) := congrArg (parOf W S) j2
        rw [this, j2]
        exact e2
      simp -implicitDefEqProofs only [nr_seq, after_app, nr_nx, nr_rt, br_ok, nr_ite, Int.cast_ofNat_Int, Int.reduceEq, ne_eq, not_true_eq_false, not_false_eq_true, Bool.false_eq_true, if_false, Int.reduceLE, Int.reduceLT, Int.reduceNeg, Int.reduceSub, Int.reduceAdd, decide_eq_true_eq, Bool.or_false, Bool.or_true, true_or, or_true, or_false, false_or, decide_not, bne_self_eq_false, Option.some.injEq, startS, startH, startScr, List.map, List.cons_append, List.nil_append, List.append_nil, List.length_cons, List.length_nil, List.length_set, List.replicate_zero, List.replicate_succ, Nat.reduceAdd, Nat.reduceSub, Nat.reduceLT, Nat.reduceLeDiff, Nat.zero_add, Nat.reduceMul, and_self, and_true, true_and, if_true, reduceIte, decide_true, decide_false, Nat.lt_irrefl, sif, sset, mD, mL, mLL, mLL0, stg, gset, gtup, gcons, gnil, sret, sfl, sdrop, saug, mtest, mnot, mand, mor, mandV, morV, mnotV, mife, mcallQ, mcallH, mcall, mcallL, mcallS, mcallSL, mcons, mnil, mv, mc, mop, mopL, mun, misi, mfrz, mP, pv', pop, mchain, mtrue, mrevL, mit, mitems, mcallScr, mscr, scrOf, mlcomp, oAdd, oSub, oMul, oDiv, oMod, oPow, oLt, oLe, oGt, oGe, o2I, o2IC, oNeg, oIsN, oNotN, oIsB, oNotB, oLst, oTup, oTupS, oLenS, asInt2, spar, spar3, sput, smut, oApp, mixS, slotL, ownL, SV.fz, oItems, oItemsT, oIxT, oIxL, oTupOf, oListOf, oEnumT, oLen, on1, oInt, oAbs, oMax2, oMin2, gput, unwipe, wipeS, oldS, mcallS, oExt, sappL, sapp2, sput2, pix2, pixS, oCatT, oCat, mslT, mpart, mnopart, List.getElem?_cons_zero, List.getElem?_cons_succ, List.set_cons_zero, List.set_cons_succ, ownLL_0, ownLL_1, ownLL_2, ownLL_3, ownLL_4, Rs.bind_ok, toRs_some, lift_some, asInt_int, asList_list, asTup_tup, noErr_ok, obind_some, asBool_bool, Bool.not_true, Bool.not_false, isT, isNone_none, isNone_int, isNone_bool, isNone_tup, isNone_list, ifT, ifF, oNe_int]
      refine ⟨fun hb => ?_, fun hb => ?_⟩
      · have hb' : ¬ ((back W S (back W S v n) q : Int) = (back W S v n : Int)) := by simpa using hb
        have q7 := q5 hb'
        simp -implicitDefEqProofs only [nr_seq, after_app, nr_nx, nr_rt, br_ok, nr_ite, Int.cast_ofNat_Int, Int.reduceEq, ne_eq, not_true_eq_false, not_false_eq_true, Bool.false_eq_true, if_false, Int.reduceLE, Int.reduceLT, Int.reduceNeg, Int.reduceSub, Int.reduceAdd, decide_eq_true_eq, Bool.or_false, Bool.or_true, true_or, or_true, or_false, false_or, decide_not, bne_self_eq_false, Option.some.injEq, startS, startH, startScr, List.map, List.cons_append, List.nil_append, List.append_nil, List.length_cons, List.length_nil, List.length_set, List.replicate_zero, List.replicate_succ, Nat.reduceAdd, Nat.reduceSub, Nat.reduceLT, Nat.reduceLeDiff, Nat.zero_add, Nat.reduceMul, and_self, and_true, true_and, if_true, reduceIte, decide_true, decide_false, Nat.lt_irrefl, sif, sset, mD, mL, mLL, mLL0, stg, gset, gtup, gcons, gnil, sret, sfl, sdrop, saug, mtest, mnot, mand, mor, mandV, morV, mnotV, mife, mcallQ, mcallH, mcall, mcallL, mcallS, mcallSL, mcons, mnil, mv, mc, mop, mopL, mun, misi, mfrz, mP, pv', pop, mchain, mtrue, mrevL, mit, mitems, mcallScr, mscr, scrOf, mlcomp, oAdd, oSub, oMul, oDiv, oMod, oPow, oLt, oLe, oGt, oGe, o2I, o2IC, oNeg, oIsN, oNotN, oIsB, oNotB, oLst, oTup, oTupS, oLenS, asInt2, spar, spar3, sput, smut, oApp, mixS, slotL, ownL, SV.fz, oItems, oItemsT, oIxT, oIxL, oTupOf, oListOf, oEnumT, oLen, on1, oInt, oAbs, oMax2, oMin2, gput, unwipe, wipeS, oldS, mcallS, oExt, sappL, sapp2, sput2, pix2, pixS, oCatT, oCat, mslT, mpart, mnopart, List.getElem?_cons_zero, List.getElem?_cons_succ, List.set_cons_zero, List.set_cons_succ, ownLL_0, ownLL_1, ownLL_2, ownLL_3, ownLL_4, Rs.bind_ok, toRs_some, lift_some, asInt_int, asList_list, asTup_tup, noErr_ok, obind_some, asBool_bool, Bool.not_true, Bool.not_false, isT, isNone_none, isNone_int, isNone_bool, isNone_tup, isNone_list, ifT, ifF, atI_vec, q4, q6, p1, p2, at0]
        exact ⟨r - 1, by omega, q + 1, _, _, _, by omega, by omega, by rw [List.length_append, q3]; rfl, rfl⟩
      · exact ⟨_, rfl⟩
def fz (n : Nat) (W : List Wi) : Bool := (bsettle W (n + 1) bstart).last.isNone
theorem fz_iff {n : Nat} {W : List Wi} (h : Va n W) : fz n W = true ↔ Feas W := by
  unfold fz
  rcases bsettle_ok h.ok with ⟨h1, _, h2⟩ | ⟨v, h1, _, _, h2⟩
  · rw [h1]; exact ⟨fun _ => h2, fun _ => rfl⟩
  · rw [h1]; exact ⟨fun e => (by cases e), fun e => absurd e h2⟩
theorem told_eq {n : Nat} {W : List Wi} (h : Va n W) : ∃ X, m_wishes_told [.int n, wsD W] = .ok X ∧ ∃ t, X = .tuple [if fz n W = true then sMom else sRing, t] := by
  unfold fz
  rcases bsettle_ok h.ok with ⟨h1, _, h2⟩ | ⟨v, h1, _, h3, h2⟩
  · rw [h1]; exact told_moments h h1
  · rw [h1]; exact told_ring h h1 h3
theorem eq_mom {b : Bool} : oEq (if b = true then sMom else sRing) sMom = some (.bool b) := by cases b <;> (unfold oEq; rw [if_pos (by decide +kernel), if_pos (by decide +kernel)]; congr 2)
theorem eq_ring {b : Bool} : oEq (if b = true then sMom else sRing) sRing = some (.bool (!b)) := by cases b <;> (unfold oEq; rw [if_pos (by decide +kernel), if_pos (by decide +kernel)]; congr 2)
theorem can_keep_eq {n : Nat} {W : List Wi} (h : Va n W) : m_can_keep [.int n, wsD W] = .ok (.bool (fz n W)) := by
  obtain ⟨X, h1, t, rfl⟩ := told_eq h
  unfold m_can_keep b_can_keep
  refine mdef_of ?_
  simp -implicitDefEqProofs only [nr_seq, after_app, nr_nx, nr_rt, br_ok, nr_ite, Int.cast_ofNat_Int, Int.reduceEq, ne_eq, not_true_eq_false, not_false_eq_true, Bool.false_eq_true, if_false, Int.reduceLE, Int.reduceLT, Int.reduceNeg, Int.reduceSub, Int.reduceAdd, decide_eq_true_eq, Bool.or_false, Bool.or_true, true_or, or_true, or_false, false_or, decide_not, bne_self_eq_false, Option.some.injEq, startS, startH, startScr, List.map, List.cons_append, List.nil_append, List.append_nil, List.length_cons, List.length_nil, List.length_set, List.replicate_zero, List.replicate_succ, Nat.reduceAdd, Nat.reduceSub, Nat.reduceLT, Nat.reduceLeDiff, Nat.zero_add, Nat.reduceMul, and_self, and_true, true_and, if_true, reduceIte, decide_true, decide_false, Nat.lt_irrefl, sif, sset, mD, mL, mLL, mLL0, stg, gset, gtup, gcons, gnil, sret, sfl, sdrop, saug, mtest, mnot, mand, mor, mandV, morV, mnotV, mife, mcallQ, mcallH, mcall, mcallL, mcallS, mcallSL, mcons, mnil, mv, mc, mop, mopL, mun, misi, mfrz, mP, pv', pop, mchain, mtrue, mrevL, mit, mitems, mcallScr, mscr, scrOf, mlcomp, oAdd, oSub, oMul, oDiv, oMod, oPow, oLt, oLe, oGt, oGe, o2I, o2IC, oNeg, oIsN, oNotN, oIsB, oNotB, oLst, oTup, oTupS, oLenS, asInt2, spar, spar3, sput, smut, oApp, mixS, slotL, ownL, SV.fz, oItems, oItemsT, oIxT, oIxL, oTupOf, oListOf, oEnumT, oLen, on1, oInt, oAbs, oMax2, oMin2, gput, unwipe, wipeS, oldS, mcallS, oExt, sappL, sapp2, sput2, pix2, pixS, oCatT, oCat, mslT, mpart, mnopart, List.getElem?_cons_zero, List.getElem?_cons_succ, List.set_cons_zero, List.set_cons_succ, ownLL_0, ownLL_1, ownLL_2, ownLL_3, ownLL_4, Rs.bind_ok, toRs_some, lift_some, asInt_int, asList_list, asTup_tup, noErr_ok, obind_some, asBool_bool, Bool.not_true, Bool.not_false, isT, isNone_none, isNone_int, isNone_bool, isNone_tup, isNone_list, ifT, ifF, h1, at0, eq_mom]
def oD : Option Int → D
  | none => .none
  | some i => .int i
theorem oD_none : oD none = .none := by rfl
theorem oD_some {i : Int} : oD (some i) = .int i := by rfl
def mat (n : Nat) (M : Mx) : List (List D) := vec n fun i => vec n fun j => oD (M i j)
theorem mat_len {n : Nat} {M : Mx} : (mat n M).length = n := vec_len
theorem mat_at {n : Nat} {M : Mx} {i : Nat} (h : i < n) : atI (mat n M) (i : Int) = some (vec n fun j => oD (M i j)) := atI_vec h
theorem mat_get {n : Nat} {M : Mx} {i : Nat} (h : i < n) : (mat n M)[i]? = some (vec n fun j => oD (M i j)) := vec_get h
theorem mat_put {n : Nat} {M : Mx} {a b : Nat} {y : Int} : (mat n M).set a (vec n (up (fun j => oD (M a j)) b (.int y))) = mat n (mup M a b (some y)) := by
  unfold mat
  rw [vec_set]
  congr 1
  funext i
  unfold mup
  by_cases hi : i = a
  · subst hi
    rw [up_eq, up_eq]
    congr 1
    funext j
    by_cases hj : j = b
    · subst hj; rw [up_eq, up_eq]; rfl
    · rw [up_ne hj, up_ne hj]
  · rw [up_ne hi, up_ne hi]
abbrev fwLoop : SD → Rs (Fl × SD) := (sfor (mit oRange1 (mcons (mv 0) mnil)) (gset 6)
 ((sfor (mit oRange1 (mcons (mv 0) mnil)) (gset 3)
 ((sfor (mit oRange1 (mcons (mv 0) mnil)) (gset 4)
 ((sif (mand (mtest (mop oNotN (mP (pix2 2 (pv' 3) (pv' 6))) (mc .none))) (mtest (mop oNotN (mP (pix2 2 (pv' 6) (pv' 4))) (mc .none))))
 (sseq (sset 7 (mD (mop oAdd (mP (pix2 2 (pv' 3) (pv' 6))) (mP (pix2 2 (pv' 6) (pv' 4))))))
  (sif (mor (mtest (mop oIsN (mP (pix2 2 (pv' 3) (pv' 4))) (mc .none))) (mtest (mop oLt (mv 7) (mP (pix2 2 (pv' 3) (pv' 4))))))
 (sput2 2 (mv 7) (pv' 3) (pv' 4))
 (sfl .nx)))
 (sfl .nx))))))))
theorem fw_loop {n : Nat} {w : Option SV} {M : Mx} {x3 x4 x5 x6 x7 : Option SV} {tl : SD} {Q : SD → Prop} {R : D → SD → Prop} (hn : n ≤ 30)
    (hq : ∀ x3 x4 x6 x7, Q (some (.d (.int n)) :: w :: some (.oll (mat n (outer n M n))) :: x3 :: x4 :: x5 :: x6 :: x7 :: tl)) :
    NR (fwLoop (some (.d (.int n)) :: w :: some (.oll (mat n M)) :: x3 :: x4 :: x5 :: x6 :: x7 :: tl)) Q R := by
  have hn5 : n ≤ 100000 := by omega
  refine nr_fors (P := fun c s => ∃ x3 x4 x6 x7, s = some (.d (.int n)) :: w :: some (.oll (mat n (outer n M c))) :: x3 :: x4 :: x5 :: x6 :: x7 :: tl) (ds := rangeD 0 n) ?_ ⟨_, _, _, _, rfl⟩ ?_ ?_
  · simp -implicitDefEqProofs only [nr_seq, after_app, nr_nx, nr_rt, br_ok, nr_ite, Int.cast_ofNat_Int, Int.reduceEq, ne_eq, not_true_eq_false, not_false_eq_true, Bool.false_eq_true, if_false, Int.reduceLE, Int.reduceLT, Int.reduceNeg, Int.reduceSub, Int.reduceAdd, decide_eq_true_eq, Bool.or_false, Bool.or_true, true_or, or_true, or_false, false_or, decide_not, bne_self_eq_false, Option.some.injEq, startS, startH, startScr, List.map, List.cons_append, List.nil_append, List.append_nil, List.length_cons, List.length_nil, List.length_set, List.replicate_zero, List.replicate_succ, Nat.reduceAdd, Nat.reduceSub, Nat.reduceLT, Nat.reduceLeDiff, Nat.zero_add, Nat.reduceMul, and_self, and_true, true_and, if_true, reduceIte, decide_true, decide_false, Nat.lt_irrefl, sif, sset, mD, mL, mLL, mLL0, stg, gset, gtup, gcons, gnil, sret, sfl, sdrop, saug, mtest, mnot, mand, mor, mandV, morV, mnotV, mife, mcallQ, mcallH, mcall, mcallL, mcallS, mcallSL, mcons, mnil, mv, mc, mop, mopL, mun, misi, mfrz, mP, pv', pop, mchain, mtrue, mrevL, mit, mitems, mcallScr, mscr, scrOf, mlcomp, oAdd, oSub, oMul, oDiv, oMod, oPow, oLt, oLe, oGt, oGe, o2I, o2IC, oNeg, oIsN, oNotN, oIsB, oNotB, oLst, oTup, oTupS, oLenS, asInt2, spar, spar3, sput, smut, oApp, mixS, slotL, ownL, SV.fz, oItems, oItemsT, oIxT, oIxL, oTupOf, oListOf, oEnumT, oLen, on1, oInt, oAbs, oMax2, oMin2, gput, unwipe, wipeS, oldS, mcallS, oExt, sappL, sapp2, sput2, pix2, pixS, oCatT, oCat, mslT, mpart, mnopart, List.getElem?_cons_zero, List.getElem?_cons_succ, List.set_cons_zero, List.set_cons_succ, ownLL_0, ownLL_1, ownLL_2, ownLL_3, ownLL_4, Rs.bind_ok, toRs_some, lift_some, asInt_int, asList_list, asTup_tup, noErr_ok, obind_some, asBool_bool, Bool.not_true, Bool.not_false, isT, isNone_none, isNone_int, isNone_bool, isNone_tup, isNone_list, ifT, ifF, range1_nat hn5]
  · rintro c d s hd ⟨x3, x4, x6, x7, rfl⟩
    obtain ⟨hc, rfl⟩ := rangeD_get hd
    show NR _ (fun s => ∃ x3 x4 x6 x7, s = some (.d (.int n)) :: w :: some (.oll (mat n (mid n c (outer n M c) n))) :: x3 :: x4 :: x5 :: x6 :: x7 :: tl) R
    generalize outer n M c = N
    unfold turn
    simp -implicitDefEqProofs only [nr_seq, after_app, nr_nx, nr_rt, br_ok, nr_ite, Int.cast_ofNat_Int, Int.reduceEq, ne_eq, not_true_eq_false, not_false_eq_true, Bool.false_eq_true, if_false, Int.reduceLE, Int.reduceLT, Int.reduceNeg, Int.reduceSub, Int.reduceAdd, decide_eq_true_eq, Bool.or_false, Bool.or_true, true_or, or_true, or_false, false_or, decide_not, bne_self_eq_false, Option.some.injEq, startS, startH, startScr, List.map, List.cons_append, List.nil_append, List.append_nil, List.length_cons, List.length_nil, List.length_set, List.replicate_zero, List.replicate_succ, Nat.reduceAdd, Nat.reduceSub, Nat.reduceLT, Nat.reduceLeDiff, Nat.zero_add, Nat.reduceMul, and_self, and_true, true_and, if_true, reduceIte, decide_true, decide_false, Nat.lt_irrefl, sif, sset, mD, mL, mLL, mLL0, stg, gset, gtup, gcons, gnil, sret, sfl, sdrop, saug, mtest, mnot, mand, mor, mandV, morV, mnotV, mife, mcallQ, mcallH, mcall, mcallL, mcallS, mcallSL, mcons, mnil, mv, mc, mop, mopL, mun, misi, mfrz, mP, pv', pop, mchain, mtrue, mrevL, mit, mitems, mcallScr, mscr, scrOf, mlcomp, oAdd, oSub, oMul, oDiv, oMod, oPow, oLt, oLe, oGt, oGe, o2I, o2IC, oNeg, oIsN, oNotN, oIsB, oNotB, oLst, oTup, oTupS, oLenS, asInt2, spar, spar3, sput, smut, oApp, mixS, slotL, ownL, SV.fz, oItems, oItemsT, oIxT, oIxL, oTupOf, oListOf, oEnumT, oLen, on1, oInt, oAbs, oMax2, oMin2, gput, unwipe, wipeS, oldS, mcallS, oExt, sappL, sapp2, sput2, pix2, pixS, oCatT, oCat, mslT, mpart, mnopart, List.getElem?_cons_zero, List.getElem?_cons_succ, List.set_cons_zero, List.set_cons_succ, ownLL_0, ownLL_1, ownLL_2, ownLL_3, ownLL_4, Rs.bind_ok, toRs_some, lift_some, asInt_int, asList_list, asTup_tup, noErr_ok, obind_some, asBool_bool, Bool.not_true, Bool.not_false, isT, isNone_none, isNone_int, isNone_bool, isNone_tup, isNone_list, ifT, ifF]
    refine nr_fors (P := fun i s => ∃ x3 x4 x7, s = some (.d (.int n)) :: w :: some (.oll (mat n (mid n c N i))) :: x3 :: x4 :: x5 :: some (.d (.int c)) :: x7 :: tl) (ds := rangeD 0 n) ?_ ⟨_, _, _, rfl⟩ ?_ ?_
    · simp -implicitDefEqProofs only [nr_seq, after_app, nr_nx, nr_rt, br_ok, nr_ite, Int.cast_ofNat_Int, Int.reduceEq, ne_eq, not_true_eq_false, not_false_eq_true, Bool.false_eq_true, if_false, Int.reduceLE, Int.reduceLT, Int.reduceNeg, Int.reduceSub, Int.reduceAdd, decide_eq_true_eq, Bool.or_false, Bool.or_true, true_or, or_true, or_false, false_or, decide_not, bne_self_eq_false, Option.some.injEq, startS, startH, startScr, List.map, List.cons_append, List.nil_append, List.append_nil, List.length_cons, List.length_nil, List.length_set, List.replicate_zero, List.replicate_succ, Nat.reduceAdd, Nat.reduceSub, Nat.reduceLT, Nat.reduceLeDiff, Nat.zero_add, Nat.reduceMul, and_self, and_true, true_and, if_true, reduceIte, decide_true, decide_false, Nat.lt_irrefl, sif, sset, mD, mL, mLL, mLL0, stg, gset, gtup, gcons, gnil, sret, sfl, sdrop, saug, mtest, mnot, mand, mor, mandV, morV, mnotV, mife, mcallQ, mcallH, mcall, mcallL, mcallS, mcallSL, mcons, mnil, mv, mc, mop, mopL, mun, misi, mfrz, mP, pv', pop, mchain, mtrue, mrevL, mit, mitems, mcallScr, mscr, scrOf, mlcomp, oAdd, oSub, oMul, oDiv, oMod, oPow, oLt, oLe, oGt, oGe, o2I, o2IC, oNeg, oIsN, oNotN, oIsB, oNotB, oLst, oTup, oTupS, oLenS, asInt2, spar, spar3, sput, smut, oApp, mixS, slotL, ownL, SV.fz, oItems, oItemsT, oIxT, oIxL, oTupOf, oListOf, oEnumT, oLen, on1, oInt, oAbs, oMax2, oMin2, gput, unwipe, wipeS, oldS, mcallS, oExt, sappL, sapp2, sput2, pix2, pixS, oCatT, oCat, mslT, mpart, mnopart, List.getElem?_cons_zero, List.getElem?_cons_succ, List.set_cons_zero, List.set_cons_succ, ownLL_0, ownLL_1, ownLL_2, ownLL_3, ownLL_4, Rs.bind_ok, toRs_some, lift_some, asInt_int, asList_list, asTup_tup, noErr_ok, obind_some, asBool_bool, Bool.not_true, Bool.not_false, isT, isNone_none, isNone_int, isNone_bool, isNone_tup, isNone_list, ifT, ifF, range1_nat hn5]
    · rintro i d s hd ⟨x3, x4, x7, rfl⟩
      obtain ⟨hi, rfl⟩ := rangeD_get hd
      show NR _ (fun s => ∃ x3 x4 x7, s = some (.d (.int n)) :: w :: some (.oll (mat n (inner c i (mid n c N i) n))) :: x3 :: x4 :: x5 :: some (.d (.int c)) :: x7 :: tl) R
      generalize mid n c N i = N
      unfold turn
      simp -implicitDefEqProofs only [nr_seq, after_app, nr_nx, nr_rt, br_ok, nr_ite, Int.cast_ofNat_Int, Int.reduceEq, ne_eq, not_true_eq_false, not_false_eq_true, Bool.false_eq_true, if_false, Int.reduceLE, Int.reduceLT, Int.reduceNeg, Int.reduceSub, Int.reduceAdd, decide_eq_true_eq, Bool.or_false, Bool.or_true, true_or, or_true, or_false, false_or, decide_not, bne_self_eq_false, Option.some.injEq, startS, startH, startScr, List.map, List.cons_append, List.nil_append, List.append_nil, List.length_cons, List.length_nil, List.length_set, List.replicate_zero, List.replicate_succ, Nat.reduceAdd, Nat.reduceSub, Nat.reduceLT, Nat.reduceLeDiff, Nat.zero_add, Nat.reduceMul, and_self, and_true, true_and, if_true, reduceIte, decide_true, decide_false, Nat.lt_irrefl, sif, sset, mD, mL, mLL, mLL0, stg, gset, gtup, gcons, gnil, sret, sfl, sdrop, saug, mtest, mnot, mand, mor, mandV, morV, mnotV, mife, mcallQ, mcallH, mcall, mcallL, mcallS, mcallSL, mcons, mnil, mv, mc, mop, mopL, mun, misi, mfrz, mP, pv', pop, mchain, mtrue, mrevL, mit, mitems, mcallScr, mscr, scrOf, mlcomp, oAdd, oSub, oMul, oDiv, oMod, oPow, oLt, oLe, oGt, oGe, o2I, o2IC, oNeg, oIsN, oNotN, oIsB, oNotB, oLst, oTup, oTupS, oLenS, asInt2, spar, spar3, sput, smut, oApp, mixS, slotL, ownL, SV.fz, oItems, oItemsT, oIxT, oIxL, oTupOf, oListOf, oEnumT, oLen, on1, oInt, oAbs, oMax2, oMin2, gput, unwipe, wipeS, oldS, mcallS, oExt, sappL, sapp2, sput2, pix2, pixS, oCatT, oCat, mslT, mpart, mnopart, List.getElem?_cons_zero, List.getElem?_cons_succ, List.set_cons_zero, List.set_cons_succ, ownLL_0, ownLL_1, ownLL_2, ownLL_3, ownLL_4, Rs.bind_ok, toRs_some, lift_some, asInt_int, asList_list, asTup_tup, noErr_ok, obind_some, asBool_bool, Bool.not_true, Bool.not_false, isT, isNone_none, isNone_int, isNone_bool, isNone_tup, isNone_list, ifT, ifF]
      refine nr_fors (P := fun j s => ∃ x4 x7, s = some (.d (.int n)) :: w :: some (.oll (mat n (inner c i N j))) :: some (.d (.int i)) :: x4 :: x5 :: some (.d (.int c)) :: x7 :: tl) (ds := rangeD 0 n) ?_ ⟨_, _, rfl⟩ ?_ ?_
      · simp -implicitDefEqProofs only [nr_seq, after_app, nr_nx, nr_rt, br_ok, nr_ite, Int.cast_ofNat_Int, Int.reduceEq, ne_eq, not_true_eq_false, not_false_eq_true, Bool.false_eq_true, if_false, Int.reduceLE, Int.reduceLT, Int.reduceNeg, Int.reduceSub, Int.reduceAdd, decide_eq_true_eq, Bool.or_false, Bool.or_true, true_or, or_true, or_false, false_or, decide_not, bne_self_eq_false, Option.some.injEq, startS, startH, startScr, List.map, List.cons_append, List.nil_append, List.append_nil, List.length_cons, List.length_nil, List.length_set, List.replicate_zero, List.replicate_succ, Nat.reduceAdd, Nat.reduceSub, Nat.reduceLT, Nat.reduceLeDiff, Nat.zero_add, Nat.reduceMul, and_self, and_true, true_and, if_true, reduceIte, decide_true, decide_false, Nat.lt_irrefl, sif, sset, mD, mL, mLL, mLL0, stg, gset, gtup, gcons, gnil, sret, sfl, sdrop, saug, mtest, mnot, mand, mor, mandV, morV, mnotV, mife, mcallQ, mcallH, mcall, mcallL, mcallS, mcallSL, mcons, mnil, mv, mc, mop, mopL, mun, misi, mfrz, mP, pv', pop, mchain, mtrue, mrevL, mit, mitems, mcallScr, mscr, scrOf, mlcomp, oAdd, oSub, oMul, oDiv, oMod, oPow, oLt, oLe, oGt, oGe, o2I, o2IC, oNeg, oIsN, oNotN, oIsB, oNotB, oLst, oTup, oTupS, oLenS, asInt2, spar, spar3, sput, smut, oApp, mixS, slotL, ownL, SV.fz, oItems, oItemsT, oIxT, oIxL, oTupOf, oListOf, oEnumT, oLen, on1, oInt, oAbs, oMax2, oMin2, gput, unwipe, wipeS, oldS, mcallS, oExt, sappL, sapp2, sput2, pix2, pixS, oCatT, oCat, mslT, mpart, mnopart, List.getElem?_cons_zero, List.getElem?_cons_succ, List.set_cons_zero, List.set_cons_succ, ownLL_0, ownLL_1, ownLL_2, ownLL_3, ownLL_4, Rs.bind_ok, toRs_some, lift_some, asInt_int, asList_list, asTup_tup, noErr_ok, obind_some, asBool_bool, Bool.not_true, Bool.not_false, isT, isNone_none, isNone_int, isNone_bool, isNone_tup, isNone_list, ifT, ifF, range1_nat hn5]
      · rintro j d s hd ⟨x4, x7, rfl⟩
        obtain ⟨hj, rfl⟩ := rangeD_get hd
        show NR _ (fun s => ∃ x4 x7, s = some (.d (.int n)) :: w :: some (.oll (mat n (relax (inner c i N j) c i j))) :: some (.d (.int i)) :: x4 :: x5 :: some (.d (.int c)) :: x7 :: tl) R
        generalize inner c i N j = N
        unfold turn relax comb
        cases h1 : N i c with
        | none =>
          simp -implicitDefEqProofs only [nr_seq, after_app, nr_nx, nr_rt, br_ok, nr_ite, Int.cast_ofNat_Int, Int.reduceEq, ne_eq, not_true_eq_false, not_false_eq_true, Bool.false_eq_true, if_false, Int.reduceLE, Int.reduceLT, Int.reduceNeg, Int.reduceSub, Int.reduceAdd, decide_eq_true_eq, Bool.or_false, Bool.or_true, true_or, or_true, or_false, false_or, decide_not, bne_self_eq_false, Option.some.injEq, startS, startH, startScr, List.map, List.cons_append, List.nil_append, List.append_nil, List.length_cons, List.length_nil, List.length_set, List.replicate_zero, List.replicate_succ, Nat.reduceAdd, Nat.reduceSub, Nat.reduceLT, Nat.reduceLeDiff, Nat.zero_add, Nat.reduceMul, and_self, and_true, true_and, if_true, reduceIte, decide_true, decide_false, Nat.lt_irrefl, sif, sset, mD, mL, mLL, mLL0, stg, gset, gtup, gcons, gnil, sret, sfl, sdrop, saug, mtest, mnot, mand, mor, mandV, morV, mnotV, mife, mcallQ, mcallH, mcall, mcallL, mcallS, mcallSL, mcons, mnil, mv, mc, mop, mopL, mun, misi, mfrz, mP, pv', pop, mchain, mtrue, mrevL, mit, mitems, mcallScr, mscr, scrOf, mlcomp, oAdd, oSub, oMul, oDiv, oMod, oPow, oLt, oLe, oGt, oGe, o2I, o2IC, oNeg, oIsN, oNotN, oIsB, oNotB, oLst, oTup, oTupS, oLenS, asInt2, spar, spar3, sput, smut, oApp, mixS, slotL, ownL, SV.fz, oItems, oItemsT, oIxT, oIxL, oTupOf, oListOf, oEnumT, oLen, on1, oInt, oAbs, oMax2, oMin2, gput, unwipe, wipeS, oldS, mcallS, oExt, sappL, sapp2, sput2, pix2, pixS, oCatT, oCat, mslT, mpart, mnopart, List.getElem?_cons_zero, List.getElem?_cons_succ, List.set_cons_zero, List.set_cons_succ, ownLL_0, ownLL_1, ownLL_2, ownLL_3, ownLL_4, Rs.bind_ok, toRs_some, lift_some, asInt_int, asList_list, asTup_tup, noErr_ok, obind_some, asBool_bool, Bool.not_true, Bool.not_false, isT, isNone_none, isNone_int, isNone_bool, isNone_tup, isNone_list, ifT, ifF, mat_at, hi, hc, atI_vec, h1, oD_none, mup_self]
          exact ⟨_, _, rfl⟩
        | some y =>
          cases h2 : N c j with
          | none =>
            simp -implicitDefEqProofs only [nr_seq, after_app, nr_nx, nr_rt, br_ok, nr_ite, Int.cast_ofNat_Int, Int.reduceEq, ne_eq, not_true_eq_false, not_false_eq_true, Bool.false_eq_true, if_false, Int.reduceLE, Int.reduceLT, Int.reduceNeg, Int.reduceSub, Int.reduceAdd, decide_eq_true_eq, Bool.or_false, Bool.or_true, true_or, or_true, or_false, false_or, decide_not, bne_self_eq_false, Option.some.injEq, startS, startH, startScr, List.map, List.cons_append, List.nil_append, List.append_nil, List.length_cons, List.length_nil, List.length_set, List.replicate_zero, List.replicate_succ, Nat.reduceAdd, Nat.reduceSub, Nat.reduceLT, Nat.reduceLeDiff, Nat.zero_add, Nat.reduceMul, and_self, and_true, true_and, if_true, reduceIte, decide_true, decide_false, Nat.lt_irrefl, sif, sset, mD, mL, mLL, mLL0, stg, gset, gtup, gcons, gnil, sret, sfl, sdrop, saug, mtest, mnot, mand, mor, mandV, morV, mnotV, mife, mcallQ, mcallH, mcall, mcallL, mcallS, mcallSL, mcons, mnil, mv, mc, mop, mopL, mun, misi, mfrz, mP, pv', pop, mchain, mtrue, mrevL, mit, mitems, mcallScr, mscr, scrOf, mlcomp, oAdd, oSub, oMul, oDiv, oMod, oPow, oLt, oLe, oGt, oGe, o2I, o2IC, oNeg, oIsN, oNotN, oIsB, oNotB, oLst, oTup, oTupS, oLenS, asInt2, spar, spar3, sput, smut, oApp, mixS, slotL, ownL, SV.fz, oItems, oItemsT, oIxT, oIxL, oTupOf, oListOf, oEnumT, oLen, on1, oInt, oAbs, oMax2, oMin2, gput, unwipe, wipeS, oldS, mcallS, oExt, sappL, sapp2, sput2, pix2, pixS, oCatT, oCat, mslT, mpart, mnopart, List.getElem?_cons_zero, List.getElem?_cons_succ, List.set_cons_zero, List.set_cons_succ, ownLL_0, ownLL_1, ownLL_2, ownLL_3, ownLL_4, Rs.bind_ok, toRs_some, lift_some, asInt_int, asList_list, asTup_tup, noErr_ok, obind_some, asBool_bool, Bool.not_true, Bool.not_false, isT, isNone_none, isNone_int, isNone_bool, isNone_tup, isNone_list, ifT, ifF, mat_at, hi, hc, hj, atI_vec, h1, h2, oD_none, oD_some, mup_self]
            exact ⟨_, _, rfl⟩
          | some z =>
            cases h3 : N i j with
            | none =>
              simp -implicitDefEqProofs only [nr_seq, after_app, nr_nx, nr_rt, br_ok, nr_ite, Int.cast_ofNat_Int, Int.reduceEq, ne_eq, not_true_eq_false, not_false_eq_true, Bool.false_eq_true, if_false, Int.reduceLE, Int.reduceLT, Int.reduceNeg, Int.reduceSub, Int.reduceAdd, decide_eq_true_eq, Bool.or_false, Bool.or_true, true_or, or_true, or_false, false_or, decide_not, bne_self_eq_false, Option.some.injEq, startS, startH, startScr, List.map, List.cons_append, List.nil_append, List.append_nil, List.length_cons, List.length_nil, List.length_set, List.replicate_zero, List.replicate_succ, Nat.reduceAdd, Nat.reduceSub, Nat.reduceLT, Nat.reduceLeDiff, Nat.zero_add, Nat.reduceMul, and_self, and_true, true_and, if_true, reduceIte, decide_true, decide_false, Nat.lt_irrefl, sif, sset, mD, mL, mLL, mLL0, stg, gset, gtup, gcons, gnil, sret, sfl, sdrop, saug, mtest, mnot, mand, mor, mandV, morV, mnotV, mife, mcallQ, mcallH, mcall, mcallL, mcallS, mcallSL, mcons, mnil, mv, mc, mop, mopL, mun, misi, mfrz, mP, pv', pop, mchain, mtrue, mrevL, mit, mitems, mcallScr, mscr, scrOf, mlcomp, oAdd, oSub, oMul, oDiv, oMod, oPow, oLt, oLe, oGt, oGe, o2I, o2IC, oNeg, oIsN, oNotN, oIsB, oNotB, oLst, oTup, oTupS, oLenS, asInt2, spar, spar3, sput, smut, oApp, mixS, slotL, ownL, SV.fz, oItems, oItemsT, oIxT, oIxL, oTupOf, oListOf, oEnumT, oLen, on1, oInt, oAbs, oMax2, oMin2, gput, unwipe, wipeS, oldS, mcallS, oExt, sappL, sapp2, sput2, pix2, pixS, oCatT, oCat, mslT, mpart, mnopart, List.getElem?_cons_zero, List.getElem?_cons_succ, List.set_cons_zero, List.set_cons_succ, ownLL_0, ownLL_1, ownLL_2, ownLL_3, ownLL_4, Rs.bind_ok, toRs_some, lift_some, asInt_int, asList_list, asTup_tup, noErr_ok, obind_some, asBool_bool, Bool.not_true, Bool.not_false, isT, isNone_none, isNone_int, isNone_bool, isNone_tup, isNone_list, ifT, ifF, mat_at, mat_len, mat_get, mat_put, hi, hc, hj, atI_vec, h1, h2, h3, oD_none, oD_some, lessO, ixN_nat, vec_len, vec_set]
              exact ⟨_, _, rfl⟩
            | some u =>
              by_cases hlt : y + z < u
              · simp -implicitDefEqProofs only [nr_seq, after_app, nr_nx, nr_rt, br_ok, nr_ite, Int.cast_ofNat_Int, Int.reduceEq, ne_eq, not_true_eq_false, not_false_eq_true, Bool.false_eq_true, if_false, Int.reduceLE, Int.reduceLT, Int.reduceNeg, Int.reduceSub, Int.reduceAdd, decide_eq_true_eq, Bool.or_false, Bool.or_true, true_or, or_true, or_false, false_or, decide_not, bne_self_eq_false, Option.some.injEq, startS, startH, startScr, List.map, List.cons_append, List.nil_append, List.append_nil, List.length_cons, List.length_nil, List.length_set, List.replicate_zero, List.replicate_succ, Nat.reduceAdd, Nat.reduceSub, Nat.reduceLT, Nat.reduceLeDiff, Nat.zero_add, Nat.reduceMul, and_self, and_true, true_and, if_true, reduceIte, decide_true, decide_false, Nat.lt_irrefl, sif, sset, mD, mL, mLL, mLL0, stg, gset, gtup, gcons, gnil, sret, sfl, sdrop, saug, mtest, mnot, mand, mor, mandV, morV, mnotV, mife, mcallQ, mcallH, mcall, mcallL, mcallS, mcallSL, mcons, mnil, mv, mc, mop, mopL, mun, misi, mfrz, mP, pv', pop, mchain, mtrue, mrevL, mit, mitems, mcallScr, mscr, scrOf, mlcomp, oAdd, oSub, oMul, oDiv, oMod, oPow, oLt, oLe, oGt, oGe, o2I, o2IC, oNeg, oIsN, oNotN, oIsB, oNotB, oLst, oTup, oTupS, oLenS, asInt2, spar, spar3, sput, smut, oApp, mixS, slotL, ownL, SV.fz, oItems, oItemsT, oIxT, oIxL, oTupOf, oListOf, oEnumT, oLen, on1, oInt, oAbs, oMax2, oMin2, gput, unwipe, wipeS, oldS, mcallS, oExt, sappL, sapp2, sput2, pix2, pixS, oCatT, oCat, mslT, mpart, mnopart, List.getElem?_cons_zero, List.getElem?_cons_succ, List.set_cons_zero, List.set_cons_succ, ownLL_0, ownLL_1, ownLL_2, ownLL_3, ownLL_4, Rs.bind_ok, toRs_some, lift_some, asInt_int, asList_list, asTup_tup, noErr_ok, obind_some, asBool_bool, Bool.not_true, Bool.not_false, isT, isNone_none, isNone_int, isNone_bool, isNone_tup, isNone_list, ifT, ifF, mat_at, mat_len, mat_get, mat_put, hi, hc, hj, atI_vec, h1, h2, h3, oD_none, oD_some, lessO, ixN_nat, vec_len, vec_set, hlt]
                exact ⟨_, _, rfl⟩
              · have : mup N i j (some u) = N := by rw [← h3]; exact mup_self
                simp -implicitDefEqProofs only [nr_seq, after_app, nr_nx, nr_rt, br_ok, nr_ite, Int.cast_ofNat_Int, Int.reduceEq, ne_eq, not_true_eq_false, not_false_eq_true, Bool.false_eq_true, if_false, Int.reduceLE, Int.reduceLT, Int.reduceNeg, Int.reduceSub, Int.reduceAdd, decide_eq_true_eq, Bool.or_false, Bool.or_true, true_or, or_true, or_false, false_or, decide_not, bne_self_eq_false, Option.some.injEq, startS, startH, startScr, List.map, List.cons_append, List.nil_append, List.append_nil, List.length_cons, List.length_nil, List.length_set, List.replicate_zero, List.replicate_succ, Nat.reduceAdd, Nat.reduceSub, Nat.reduceLT, Nat.reduceLeDiff, Nat.zero_add, Nat.reduceMul, and_self, and_true, true_and, if_true, reduceIte, decide_true, decide_false, Nat.lt_irrefl, sif, sset, mD, mL, mLL, mLL0, stg, gset, gtup, gcons, gnil, sret, sfl, sdrop, saug, mtest, mnot, mand, mor, mandV, morV, mnotV, mife, mcallQ, mcallH, mcall, mcallL, mcallS, mcallSL, mcons, mnil, mv, mc, mop, mopL, mun, misi, mfrz, mP, pv', pop, mchain, mtrue, mrevL, mit, mitems, mcallScr, mscr, scrOf, mlcomp, oAdd, oSub, oMul, oDiv, oMod, oPow, oLt, oLe, oGt, oGe, o2I, o2IC, oNeg, oIsN, oNotN, oIsB, oNotB, oLst, oTup, oTupS, oLenS, asInt2, spar, spar3, sput, smut, oApp, mixS, slotL, ownL, SV.fz, oItems, oItemsT, oIxT, oIxL, oTupOf, oListOf, oEnumT, oLen, on1, oInt, oAbs, oMax2, oMin2, gput, unwipe, wipeS, oldS, mcallS, oExt, sappL, sapp2, sput2, pix2, pixS, oCatT, oCat, mslT, mpart, mnopart, List.getElem?_cons_zero, List.getElem?_cons_succ, List.set_cons_zero, List.set_cons_succ, ownLL_0, ownLL_1, ownLL_2, ownLL_3, ownLL_4, Rs.bind_ok, toRs_some, lift_some, asInt_int, asList_list, asTup_tup, noErr_ok, obind_some, asBool_bool, Bool.not_true, Bool.not_false, isT, isNone_none, isNone_int, isNone_bool, isNone_tup, isNone_list, ifT, ifF, mat_at, mat_len, mat_get, mat_put, hi, hc, hj, atI_vec, h1, h2, h3, oD_none, oD_some, lessO, ixN_nat, vec_len, vec_set, hlt, this]
                exact ⟨_, _, rfl⟩
      · rintro s ⟨x4, x7, rfl⟩
        rw [rangeD_len]
        exact ⟨_, _, _, rfl⟩
    · rintro s ⟨x3, x4, x7, rfl⟩
      rw [rangeD_len]
      exact ⟨_, _, _, _, rfl⟩
  · rintro s ⟨x3, x4, x6, x7, rfl⟩
    rw [rangeD_len]
    exact hq _ _ _ _
end K39
namespace K39
open PySem L2 Evl Mir Wsh
def asI : D → Int
  | .int i => i
  | _ => 0
theorem asI_int {i : Int} : asI (.int i) = i := by rfl
theorem rangeD_vec {n : Nat} : rangeD 0 n = vec n fun i => .int (i : Nat) := by simp [rangeD, vec]
def rowT (n : Nat) (r : Nat → Option Int) : D := .tuple (vec n fun j => oD (r j))
def matT (n : Nat) (M : Mx) : D := .tuple (vec n fun i => rowT n (M i))
def matL (n : Nat) (M : Mx) : D := .list (vec n fun i => .list (vec n fun j => oD (M i j)))
theorem eq_min {m y : Int} : (if y < m then y else m) = (if m < y then m else y) := by
  by_cases h1 : y < m <;> by_cases h2 : m < y
  · omega
  · rw [if_pos h1, if_neg h2]
  · rw [if_neg h1, if_pos h2]
  · rw [if_neg h1, if_neg h2]; omega
theorem put_take {W : List Wi} {j : Nat} {w : Wi} {M : Mx} (h : W[j]? = some w) : (W.take (j + 1)).foldl put M = put ((W.take j).foldl put M) w := by
  rw [List.take_add_one, h]
  simp [List.foldl_append]
theorem ws_get {W : List Wi} {i : Nat} {d : D} (h : (W.map wD)[i]? = some d) : ∃ a b m, W[i]? = some (a, b, m) ∧ d = .tuple [.int a, .int b, .int m] := by
  rw [List.getElem?_map] at h
  cases h2 : W[i]? with
  | none => rw [h2] at h; cases h
  | some w => rw [h2] at h; cases h; exact ⟨w.1, w.2.1, w.2.2, rfl, rfl⟩
theorem bounds_eq {n : Nat} {W : List Wi} (h : Va n W) : m_bounds [.int n, wsD W] = .ok (if fz n W = true then matT n (fw n W) else .none) := by
  have hn := h.le
  have hn5 : n ≤ 100000 := by omega
  have hck := can_keep_eq h
  unfold m_bounds b_bounds
  refine mdef_of ?_
  cases hz : fz n W with
  | false =>
    rw [hz] at hck
    simp -implicitDefEqProofs only [nr_seq, after_app, nr_nx, nr_rt, br_ok, nr_ite, Int.cast_ofNat_Int, Int.reduceEq, ne_eq, not_true_eq_false, not_false_eq_true, Bool.false_eq_true, if_false, Int.reduceLE, Int.reduceLT, Int.reduceNeg, Int.reduceSub, Int.reduceAdd, decide_eq_true_eq, Bool.or_false, Bool.or_true, true_or, or_true, or_false, false_or, decide_not, bne_self_eq_false, Option.some.injEq, startS, startH, startScr, List.map, List.cons_append, List.nil_append, List.append_nil, List.length_cons, List.length_nil, List.length_set, List.replicate_zero, List.replicate_succ, Nat.reduceAdd, Nat.reduceSub, Nat.reduceLT, Nat.reduceLeDiff, Nat.zero_add, Nat.reduceMul, and_self, and_true, true_and, if_true, reduceIte, decide_true, decide_false, Nat.lt_irrefl, sif, sset, mD, mL, mLL, mLL0, stg, gset, gtup, gcons, gnil, sret, sfl, sdrop, saug, mtest, mnot, mand, mor, mandV, morV, mnotV, mife, mcallQ, mcallH, mcall, mcallL, mcallS, mcallSL, mcons, mnil, mv, mc, mop, mopL, mun, misi, mfrz, mP, pv', pop, mchain, mtrue, mrevL, mit, mitems, mcallScr, mscr, scrOf, mlcomp, oAdd, oSub, oMul, oDiv, oMod, oPow, oLt, oLe, oGt, oGe, o2I, o2IC, oNeg, oIsN, oNotN, oIsB, oNotB, oLst, oTup, oTupS, oLenS, asInt2, spar, spar3, sput, smut, oApp, mixS, slotL, ownL, SV.fz, oItems, oItemsT, oIxT, oIxL, oTupOf, oListOf, oEnumT, oLen, on1, oInt, oAbs, oMax2, oMin2, gput, unwipe, wipeS, oldS, mcallS, oExt, sappL, sapp2, sput2, pix2, pixS, oCatT, oCat, mslT, mpart, mnopart, List.getElem?_cons_zero, List.getElem?_cons_succ, List.set_cons_zero, List.set_cons_succ, ownLL_0, ownLL_1, ownLL_2, ownLL_3, ownLL_4, Rs.bind_ok, toRs_some, lift_some, asInt_int, asList_list, asTup_tup, noErr_ok, obind_some, asBool_bool, Bool.not_true, Bool.not_false, isT, isNone_none, isNone_int, isNone_bool, isNone_tup, isNone_list, ifT, ifF, hck]
  | true =>
    rw [hz] at hck
    simp -implicitDefEqProofs only [nr_seq, after_app, nr_nx, nr_rt, br_ok, nr_ite, Int.cast_ofNat_Int, Int.reduceEq, ne_eq, not_true_eq_false, not_false_eq_true, Bool.false_eq_true, if_false, Int.reduceLE, Int.reduceLT, Int.reduceNeg, Int.reduceSub, Int.reduceAdd, decide_eq_true_eq, Bool.or_false, Bool.or_true, true_or, or_true, or_false, false_or, decide_not, bne_self_eq_false, Option.some.injEq, startS, startH, startScr, List.map, List.cons_append, List.nil_append, List.append_nil, List.length_cons, List.length_nil, List.length_set, List.replicate_zero, List.replicate_succ, Nat.reduceAdd, Nat.reduceSub, Nat.reduceLT, Nat.reduceLeDiff, Nat.zero_add, Nat.reduceMul, and_self, and_true, true_and, if_true, reduceIte, decide_true, decide_false, Nat.lt_irrefl, sif, sset, mD, mL, mLL, mLL0, stg, gset, gtup, gcons, gnil, sret, sfl, sdrop, saug, mtest, mnot, mand, mor, mandV, morV, mnotV, mife, mcallQ, mcallH, mcall, mcallL, mcallS, mcallSL, mcons, mnil, mv, mc, mop, mopL, mun, misi, mfrz, mP, pv', pop, mchain, mtrue, mrevL, mit, mitems, mcallScr, mscr, scrOf, mlcomp, oAdd, oSub, oMul, oDiv, oMod, oPow, oLt, oLe, oGt, oGe, o2I, o2IC, oNeg, oIsN, oNotN, oIsB, oNotB, oLst, oTup, oTupS, oLenS, asInt2, spar, spar3, sput, smut, oApp, mixS, slotL, ownL, SV.fz, oItems, oItemsT, oIxT, oIxL, oTupOf, oListOf, oEnumT, oLen, on1, oInt, oAbs, oMax2, oMin2, gput, unwipe, wipeS, oldS, mcallS, oExt, sappL, sapp2, sput2, pix2, pixS, oCatT, oCat, mslT, mpart, mnopart, List.getElem?_cons_zero, List.getElem?_cons_succ, List.set_cons_zero, List.set_cons_succ, ownLL_0, ownLL_1, ownLL_2, ownLL_3, ownLL_4, Rs.bind_ok, toRs_some, lift_some, asInt_int, asList_list, asTup_tup, noErr_ok, obind_some, asBool_bool, Bool.not_true, Bool.not_false, isT, isNone_none, isNone_int, isNone_bool, isNone_tup, isNone_list, ifT, ifF, hck, range1_nat hn5, rangeD_len, hn5]
    rw [mlc_all (v := fun d => vec n fun j => if asI d = (j : Int) then PyData.int 0 else PyData.none) _ (fun d hd => ?_)]
    · have e0 : (rangeD 0 n).map (fun d => vec n fun j => if asI d = (j : Int) then PyData.int 0 else PyData.none) = mat n (init []) := by
        rw [rangeD_vec, vec_map]
        unfold mat
        congr 1
        funext i
        congr 1
        funext j
        rw [asI_int]
        show _ = oD (diag i j)
        unfold diag
        by_cases e : i = j
        · rw [if_pos (by omega), if_pos e]; rfl
        · rw [if_neg (by omega), if_neg e]; rfl
      simp -implicitDefEqProofs only [nr_seq, after_app, nr_nx, nr_rt, br_ok, nr_ite, Int.cast_ofNat_Int, Int.reduceEq, ne_eq, not_true_eq_false, not_false_eq_true, Bool.false_eq_true, if_false, Int.reduceLE, Int.reduceLT, Int.reduceNeg, Int.reduceSub, Int.reduceAdd, decide_eq_true_eq, Bool.or_false, Bool.or_true, true_or, or_true, or_false, false_or, decide_not, bne_self_eq_false, Option.some.injEq, startS, startH, startScr, List.map, List.cons_append, List.nil_append, List.append_nil, List.length_cons, List.length_nil, List.length_set, List.replicate_zero, List.replicate_succ, Nat.reduceAdd, Nat.reduceSub, Nat.reduceLT, Nat.reduceLeDiff, Nat.zero_add, Nat.reduceMul, and_self, and_true, true_and, if_true, reduceIte, decide_true, decide_false, Nat.lt_irrefl, sif, sset, mD, mL, mLL, mLL0, stg, gset, gtup, gcons, gnil, sret, sfl, sdrop, saug, mtest, mnot, mand, mor, mandV, morV, mnotV, mife, mcallQ, mcallH, mcall, mcallL, mcallS, mcallSL, mcons, mnil, mv, mc, mop, mopL, mun, misi, mfrz, mP, pv', pop, mchain, mtrue, mrevL, mit, mitems, mcallScr, mscr, scrOf, mlcomp, oAdd, oSub, oMul, oDiv, oMod, oPow, oLt, oLe, oGt, oGe, o2I, o2IC, oNeg, oIsN, oNotN, oIsB, oNotB, oLst, oTup, oTupS, oLenS, asInt2, spar, spar3, sput, smut, oApp, mixS, slotL, ownL, SV.fz, oItems, oItemsT, oIxT, oIxL, oTupOf, oListOf, oEnumT, oLen, on1, oInt, oAbs, oMax2, oMin2, gput, unwipe, wipeS, oldS, mcallS, oExt, sappL, sapp2, sput2, pix2, pixS, oCatT, oCat, mslT, mpart, mnopart, List.getElem?_cons_zero, List.getElem?_cons_succ, List.set_cons_zero, List.set_cons_succ, ownLL_0, ownLL_1, ownLL_2, ownLL_3, ownLL_4, Rs.bind_ok, toRs_some, lift_some, asInt_int, asList_list, asTup_tup, noErr_ok, obind_some, asBool_bool, Bool.not_true, Bool.not_false, isT, isNone_none, isNone_int, isNone_bool, isNone_tup, isNone_list, ifT, ifF, e0]
      refine nr_fors (P := fun i s => ∃ x3 x4 x5, s = some (.d (.int n)) :: some (.d (wsD W)) :: some (.oll (mat n (init (W.take i)))) :: x3 :: x4 :: x5 :: none :: none :: none :: []) (ds := W.map wD) ?_ ⟨_, _, _, rfl⟩ ?_ ?_
      · simp -implicitDefEqProofs only [nr_seq, after_app, nr_nx, nr_rt, br_ok, nr_ite, Int.cast_ofNat_Int, Int.reduceEq, ne_eq, not_true_eq_false, not_false_eq_true, Bool.false_eq_true, if_false, Int.reduceLE, Int.reduceLT, Int.reduceNeg, Int.reduceSub, Int.reduceAdd, decide_eq_true_eq, Bool.or_false, Bool.or_true, true_or, or_true, or_false, false_or, decide_not, bne_self_eq_false, Option.some.injEq, startS, startH, startScr, List.map, List.cons_append, List.nil_append, List.append_nil, List.length_cons, List.length_nil, List.length_set, List.replicate_zero, List.replicate_succ, Nat.reduceAdd, Nat.reduceSub, Nat.reduceLT, Nat.reduceLeDiff, Nat.zero_add, Nat.reduceMul, and_self, and_true, true_and, if_true, reduceIte, decide_true, decide_false, Nat.lt_irrefl, sif, sset, mD, mL, mLL, mLL0, stg, gset, gtup, gcons, gnil, sret, sfl, sdrop, saug, mtest, mnot, mand, mor, mandV, morV, mnotV, mife, mcallQ, mcallH, mcall, mcallL, mcallS, mcallSL, mcons, mnil, mv, mc, mop, mopL, mun, misi, mfrz, mP, pv', pop, mchain, mtrue, mrevL, mit, mitems, mcallScr, mscr, scrOf, mlcomp, oAdd, oSub, oMul, oDiv, oMod, oPow, oLt, oLe, oGt, oGe, o2I, o2IC, oNeg, oIsN, oNotN, oIsB, oNotB, oLst, oTup, oTupS, oLenS, asInt2, spar, spar3, sput, smut, oApp, mixS, slotL, ownL, SV.fz, oItems, oItemsT, oIxT, oIxL, oTupOf, oListOf, oEnumT, oLen, on1, oInt, oAbs, oMax2, oMin2, gput, unwipe, wipeS, oldS, mcallS, oExt, sappL, sapp2, sput2, pix2, pixS, oCatT, oCat, mslT, mpart, mnopart, List.getElem?_cons_zero, List.getElem?_cons_succ, List.set_cons_zero, List.set_cons_succ, ownLL_0, ownLL_1, ownLL_2, ownLL_3, ownLL_4, Rs.bind_ok, toRs_some, lift_some, asInt_int, asList_list, asTup_tup, noErr_ok, obind_some, asBool_bool, Bool.not_true, Bool.not_false, isT, isNone_none, isNone_int, isNone_bool, isNone_tup, isNone_list, ifT, ifF]
      · rintro i d s hd ⟨x3, x4, x5, rfl⟩
        obtain ⟨a, b, m, hw, rfl⟩ := ws_get hd
        obtain ⟨ha, hb, hab⟩ := h.ok.get hw
        unfold init
        rw [put_take hw]
        generalize (W.take i).foldl put diag = M
        unfold turn put
        dsimp only
        cases h1 : M a b with
        | none =>
          simp -implicitDefEqProofs only [nr_seq, after_app, nr_nx, nr_rt, br_ok, nr_ite, Int.cast_ofNat_Int, Int.reduceEq, ne_eq, not_true_eq_false, not_false_eq_true, Bool.false_eq_true, if_false, Int.reduceLE, Int.reduceLT, Int.reduceNeg, Int.reduceSub, Int.reduceAdd, decide_eq_true_eq, Bool.or_false, Bool.or_true, true_or, or_true, or_false, false_or, decide_not, bne_self_eq_false, Option.some.injEq, startS, startH, startScr, List.map, List.cons_append, List.nil_append, List.append_nil, List.length_cons, List.length_nil, List.length_set, List.replicate_zero, List.replicate_succ, Nat.reduceAdd, Nat.reduceSub, Nat.reduceLT, Nat.reduceLeDiff, Nat.zero_add, Nat.reduceMul, and_self, and_true, true_and, if_true, reduceIte, decide_true, decide_false, Nat.lt_irrefl, sif, sset, mD, mL, mLL, mLL0, stg, gset, gtup, gcons, gnil, sret, sfl, sdrop, saug, mtest, mnot, mand, mor, mandV, morV, mnotV, mife, mcallQ, mcallH, mcall, mcallL, mcallS, mcallSL, mcons, mnil, mv, mc, mop, mopL, mun, misi, mfrz, mP, pv', pop, mchain, mtrue, mrevL, mit, mitems, mcallScr, mscr, scrOf, mlcomp, oAdd, oSub, oMul, oDiv, oMod, oPow, oLt, oLe, oGt, oGe, o2I, o2IC, oNeg, oIsN, oNotN, oIsB, oNotB, oLst, oTup, oTupS, oLenS, asInt2, spar, spar3, sput, smut, oApp, mixS, slotL, ownL, SV.fz, oItems, oItemsT, oIxT, oIxL, oTupOf, oListOf, oEnumT, oLen, on1, oInt, oAbs, oMax2, oMin2, gput, unwipe, wipeS, oldS, mcallS, oExt, sappL, sapp2, sput2, pix2, pixS, oCatT, oCat, mslT, mpart, mnopart, List.getElem?_cons_zero, List.getElem?_cons_succ, List.set_cons_zero, List.set_cons_succ, ownLL_0, ownLL_1, ownLL_2, ownLL_3, ownLL_4, Rs.bind_ok, toRs_some, lift_some, asInt_int, asList_list, asTup_tup, noErr_ok, obind_some, asBool_bool, Bool.not_true, Bool.not_false, isT, isNone_none, isNone_int, isNone_bool, isNone_tup, isNone_list, ifT, ifF, mat_at, mat_len, mat_get, mat_put, ha, hb, atI_vec, h1, oD_none, lessO, ixN_nat, vec_len, vec_set]
          exact ⟨_, _, _, rfl⟩
        | some y =>
          simp -implicitDefEqProofs only [nr_seq, after_app, nr_nx, nr_rt, br_ok, nr_ite, Int.cast_ofNat_Int, Int.reduceEq, ne_eq, not_true_eq_false, not_false_eq_true, Bool.false_eq_true, if_false, Int.reduceLE, Int.reduceLT, Int.reduceNeg, Int.reduceSub, Int.reduceAdd, decide_eq_true_eq, Bool.or_false, Bool.or_true, true_or, or_true, or_false, false_or, decide_not, bne_self_eq_false, Option.some.injEq, startS, startH, startScr, List.map, List.cons_append, List.nil_append, List.append_nil, List.length_cons, List.length_nil, List.length_set, List.replicate_zero, List.replicate_succ, Nat.reduceAdd, Nat.reduceSub, Nat.reduceLT, Nat.reduceLeDiff, Nat.zero_add, Nat.reduceMul, and_self, and_true, true_and, if_true, reduceIte, decide_true, decide_false, Nat.lt_irrefl, sif, sset, mD, mL, mLL, mLL0, stg, gset, gtup, gcons, gnil, sret, sfl, sdrop, saug, mtest, mnot, mand, mor, mandV, morV, mnotV, mife, mcallQ, mcallH, mcall, mcallL, mcallS, mcallSL, mcons, mnil, mv, mc, mop, mopL, mun, misi, mfrz, mP, pv', pop, mchain, mtrue, mrevL, mit, mitems, mcallScr, mscr, scrOf, mlcomp, oAdd, oSub, oMul, oDiv, oMod, oPow, oLt, oLe, oGt, oGe, o2I, o2IC, oNeg, oIsN, oNotN, oIsB, oNotB, oLst, oTup, oTupS, oLenS, asInt2, spar, spar3, sput, smut, oApp, mixS, slotL, ownL, SV.fz, oItems, oItemsT, oIxT, oIxL, oTupOf, oListOf, oEnumT, oLen, on1, oInt, oAbs, oMax2, oMin2, gput, unwipe, wipeS, oldS, mcallS, oExt, sappL, sapp2, sput2, pix2, pixS, oCatT, oCat, mslT, mpart, mnopart, List.getElem?_cons_zero, List.getElem?_cons_succ, List.set_cons_zero, List.set_cons_succ, ownLL_0, ownLL_1, ownLL_2, ownLL_3, ownLL_4, Rs.bind_ok, toRs_some, lift_some, asInt_int, asList_list, asTup_tup, noErr_ok, obind_some, asBool_bool, Bool.not_true, Bool.not_false, isT, isNone_none, isNone_int, isNone_bool, isNone_tup, isNone_list, ifT, ifF, mat_at, mat_len, mat_get, mat_put, ha, hb, atI_vec, h1, oD_some, lessO, ixN_nat, vec_len, vec_set, eq_min]
          exact ⟨_, _, _, rfl⟩
      · rintro s ⟨x3, x4, x5, rfl⟩
        rw [ws_len, List.take_length]
        simp -implicitDefEqProofs only [nr_seq, after_app, nr_nx, nr_rt, br_ok, nr_ite, Int.cast_ofNat_Int, Int.reduceEq, ne_eq, not_true_eq_false, not_false_eq_true, Bool.false_eq_true, if_false, Int.reduceLE, Int.reduceLT, Int.reduceNeg, Int.reduceSub, Int.reduceAdd, decide_eq_true_eq, Bool.or_false, Bool.or_true, true_or, or_true, or_false, false_or, decide_not, bne_self_eq_false, Option.some.injEq, startS, startH, startScr, List.map, List.cons_append, List.nil_append, List.append_nil, List.length_cons, List.length_nil, List.length_set, List.replicate_zero, List.replicate_succ, Nat.reduceAdd, Nat.reduceSub, Nat.reduceLT, Nat.reduceLeDiff, Nat.zero_add, Nat.reduceMul, and_self, and_true, true_and, if_true, reduceIte, decide_true, decide_false, Nat.lt_irrefl, sif, sset, mD, mL, mLL, mLL0, stg, gset, gtup, gcons, gnil, sret, sfl, sdrop, saug, mtest, mnot, mand, mor, mandV, morV, mnotV, mife, mcallQ, mcallH, mcall, mcallL, mcallS, mcallSL, mcons, mnil, mv, mc, mop, mopL, mun, misi, mfrz, mP, pv', pop, mchain, mtrue, mrevL, mit, mitems, mcallScr, mscr, scrOf, mlcomp, oAdd, oSub, oMul, oDiv, oMod, oPow, oLt, oLe, oGt, oGe, o2I, o2IC, oNeg, oIsN, oNotN, oIsB, oNotB, oLst, oTup, oTupS, oLenS, asInt2, spar, spar3, sput, smut, oApp, mixS, slotL, ownL, SV.fz, oItems, oItemsT, oIxT, oIxL, oTupOf, oListOf, oEnumT, oLen, on1, oInt, oAbs, oMax2, oMin2, gput, unwipe, wipeS, oldS, mcallS, oExt, sappL, sapp2, sput2, pix2, pixS, oCatT, oCat, mslT, mpart, mnopart, List.getElem?_cons_zero, List.getElem?_cons_succ, List.set_cons_zero, List.set_cons_succ, ownLL_0, ownLL_1, ownLL_2, ownLL_3, ownLL_4, Rs.bind_ok, toRs_some, lift_some, asInt_int, asList_list, asTup_tup, noErr_ok, obind_some, asBool_bool, Bool.not_true, Bool.not_false, isT, isNone_none, isNone_int, isNone_bool, isNone_tup, isNone_list, ifT, ifF]
        refine fw_loop hn fun x3 x4 x6 x7 => ?_
        have e8 : outer n (init W) n = fw n W := rfl
        rw [e8]
        simp -implicitDefEqProofs only [nr_seq, after_app, nr_nx, nr_rt, br_ok, nr_ite, Int.cast_ofNat_Int, Int.reduceEq, ne_eq, not_true_eq_false, not_false_eq_true, Bool.false_eq_true, if_false, Int.reduceLE, Int.reduceLT, Int.reduceNeg, Int.reduceSub, Int.reduceAdd, decide_eq_true_eq, Bool.or_false, Bool.or_true, true_or, or_true, or_false, false_or, decide_not, bne_self_eq_false, Option.some.injEq, startS, startH, startScr, List.map, List.cons_append, List.nil_append, List.append_nil, List.length_cons, List.length_nil, List.length_set, List.replicate_zero, List.replicate_succ, Nat.reduceAdd, Nat.reduceSub, Nat.reduceLT, Nat.reduceLeDiff, Nat.zero_add, Nat.reduceMul, and_self, and_true, true_and, if_true, reduceIte, decide_true, decide_false, Nat.lt_irrefl, sif, sset, mD, mL, mLL, mLL0, stg, gset, gtup, gcons, gnil, sret, sfl, sdrop, saug, mtest, mnot, mand, mor, mandV, morV, mnotV, mife, mcallQ, mcallH, mcall, mcallL, mcallS, mcallSL, mcons, mnil, mv, mc, mop, mopL, mun, misi, mfrz, mP, pv', pop, mchain, mtrue, mrevL, mit, mitems, mcallScr, mscr, scrOf, mlcomp, oAdd, oSub, oMul, oDiv, oMod, oPow, oLt, oLe, oGt, oGe, o2I, o2IC, oNeg, oIsN, oNotN, oIsB, oNotB, oLst, oTup, oTupS, oLenS, asInt2, spar, spar3, sput, smut, oApp, mixS, slotL, ownL, SV.fz, oItems, oItemsT, oIxT, oIxL, oTupOf, oListOf, oEnumT, oLen, on1, oInt, oAbs, oMax2, oMin2, gput, unwipe, wipeS, oldS, mcallS, oExt, sappL, sapp2, sput2, pix2, pixS, oCatT, oCat, mslT, mpart, mnopart, List.getElem?_cons_zero, List.getElem?_cons_succ, List.set_cons_zero, List.set_cons_succ, ownLL_0, ownLL_1, ownLL_2, ownLL_3, ownLL_4, Rs.bind_ok, toRs_some, lift_some, asInt_int, asList_list, asTup_tup, noErr_ok, obind_some, asBool_bool, Bool.not_true, Bool.not_false, isT, isNone_none, isNone_int, isNone_bool, isNone_tup, isNone_list, ifT, ifF, mat_len, List.length_map, hn5]
        rw [mlc_all (v := fun d => match d with | .list l => .tuple l | d => d) _ (fun d hd => ?_)]
        · have e1 : (List.map PyData.list (mat n (fw n W))).map (fun d => match d with | .list l => PyData.tuple l | d => d) = vec n fun i => rowT n (fw n W i) := by
            unfold mat
            rw [vec_map, vec_map]
            rfl
          simp -implicitDefEqProofs only [nr_seq, after_app, nr_nx, nr_rt, br_ok, nr_ite, Int.cast_ofNat_Int, Int.reduceEq, ne_eq, not_true_eq_false, not_false_eq_true, Bool.false_eq_true, if_false, Int.reduceLE, Int.reduceLT, Int.reduceNeg, Int.reduceSub, Int.reduceAdd, decide_eq_true_eq, Bool.or_false, Bool.or_true, true_or, or_true, or_false, false_or, decide_not, bne_self_eq_false, Option.some.injEq, startS, startH, startScr, List.map, List.cons_append, List.nil_append, List.append_nil, List.length_cons, List.length_nil, List.length_set, List.replicate_zero, List.replicate_succ, Nat.reduceAdd, Nat.reduceSub, Nat.reduceLT, Nat.reduceLeDiff, Nat.zero_add, Nat.reduceMul, and_self, and_true, true_and, if_true, reduceIte, decide_true, decide_false, Nat.lt_irrefl, sif, sset, mD, mL, mLL, mLL0, stg, gset, gtup, gcons, gnil, sret, sfl, sdrop, saug, mtest, mnot, mand, mor, mandV, morV, mnotV, mife, mcallQ, mcallH, mcall, mcallL, mcallS, mcallSL, mcons, mnil, mv, mc, mop, mopL, mun, misi, mfrz, mP, pv', pop, mchain, mtrue, mrevL, mit, mitems, mcallScr, mscr, scrOf, mlcomp, oAdd, oSub, oMul, oDiv, oMod, oPow, oLt, oLe, oGt, oGe, o2I, o2IC, oNeg, oIsN, oNotN, oIsB, oNotB, oLst, oTup, oTupS, oLenS, asInt2, spar, spar3, sput, smut, oApp, mixS, slotL, ownL, SV.fz, oItems, oItemsT, oIxT, oIxL, oTupOf, oListOf, oEnumT, oLen, on1, oInt, oAbs, oMax2, oMin2, gput, unwipe, wipeS, oldS, mcallS, oExt, sappL, sapp2, sput2, pix2, pixS, oCatT, oCat, mslT, mpart, mnopart, List.getElem?_cons_zero, List.getElem?_cons_succ, List.set_cons_zero, List.set_cons_succ, ownLL_0, ownLL_1, ownLL_2, ownLL_3, ownLL_4, Rs.bind_ok, toRs_some, lift_some, asInt_int, asList_list, asTup_tup, noErr_ok, obind_some, asBool_bool, Bool.not_true, Bool.not_false, isT, isNone_none, isNone_int, isNone_bool, isNone_tup, isNone_list, ifT, ifF]
          exact congrArg PyData.tuple e1
        · obtain ⟨r, hr, rfl⟩ := List.mem_map.mp hd
          simp -implicitDefEqProofs only [nr_seq, after_app, nr_nx, nr_rt, br_ok, nr_ite, Int.cast_ofNat_Int, Int.reduceEq, ne_eq, not_true_eq_false, not_false_eq_true, Bool.false_eq_true, if_false, Int.reduceLE, Int.reduceLT, Int.reduceNeg, Int.reduceSub, Int.reduceAdd, decide_eq_true_eq, Bool.or_false, Bool.or_true, true_or, or_true, or_false, false_or, decide_not, bne_self_eq_false, Option.some.injEq, startS, startH, startScr, List.map, List.cons_append, List.nil_append, List.append_nil, List.length_cons, List.length_nil, List.length_set, List.replicate_zero, List.replicate_succ, Nat.reduceAdd, Nat.reduceSub, Nat.reduceLT, Nat.reduceLeDiff, Nat.zero_add, Nat.reduceMul, and_self, and_true, true_and, if_true, reduceIte, decide_true, decide_false, Nat.lt_irrefl, sif, sset, mD, mL, mLL, mLL0, stg, gset, gtup, gcons, gnil, sret, sfl, sdrop, saug, mtest, mnot, mand, mor, mandV, morV, mnotV, mife, mcallQ, mcallH, mcall, mcallL, mcallS, mcallSL, mcons, mnil, mv, mc, mop, mopL, mun, misi, mfrz, mP, pv', pop, mchain, mtrue, mrevL, mit, mitems, mcallScr, mscr, scrOf, mlcomp, oAdd, oSub, oMul, oDiv, oMod, oPow, oLt, oLe, oGt, oGe, o2I, o2IC, oNeg, oIsN, oNotN, oIsB, oNotB, oLst, oTup, oTupS, oLenS, asInt2, spar, spar3, sput, smut, oApp, mixS, slotL, ownL, SV.fz, oItems, oItemsT, oIxT, oIxL, oTupOf, oListOf, oEnumT, oLen, on1, oInt, oAbs, oMax2, oMin2, gput, unwipe, wipeS, oldS, mcallS, oExt, sappL, sapp2, sput2, pix2, pixS, oCatT, oCat, mslT, mpart, mnopart, List.getElem?_cons_zero, List.getElem?_cons_succ, List.set_cons_zero, List.set_cons_succ, ownLL_0, ownLL_1, ownLL_2, ownLL_3, ownLL_4, Rs.bind_ok, toRs_some, lift_some, asInt_int, asList_list, asTup_tup, noErr_ok, obind_some, asBool_bool, Bool.not_true, Bool.not_false, isT, isNone_none, isNone_int, isNone_bool, isNone_tup, isNone_list, ifT, ifF]
    · rw [rangeD_vec] at hd
      obtain ⟨i, hi, rfl⟩ := vec_mem hd
      simp -implicitDefEqProofs only [nr_seq, after_app, nr_nx, nr_rt, br_ok, nr_ite, Int.cast_ofNat_Int, Int.reduceEq, ne_eq, not_true_eq_false, not_false_eq_true, Bool.false_eq_true, if_false, Int.reduceLE, Int.reduceLT, Int.reduceNeg, Int.reduceSub, Int.reduceAdd, decide_eq_true_eq, Bool.or_false, Bool.or_true, true_or, or_true, or_false, false_or, decide_not, bne_self_eq_false, Option.some.injEq, startS, startH, startScr, List.map, List.cons_append, List.nil_append, List.append_nil, List.length_cons, List.length_nil, List.length_set, List.replicate_zero, List.replicate_succ, Nat.reduceAdd, Nat.reduceSub, Nat.reduceLT, Nat.reduceLeDiff, Nat.zero_add, Nat.reduceMul, and_self, and_true, true_and, if_true, reduceIte, decide_true, decide_false, Nat.lt_irrefl, sif, sset, mD, mL, mLL, mLL0, stg, gset, gtup, gcons, gnil, sret, sfl, sdrop, saug, mtest, mnot, mand, mor, mandV, morV, mnotV, mife, mcallQ, mcallH, mcall, mcallL, mcallS, mcallSL, mcons, mnil, mv, mc, mop, mopL, mun, misi, mfrz, mP, pv', pop, mchain, mtrue, mrevL, mit, mitems, mcallScr, mscr, scrOf, mlcomp, oAdd, oSub, oMul, oDiv, oMod, oPow, oLt, oLe, oGt, oGe, o2I, o2IC, oNeg, oIsN, oNotN, oIsB, oNotB, oLst, oTup, oTupS, oLenS, asInt2, spar, spar3, sput, smut, oApp, mixS, slotL, ownL, SV.fz, oItems, oItemsT, oIxT, oIxL, oTupOf, oListOf, oEnumT, oLen, on1, oInt, oAbs, oMax2, oMin2, gput, unwipe, wipeS, oldS, mcallS, oExt, sappL, sapp2, sput2, pix2, pixS, oCatT, oCat, mslT, mpart, mnopart, List.getElem?_cons_zero, List.getElem?_cons_succ, List.set_cons_zero, List.set_cons_succ, ownLL_0, ownLL_1, ownLL_2, ownLL_3, ownLL_4, Rs.bind_ok, toRs_some, lift_some, asInt_int, asList_list, asTup_tup, noErr_ok, obind_some, asBool_bool, Bool.not_true, Bool.not_false, isT, isNone_none, isNone_int, isNone_bool, isNone_tup, isNone_list, ifT, ifF, range1_nat hn5, rangeD_len, hn5]
      rw [mlc_all (v := fun d => if (i : Int) = asI d then PyData.int 0 else PyData.none) _ (fun d hd => ?_)]
      · rw [rangeD_vec, vec_map]
        simp -implicitDefEqProofs only [nr_seq, after_app, nr_nx, nr_rt, br_ok, nr_ite, Int.cast_ofNat_Int, Int.reduceEq, ne_eq, not_true_eq_false, not_false_eq_true, Bool.false_eq_true, if_false, Int.reduceLE, Int.reduceLT, Int.reduceNeg, Int.reduceSub, Int.reduceAdd, decide_eq_true_eq, Bool.or_false, Bool.or_true, true_or, or_true, or_false, false_or, decide_not, bne_self_eq_false, Option.some.injEq, startS, startH, startScr, List.map, List.cons_append, List.nil_append, List.append_nil, List.length_cons, List.length_nil, List.length_set, List.replicate_zero, List.replicate_succ, Nat.reduceAdd, Nat.reduceSub, Nat.reduceLT, Nat.reduceLeDiff, Nat.zero_add, Nat.reduceMul, and_self, and_true, true_and, if_true, reduceIte, decide_true, decide_false, Nat.lt_irrefl, sif, sset, mD, mL, mLL, mLL0, stg, gset, gtup, gcons, gnil, sret, sfl, sdrop, saug, mtest, mnot, mand, mor, mandV, morV, mnotV, mife, mcallQ, mcallH, mcall, mcallL, mcallS, mcallSL, mcons, mnil, mv, mc, mop, mopL, mun, misi, mfrz, mP, pv', pop, mchain, mtrue, mrevL, mit, mitems, mcallScr, mscr, scrOf, mlcomp, oAdd, oSub, oMul, oDiv, oMod, oPow, oLt, oLe, oGt, oGe, o2I, o2IC, oNeg, oIsN, oNotN, oIsB, oNotB, oLst, oTup, oTupS, oLenS, asInt2, spar, spar3, sput, smut, oApp, mixS, slotL, ownL, SV.fz, oItems, oItemsT, oIxT, oIxL, oTupOf, oListOf, oEnumT, oLen, on1, oInt, oAbs, oMax2, oMin2, gput, unwipe, wipeS, oldS, mcallS, oExt, sappL, sapp2, sput2, pix2, pixS, oCatT, oCat, mslT, mpart, mnopart, List.getElem?_cons_zero, List.getElem?_cons_succ, List.set_cons_zero, List.set_cons_succ, ownLL_0, ownLL_1, ownLL_2, ownLL_3, ownLL_4, Rs.bind_ok, toRs_some, lift_some, asInt_int, asList_list, asTup_tup, noErr_ok, obind_some, asBool_bool, Bool.not_true, Bool.not_false, isT, isNone_none, isNone_int, isNone_bool, isNone_tup, isNone_list, ifT, ifF, asI_int]
      · rw [rangeD_vec] at hd
        obtain ⟨j, hj, rfl⟩ := vec_mem hd
        simp -implicitDefEqProofs only [nr_seq, after_app, nr_nx, nr_rt, br_ok, nr_ite, Int.cast_ofNat_Int, Int.reduceEq, ne_eq, not_true_eq_false, not_false_eq_true, Bool.false_eq_true, if_false, Int.reduceLE, Int.reduceLT, Int.reduceNeg, Int.reduceSub, Int.reduceAdd, decide_eq_true_eq, Bool.or_false, Bool.or_true, true_or, or_true, or_false, false_or, decide_not, bne_self_eq_false, Option.some.injEq, startS, startH, startScr, List.map, List.cons_append, List.nil_append, List.append_nil, List.length_cons, List.length_nil, List.length_set, List.replicate_zero, List.replicate_succ, Nat.reduceAdd, Nat.reduceSub, Nat.reduceLT, Nat.reduceLeDiff, Nat.zero_add, Nat.reduceMul, and_self, and_true, true_and, if_true, reduceIte, decide_true, decide_false, Nat.lt_irrefl, sif, sset, mD, mL, mLL, mLL0, stg, gset, gtup, gcons, gnil, sret, sfl, sdrop, saug, mtest, mnot, mand, mor, mandV, morV, mnotV, mife, mcallQ, mcallH, mcall, mcallL, mcallS, mcallSL, mcons, mnil, mv, mc, mop, mopL, mun, misi, mfrz, mP, pv', pop, mchain, mtrue, mrevL, mit, mitems, mcallScr, mscr, scrOf, mlcomp, oAdd, oSub, oMul, oDiv, oMod, oPow, oLt, oLe, oGt, oGe, o2I, o2IC, oNeg, oIsN, oNotN, oIsB, oNotB, oLst, oTup, oTupS, oLenS, asInt2, spar, spar3, sput, smut, oApp, mixS, slotL, ownL, SV.fz, oItems, oItemsT, oIxT, oIxL, oTupOf, oListOf, oEnumT, oLen, on1, oInt, oAbs, oMax2, oMin2, gput, unwipe, wipeS, oldS, mcallS, oExt, sappL, sapp2, sput2, pix2, pixS, oCatT, oCat, mslT, mpart, mnopart, List.getElem?_cons_zero, List.getElem?_cons_succ, List.set_cons_zero, List.set_cons_succ, ownLL_0, ownLL_1, ownLL_2, ownLL_3, ownLL_4, Rs.bind_ok, toRs_some, lift_some, asInt_int, asList_list, asTup_tup, noErr_ok, obind_some, asBool_bool, Bool.not_true, Bool.not_false, isT, isNone_none, isNone_int, isNone_bool, isNone_tup, isNone_list, ifT, ifF, oEq_int, asI_int]
        by_cases e : i = j
        · subst e; simp -implicitDefEqProofs only [nr_seq, after_app, nr_nx, nr_rt, br_ok, nr_ite, Int.cast_ofNat_Int, Int.reduceEq, ne_eq, not_true_eq_false, not_false_eq_true, Bool.false_eq_true, if_false, Int.reduceLE, Int.reduceLT, Int.reduceNeg, Int.reduceSub, Int.reduceAdd, decide_eq_true_eq, Bool.or_false, Bool.or_true, true_or, or_true, or_false, false_or, decide_not, bne_self_eq_false, Option.some.injEq, startS, startH, startScr, List.map, List.cons_append, List.nil_append, List.append_nil, List.length_cons, List.length_nil, List.length_set, List.replicate_zero, List.replicate_succ, Nat.reduceAdd, Nat.reduceSub, Nat.reduceLT, Nat.reduceLeDiff, Nat.zero_add, Nat.reduceMul, and_self, and_true, true_and, if_true, reduceIte, decide_true, decide_false, Nat.lt_irrefl, sif, sset, mD, mL, mLL, mLL0, stg, gset, gtup, gcons, gnil, sret, sfl, sdrop, saug, mtest, mnot, mand, mor, mandV, morV, mnotV, mife, mcallQ, mcallH, mcall, mcallL, mcallS, mcallSL, mcons, mnil, mv, mc, mop, mopL, mun, misi, mfrz, mP, pv', pop, mchain, mtrue, mrevL, mit, mitems, mcallScr, mscr, scrOf, mlcomp, oAdd, oSub, oMul, oDiv, oMod, oPow, oLt, oLe, oGt, oGe, o2I, o2IC, oNeg, oIsN, oNotN, oIsB, oNotB, oLst, oTup, oTupS, oLenS, asInt2, spar, spar3, sput, smut, oApp, mixS, slotL, ownL, SV.fz, oItems, oItemsT, oIxT, oIxL, oTupOf, oListOf, oEnumT, oLen, on1, oInt, oAbs, oMax2, oMin2, gput, unwipe, wipeS, oldS, mcallS, oExt, sappL, sapp2, sput2, pix2, pixS, oCatT, oCat, mslT, mpart, mnopart, List.getElem?_cons_zero, List.getElem?_cons_succ, List.set_cons_zero, List.set_cons_succ, ownLL_0, ownLL_1, ownLL_2, ownLL_3, ownLL_4, Rs.bind_ok, toRs_some, lift_some, asInt_int, asList_list, asTup_tup, noErr_ok, obind_some, asBool_bool, Bool.not_true, Bool.not_false, isT, isNone_none, isNone_int, isNone_bool, isNone_tup, isNone_list, ifT, ifF]
        · simp -implicitDefEqProofs only [nr_seq, after_app, nr_nx, nr_rt, br_ok, nr_ite, Int.cast_ofNat_Int, Int.reduceEq, ne_eq, not_true_eq_false, not_false_eq_true, Bool.false_eq_true, if_false, Int.reduceLE, Int.reduceLT, Int.reduceNeg, Int.reduceSub, Int.reduceAdd, decide_eq_true_eq, Bool.or_false, Bool.or_true, true_or, or_true, or_false, false_or, decide_not, bne_self_eq_false, Option.some.injEq, startS, startH, startScr, List.map, List.cons_append, List.nil_append, List.append_nil, List.length_cons, List.length_nil, List.length_set, List.replicate_zero, List.replicate_succ, Nat.reduceAdd, Nat.reduceSub, Nat.reduceLT, Nat.reduceLeDiff, Nat.zero_add, Nat.reduceMul, and_self, and_true, true_and, if_true, reduceIte, decide_true, decide_false, Nat.lt_irrefl, sif, sset, mD, mL, mLL, mLL0, stg, gset, gtup, gcons, gnil, sret, sfl, sdrop, saug, mtest, mnot, mand, mor, mandV, morV, mnotV, mife, mcallQ, mcallH, mcall, mcallL, mcallS, mcallSL, mcons, mnil, mv, mc, mop, mopL, mun, misi, mfrz, mP, pv', pop, mchain, mtrue, mrevL, mit, mitems, mcallScr, mscr, scrOf, mlcomp, oAdd, oSub, oMul, oDiv, oMod, oPow, oLt, oLe, oGt, oGe, o2I, o2IC, oNeg, oIsN, oNotN, oIsB, oNotB, oLst, oTup, oTupS, oLenS, asInt2, spar, spar3, sput, smut, oApp, mixS, slotL, ownL, SV.fz, oItems, oItemsT, oIxT, oIxL, oTupOf, oListOf, oEnumT, oLen, on1, oInt, oAbs, oMax2, oMin2, gput, unwipe, wipeS, oldS, mcallS, oExt, sappL, sapp2, sput2, pix2, pixS, oCatT, oCat, mslT, mpart, mnopart, List.getElem?_cons_zero, List.getElem?_cons_succ, List.set_cons_zero, List.set_cons_succ, ownLL_0, ownLL_1, ownLL_2, ownLL_3, ownLL_4, Rs.bind_ok, toRs_some, lift_some, asInt_int, asList_list, asTup_tup, noErr_ok, obind_some, asBool_bool, Bool.not_true, Bool.not_false, isT, isNone_none, isNone_int, isNone_bool, isNone_tup, isNone_list, ifT, ifF, show ¬ ((i : Int) = (j : Int)) by omega]
theorem vec_snoc {α : Type} {i : Nat} {f : Nat → α} : vec i f ++ [f i] = vec (i + 1) f := by simp [vec, List.range_succ]
theorem any_vec {n : Nat} {p : Nat → Bool} : oAnyL (vec n fun i => .bool (p i)) = some (.bool ((List.range n).any p)) := by
  have : ∀ l : List Nat, allBools (l.map fun d => .bool (p d)) = some (l.map p) := by
    intro l
    induction l with
    | nil => rfl
    | cons d l ih => show (allBools (l.map _)).bind _ = _; rw [ih]; rfl
  unfold oAnyL vec
  rw [this]
  simp [List.any_map]
theorem fz_diag {n : Nat} {W : List Wi} (h : Va n W) : (List.range n).any (fun i => decide ((fw n W i i).getD 0 < 0)) = !fz n W := by
  have h1 : (List.range n).any (fun i => decide ((fw n W i i).getD 0 < 0)) = true ↔ ¬ Feas W := by
    rw [← fw_iff h.ok, List.any_eq_true]
    constructor
    · rintro ⟨i, hi, hd⟩ hn
      obtain ⟨y, e, _⟩ := fw_diag (n := n) (W := W) i
      have := hn i (List.mem_range.mp hi) y e
      rw [e] at hd
      have hd : y < 0 := by simpa using hd
      omega
    · intro hn
      refine Classical.byContradiction fun hx => hn fun c hc y e => ?_
      by_cases hy : 0 ≤ y
      · exact hy
      · exact absurd ⟨c, List.mem_range.mpr hc, by rw [e]; simp; omega⟩ hx
  have h2 := fz_iff h
  cases h3 : (List.range n).any (fun i => decide ((fw n W i i).getD 0 < 0)) <;> cases h4 : fz n W
  · rw [h3] at h1; rw [h4] at h2
    exact absurd (h1.mpr fun hf => by have := h2.mpr hf; cases this) (by simp)
  · rfl
  · rfl
  · rw [h3] at h1; rw [h4] at h2
    exact absurd (h2.mp rfl) (h1.mp rfl)
theorem shortest_eq {n : Nat} {W : List Wi} (h : Va n W) : m__law_shortest [.int n, wsD W] = .ok (if fz n W = true then matL n (fw n W) else .none) := by
  have hn := h.le
  have hn5 : n ≤ 100000 := by omega
  unfold m__law_shortest b__law_shortest
  refine mdef_of ?_
  simp -implicitDefEqProofs only [nr_seq, after_app, nr_nx, nr_rt, br_ok, nr_ite, Int.cast_ofNat_Int, Int.reduceEq, ne_eq, not_true_eq_false, not_false_eq_true, Bool.false_eq_true, if_false, Int.reduceLE, Int.reduceLT, Int.reduceNeg, Int.reduceSub, Int.reduceAdd, decide_eq_true_eq, Bool.or_false, Bool.or_true, true_or, or_true, or_false, false_or, decide_not, bne_self_eq_false, Option.some.injEq, startS, startH, startScr, List.map, List.cons_append, List.nil_append, List.append_nil, List.length_cons, List.length_nil, List.length_set, List.replicate_zero, List.replicate_succ, Nat.reduceAdd, Nat.reduceSub, Nat.reduceLT, Nat.reduceLeDiff, Nat.zero_add, Nat.reduceMul, and_self, and_true, true_and, if_true, reduceIte, decide_true, decide_false, Nat.lt_irrefl, sif, sset, mD, mL, mLL, mLL0, stg, gset, gtup, gcons, gnil, sret, sfl, sdrop, saug, mtest, mnot, mand, mor, mandV, morV, mnotV, mife, mcallQ, mcallH, mcall, mcallL, mcallS, mcallSL, mcons, mnil, mv, mc, mop, mopL, mun, misi, mfrz, mP, pv', pop, mchain, mtrue, mrevL, mit, mitems, mcallScr, mscr, scrOf, mlcomp, oAdd, oSub, oMul, oDiv, oMod, oPow, oLt, oLe, oGt, oGe, o2I, o2IC, oNeg, oIsN, oNotN, oIsB, oNotB, oLst, oTup, oTupS, oLenS, asInt2, spar, spar3, sput, smut, oApp, mixS, slotL, ownL, SV.fz, oItems, oItemsT, oIxT, oIxL, oTupOf, oListOf, oEnumT, oLen, on1, oInt, oAbs, oMax2, oMin2, gput, unwipe, wipeS, oldS, mcallS, oExt, sappL, sapp2, sput2, pix2, pixS, oCatT, oCat, mslT, mpart, mnopart, List.getElem?_cons_zero, List.getElem?_cons_succ, List.set_cons_zero, List.set_cons_succ, ownLL_0, ownLL_1, ownLL_2, ownLL_3, ownLL_4, Rs.bind_ok, toRs_some, lift_some, asInt_int, asList_list, asTup_tup, noErr_ok, obind_some, asBool_bool, Bool.not_true, Bool.not_false, isT, isNone_none, isNone_int, isNone_bool, isNone_tup, isNone_list, ifT, ifF]
  refine nr_fors (P := fun i s => ∃ x3 x4, i ≤ n ∧ s = some (.d (.int n)) :: some (.d (wsD W)) :: some (.oll (vec i fun i => vec n fun j => oD (diag i j))) :: x3 :: x4 :: none :: none :: none :: []) (ds := rangeD 0 n) ?_ ⟨_, _, Nat.zero_le _, rfl⟩ ?_ ?_
  · simp -implicitDefEqProofs only [nr_seq, after_app, nr_nx, nr_rt, br_ok, nr_ite, Int.cast_ofNat_Int, Int.reduceEq, ne_eq, not_true_eq_false, not_false_eq_true, Bool.false_eq_true, if_false, Int.reduceLE, Int.reduceLT, Int.reduceNeg, Int.reduceSub, Int.reduceAdd, decide_eq_true_eq, Bool.or_false, Bool.or_true, true_or, or_true, or_false, false_or, decide_not, bne_self_eq_false, Option.some.injEq, startS, startH, startScr, List.map, List.cons_append, List.nil_append, List.append_nil, List.length_cons, List.length_nil, List.length_set, List.replicate_zero, List.replicate_succ, Nat.reduceAdd, Nat.reduceSub, Nat.reduceLT, Nat.reduceLeDiff, Nat.zero_add, Nat.reduceMul, and_self, and_true, true_and, if_true, reduceIte, decide_true, decide_false, Nat.lt_irrefl, sif, sset, mD, mL, mLL, mLL0, stg, gset, gtup, gcons, gnil, sret, sfl, sdrop, saug, mtest, mnot, mand, mor, mandV, morV, mnotV, mife, mcallQ, mcallH, mcall, mcallL, mcallS, mcallSL, mcons, mnil, mv, mc, mop, mopL, mun, misi, mfrz, mP, pv', pop, mchain, mtrue, mrevL, mit, mitems, mcallScr, mscr, scrOf, mlcomp, oAdd, oSub, oMul, oDiv, oMod, oPow, oLt, oLe, oGt, oGe, o2I, o2IC, oNeg, oIsN, oNotN, oIsB, oNotB, oLst, oTup, oTupS, oLenS, asInt2, spar, spar3, sput, smut, oApp, mixS, slotL, ownL, SV.fz, oItems, oItemsT, oIxT, oIxL, oTupOf, oListOf, oEnumT, oLen, on1, oInt, oAbs, oMax2, oMin2, gput, unwipe, wipeS, oldS, mcallS, oExt, sappL, sapp2, sput2, pix2, pixS, oCatT, oCat, mslT, mpart, mnopart, List.getElem?_cons_zero, List.getElem?_cons_succ, List.set_cons_zero, List.set_cons_succ, ownLL_0, ownLL_1, ownLL_2, ownLL_3, ownLL_4, Rs.bind_ok, toRs_some, lift_some, asInt_int, asList_list, asTup_tup, noErr_ok, obind_some, asBool_bool, Bool.not_true, Bool.not_false, isT, isNone_none, isNone_int, isNone_bool, isNone_tup, isNone_list, ifT, ifF, range1_nat hn5]
  · rintro i d s hd ⟨x3, x4, hi, rfl⟩
    obtain ⟨hi, rfl⟩ := rangeD_get hd
    have hi5 : i < 100000 := by omega
    unfold turn
    simp -implicitDefEqProofs only [nr_seq, after_app, nr_nx, nr_rt, br_ok, nr_ite, Int.cast_ofNat_Int, Int.reduceEq, ne_eq, not_true_eq_false, not_false_eq_true, Bool.false_eq_true, if_false, Int.reduceLE, Int.reduceLT, Int.reduceNeg, Int.reduceSub, Int.reduceAdd, decide_eq_true_eq, Bool.or_false, Bool.or_true, true_or, or_true, or_false, false_or, decide_not, bne_self_eq_false, Option.some.injEq, startS, startH, startScr, List.map, List.cons_append, List.nil_append, List.append_nil, List.length_cons, List.length_nil, List.length_set, List.replicate_zero, List.replicate_succ, Nat.reduceAdd, Nat.reduceSub, Nat.reduceLT, Nat.reduceLeDiff, Nat.zero_add, Nat.reduceMul, and_self, and_true, true_and, if_true, reduceIte, decide_true, decide_false, Nat.lt_irrefl, sif, sset, mD, mL, mLL, mLL0, stg, gset, gtup, gcons, gnil, sret, sfl, sdrop, saug, mtest, mnot, mand, mor, mandV, morV, mnotV, mife, mcallQ, mcallH, mcall, mcallL, mcallS, mcallSL, mcons, mnil, mv, mc, mop, mopL, mun, misi, mfrz, mP, pv', pop, mchain, mtrue, mrevL, mit, mitems, mcallScr, mscr, scrOf, mlcomp, oAdd, oSub, oMul, oDiv, oMod, oPow, oLt, oLe, oGt, oGe, o2I, o2IC, oNeg, oIsN, oNotN, oIsB, oNotB, oLst, oTup, oTupS, oLenS, asInt2, spar, spar3, sput, smut, oApp, mixS, slotL, ownL, SV.fz, oItems, oItemsT, oIxT, oIxL, oTupOf, oListOf, oEnumT, oLen, on1, oInt, oAbs, oMax2, oMin2, gput, unwipe, wipeS, oldS, mcallS, oExt, sappL, sapp2, sput2, pix2, pixS, oCatT, oCat, mslT, mpart, mnopart, List.getElem?_cons_zero, List.getElem?_cons_succ, List.set_cons_zero, List.set_cons_succ, ownLL_0, ownLL_1, ownLL_2, ownLL_3, ownLL_4, Rs.bind_ok, toRs_some, lift_some, asInt_int, asList_list, asTup_tup, noErr_ok, obind_some, asBool_bool, Bool.not_true, Bool.not_false, isT, isNone_none, isNone_int, isNone_bool, isNone_tup, isNone_list, ifT, ifF, range1_nat hn5, rangeD_len, hn5]
    rw [mlc_all (v := fun d => if asI d = (i : Int) then PyData.int 0 else PyData.none) _ (fun d hd => ?_)]
    · have e0 : (rangeD 0 n).map (fun d => if asI d = (i : Int) then PyData.int 0 else PyData.none) = vec n fun j => oD (diag i j) := by
        rw [rangeD_vec, vec_map]
        congr 1
        funext j
        rw [asI_int]
        unfold diag
        by_cases e : i = j
        · rw [if_pos (by omega), if_pos e]; rfl
        · rw [if_neg (by omega), if_neg e]; rfl
      simp -implicitDefEqProofs only [nr_seq, after_app, nr_nx, nr_rt, br_ok, nr_ite, Int.cast_ofNat_Int, Int.reduceEq, ne_eq, not_true_eq_false, not_false_eq_true, Bool.false_eq_true, if_false, Int.reduceLE, Int.reduceLT, Int.reduceNeg, Int.reduceSub, Int.reduceAdd, decide_eq_true_eq, Bool.or_false, Bool.or_true, true_or, or_true, or_false, false_or, decide_not, bne_self_eq_false, Option.some.injEq, startS, startH, startScr, List.map, List.cons_append, List.nil_append, List.append_nil, List.length_cons, List.length_nil, List.length_set, List.replicate_zero, List.replicate_succ, Nat.reduceAdd, Nat.reduceSub, Nat.reduceLT, Nat.reduceLeDiff, Nat.zero_add, Nat.reduceMul, and_self, and_true, true_and, if_true, reduceIte, decide_true, decide_false, Nat.lt_irrefl, sif, sset, mD, mL, mLL, mLL0, stg, gset, gtup, gcons, gnil, sret, sfl, sdrop, saug, mtest, mnot, mand, mor, mandV, morV, mnotV, mife, mcallQ, mcallH, mcall, mcallL, mcallS, mcallSL, mcons, mnil, mv, mc, mop, mopL, mun, misi, mfrz, mP, pv', pop, mchain, mtrue, mrevL, mit, mitems, mcallScr, mscr, scrOf, mlcomp, oAdd, oSub, oMul, oDiv, oMod, oPow, oLt, oLe, oGt, oGe, o2I, o2IC, oNeg, oIsN, oNotN, oIsB, oNotB, oLst, oTup, oTupS, oLenS, asInt2, spar, spar3, sput, smut, oApp, mixS, slotL, ownL, SV.fz, oItems, oItemsT, oIxT, oIxL, oTupOf, oListOf, oEnumT, oLen, on1, oInt, oAbs, oMax2, oMin2, gput, unwipe, wipeS, oldS, mcallS, oExt, sappL, sapp2, sput2, pix2, pixS, oCatT, oCat, mslT, mpart, mnopart, List.getElem?_cons_zero, List.getElem?_cons_succ, List.set_cons_zero, List.set_cons_succ, ownLL_0, ownLL_1, ownLL_2, ownLL_3, ownLL_4, Rs.bind_ok, toRs_some, lift_some, asInt_int, asList_list, asTup_tup, noErr_ok, obind_some, asBool_bool, Bool.not_true, Bool.not_false, isT, isNone_none, isNone_int, isNone_bool, isNone_tup, isNone_list, ifT, ifF, e0, vec_len, hi5]
      rw [vec_snoc (f := fun i => vec n fun j => oD (diag i j))]
      exact ⟨_, _, by omega, rfl⟩
    · rw [rangeD_vec] at hd
      obtain ⟨j, hj, rfl⟩ := vec_mem hd
      simp -implicitDefEqProofs only [nr_seq, after_app, nr_nx, nr_rt, br_ok, nr_ite, Int.cast_ofNat_Int, Int.reduceEq, ne_eq, not_true_eq_false, not_false_eq_true, Bool.false_eq_true, if_false, Int.reduceLE, Int.reduceLT, Int.reduceNeg, Int.reduceSub, Int.reduceAdd, decide_eq_true_eq, Bool.or_false, Bool.or_true, true_or, or_true, or_false, false_or, decide_not, bne_self_eq_false, Option.some.injEq, startS, startH, startScr, List.map, List.cons_append, List.nil_append, List.append_nil, List.length_cons, List.length_nil, List.length_set, List.replicate_zero, List.replicate_succ, Nat.reduceAdd, Nat.reduceSub, Nat.reduceLT, Nat.reduceLeDiff, Nat.zero_add, Nat.reduceMul, and_self, and_true, true_and, if_true, reduceIte, decide_true, decide_false, Nat.lt_irrefl, sif, sset, mD, mL, mLL, mLL0, stg, gset, gtup, gcons, gnil, sret, sfl, sdrop, saug, mtest, mnot, mand, mor, mandV, morV, mnotV, mife, mcallQ, mcallH, mcall, mcallL, mcallS, mcallSL, mcons, mnil, mv, mc, mop, mopL, mun, misi, mfrz, mP, pv', pop, mchain, mtrue, mrevL, mit, mitems, mcallScr, mscr, scrOf, mlcomp, oAdd, oSub, oMul, oDiv, oMod, oPow, oLt, oLe, oGt, oGe, o2I, o2IC, oNeg, oIsN, oNotN, oIsB, oNotB, oLst, oTup, oTupS, oLenS, asInt2, spar, spar3, sput, smut, oApp, mixS, slotL, ownL, SV.fz, oItems, oItemsT, oIxT, oIxL, oTupOf, oListOf, oEnumT, oLen, on1, oInt, oAbs, oMax2, oMin2, gput, unwipe, wipeS, oldS, mcallS, oExt, sappL, sapp2, sput2, pix2, pixS, oCatT, oCat, mslT, mpart, mnopart, List.getElem?_cons_zero, List.getElem?_cons_succ, List.set_cons_zero, List.set_cons_succ, ownLL_0, ownLL_1, ownLL_2, ownLL_3, ownLL_4, Rs.bind_ok, toRs_some, lift_some, asInt_int, asList_list, asTup_tup, noErr_ok, obind_some, asBool_bool, Bool.not_true, Bool.not_false, isT, isNone_none, isNone_int, isNone_bool, isNone_tup, isNone_list, ifT, ifF, oEq_int, asI_int]
      by_cases e : i = j
      · subst e; simp -implicitDefEqProofs only [nr_seq, after_app, nr_nx, nr_rt, br_ok, nr_ite, Int.cast_ofNat_Int, Int.reduceEq, ne_eq, not_true_eq_false, not_false_eq_true, Bool.false_eq_true, if_false, Int.reduceLE, Int.reduceLT, Int.reduceNeg, Int.reduceSub, Int.reduceAdd, decide_eq_true_eq, Bool.or_false, Bool.or_true, true_or, or_true, or_false, false_or, decide_not, bne_self_eq_false, Option.some.injEq, startS, startH, startScr, List.map, List.cons_append, List.nil_append, List.append_nil, List.length_cons, List.length_nil, List.length_set, List.replicate_zero, List.replicate_succ, Nat.reduceAdd, Nat.reduceSub, Nat.reduceLT, Nat.reduceLeDiff, Nat.zero_add, Nat.reduceMul, and_self, and_true, true_and, if_true, reduceIte, decide_true, decide_false, Nat.lt_irrefl, sif, sset, mD, mL, mLL, mLL0, stg, gset, gtup, gcons, gnil, sret, sfl, sdrop, saug, mtest, mnot, mand, mor, mandV, morV, mnotV, mife, mcallQ, mcallH, mcall, mcallL, mcallS, mcallSL, mcons, mnil, mv, mc, mop, mopL, mun, misi, mfrz, mP, pv', pop, mchain, mtrue, mrevL, mit, mitems, mcallScr, mscr, scrOf, mlcomp, oAdd, oSub, oMul, oDiv, oMod, oPow, oLt, oLe, oGt, oGe, o2I, o2IC, oNeg, oIsN, oNotN, oIsB, oNotB, oLst, oTup, oTupS, oLenS, asInt2, spar, spar3, sput, smut, oApp, mixS, slotL, ownL, SV.fz, oItems, oItemsT, oIxT, oIxL, oTupOf, oListOf, oEnumT, oLen, on1, oInt, oAbs, oMax2, oMin2, gput, unwipe, wipeS, oldS, mcallS, oExt, sappL, sapp2, sput2, pix2, pixS, oCatT, oCat, mslT, mpart, mnopart, List.getElem?_cons_zero, List.getElem?_cons_succ, List.set_cons_zero, List.set_cons_succ, ownLL_0, ownLL_1, ownLL_2, ownLL_3, ownLL_4, Rs.bind_ok, toRs_some, lift_some, asInt_int, asList_list, asTup_tup, noErr_ok, obind_some, asBool_bool, Bool.not_true, Bool.not_false, isT, isNone_none, isNone_int, isNone_bool, isNone_tup, isNone_list, ifT, ifF]
      · simp -implicitDefEqProofs only [nr_seq, after_app, nr_nx, nr_rt, br_ok, nr_ite, Int.cast_ofNat_Int, Int.reduceEq, ne_eq, not_true_eq_false, not_false_eq_true, Bool.false_eq_true, if_false, Int.reduceLE, Int.reduceLT, Int.reduceNeg, Int.reduceSub, Int.reduceAdd, decide_eq_true_eq, Bool.or_false, Bool.or_true, true_or, or_true, or_false, false_or, decide_not, bne_self_eq_false, Option.some.injEq, startS, startH, startScr, List.map, List.cons_append, List.nil_append, List.append_nil, List.length_cons, List.length_nil, List.length_set, List.replicate_zero, List.replicate_succ, Nat.reduceAdd, Nat.reduceSub, Nat.reduceLT, Nat.reduceLeDiff, Nat.zero_add, Nat.reduceMul, and_self, and_true, true_and, if_true, reduceIte, decide_true, decide_false, Nat.lt_irrefl, sif, sset, mD, mL, mLL, mLL0, stg, gset, gtup, gcons, gnil, sret, sfl, sdrop, saug, mtest, mnot, mand, mor, mandV, morV, mnotV, mife, mcallQ, mcallH, mcall, mcallL, mcallS, mcallSL, mcons, mnil, mv, mc, mop, mopL, mun, misi, mfrz, mP, pv', pop, mchain, mtrue, mrevL, mit, mitems, mcallScr, mscr, scrOf, mlcomp, oAdd, oSub, oMul, oDiv, oMod, oPow, oLt, oLe, oGt, oGe, o2I, o2IC, oNeg, oIsN, oNotN, oIsB, oNotB, oLst, oTup, oTupS, oLenS, asInt2, spar, spar3, sput, smut, oApp, mixS, slotL, ownL, SV.fz, oItems, oItemsT, oIxT, oIxL, oTupOf, oListOf, oEnumT, oLen, on1, oInt, oAbs, oMax2, oMin2, gput, unwipe, wipeS, oldS, mcallS, oExt, sappL, sapp2, sput2, pix2, pixS, oCatT, oCat, mslT, mpart, mnopart, List.getElem?_cons_zero, List.getElem?_cons_succ, List.set_cons_zero, List.set_cons_succ, ownLL_0, ownLL_1, ownLL_2, ownLL_3, ownLL_4, Rs.bind_ok, toRs_some, lift_some, asInt_int, asList_list, asTup_tup, noErr_ok, obind_some, asBool_bool, Bool.not_true, Bool.not_false, isT, isNone_none, isNone_int, isNone_bool, isNone_tup, isNone_list, ifT, ifF, show ¬ ((j : Int) = (i : Int)) by omega]
  · rintro s ⟨x3, x4, hi, rfl⟩
    rw [rangeD_len]
    have e9 : (vec n fun i => vec n fun j => oD (diag i j)) = mat n (init []) := rfl
    rw [e9]
    simp -implicitDefEqProofs only [nr_seq, after_app, nr_nx, nr_rt, br_ok, nr_ite, Int.cast_ofNat_Int, Int.reduceEq, ne_eq, not_true_eq_false, not_false_eq_true, Bool.false_eq_true, if_false, Int.reduceLE, Int.reduceLT, Int.reduceNeg, Int.reduceSub, Int.reduceAdd, decide_eq_true_eq, Bool.or_false, Bool.or_true, true_or, or_true, or_false, false_or, decide_not, bne_self_eq_false, Option.some.injEq, startS, startH, startScr, List.map, List.cons_append, List.nil_append, List.append_nil, List.length_cons, List.length_nil, List.length_set, List.replicate_zero, List.replicate_succ, Nat.reduceAdd, Nat.reduceSub, Nat.reduceLT, Nat.reduceLeDiff, Nat.zero_add, Nat.reduceMul, and_self, and_true, true_and, if_true, reduceIte, decide_true, decide_false, Nat.lt_irrefl, sif, sset, mD, mL, mLL, mLL0, stg, gset, gtup, gcons, gnil, sret, sfl, sdrop, saug, mtest, mnot, mand, mor, mandV, morV, mnotV, mife, mcallQ, mcallH, mcall, mcallL, mcallS, mcallSL, mcons, mnil, mv, mc, mop, mopL, mun, misi, mfrz, mP, pv', pop, mchain, mtrue, mrevL, mit, mitems, mcallScr, mscr, scrOf, mlcomp, oAdd, oSub, oMul, oDiv, oMod, oPow, oLt, oLe, oGt, oGe, o2I, o2IC, oNeg, oIsN, oNotN, oIsB, oNotB, oLst, oTup, oTupS, oLenS, asInt2, spar, spar3, sput, smut, oApp, mixS, slotL, ownL, SV.fz, oItems, oItemsT, oIxT, oIxL, oTupOf, oListOf, oEnumT, oLen, on1, oInt, oAbs, oMax2, oMin2, gput, unwipe, wipeS, oldS, mcallS, oExt, sappL, sapp2, sput2, pix2, pixS, oCatT, oCat, mslT, mpart, mnopart, List.getElem?_cons_zero, List.getElem?_cons_succ, List.set_cons_zero, List.set_cons_succ, ownLL_0, ownLL_1, ownLL_2, ownLL_3, ownLL_4, Rs.bind_ok, toRs_some, lift_some, asInt_int, asList_list, asTup_tup, noErr_ok, obind_some, asBool_bool, Bool.not_true, Bool.not_false, isT, isNone_none, isNone_int, isNone_bool, isNone_tup, isNone_list, ifT, ifF]
    refine nr_fors (P := fun i s => ∃ x3 x4 x5, s = some (.d (.int n)) :: some (.d (wsD W)) :: some (.oll (mat n (init (W.take i)))) :: x3 :: x4 :: x5 :: none :: none :: []) (ds := W.map wD) ?_ ⟨_, _, _, rfl⟩ ?_ ?_
    · simp -implicitDefEqProofs only [nr_seq, after_app, nr_nx, nr_rt, br_ok, nr_ite, Int.cast_ofNat_Int, Int.reduceEq, ne_eq, not_true_eq_false, not_false_eq_true, Bool.false_eq_true, if_false, Int.reduceLE, Int.reduceLT, Int.reduceNeg, Int.reduceSub, Int.reduceAdd, decide_eq_true_eq, Bool.or_false, Bool.or_true, true_or, or_true, or_false, false_or, decide_not, bne_self_eq_false, Option.some.injEq, startS, startH, startScr, List.map, List.cons_append, List.nil_append, List.append_nil, List.length_cons, List.length_nil, List.length_set, List.replicate_zero, List.replicate_succ, Nat.reduceAdd, Nat.reduceSub, Nat.reduceLT, Nat.reduceLeDiff, Nat.zero_add, Nat.reduceMul, and_self, and_true, true_and, if_true, reduceIte, decide_true, decide_false, Nat.lt_irrefl, sif, sset, mD, mL, mLL, mLL0, stg, gset, gtup, gcons, gnil, sret, sfl, sdrop, saug, mtest, mnot, mand, mor, mandV, morV, mnotV, mife, mcallQ, mcallH, mcall, mcallL, mcallS, mcallSL, mcons, mnil, mv, mc, mop, mopL, mun, misi, mfrz, mP, pv', pop, mchain, mtrue, mrevL, mit, mitems, mcallScr, mscr, scrOf, mlcomp, oAdd, oSub, oMul, oDiv, oMod, oPow, oLt, oLe, oGt, oGe, o2I, o2IC, oNeg, oIsN, oNotN, oIsB, oNotB, oLst, oTup, oTupS, oLenS, asInt2, spar, spar3, sput, smut, oApp, mixS, slotL, ownL, SV.fz, oItems, oItemsT, oIxT, oIxL, oTupOf, oListOf, oEnumT, oLen, on1, oInt, oAbs, oMax2, oMin2, gput, unwipe, wipeS, oldS, mcallS, oExt, sappL, sapp2, sput2, pix2, pixS, oCatT, oCat, mslT, mpart, mnopart, List.getElem?_cons_zero, List.getElem?_cons_succ, List.set_cons_zero, List.set_cons_succ, ownLL_0, ownLL_1, ownLL_2, ownLL_3, ownLL_4, Rs.bind_ok, toRs_some, lift_some, asInt_int, asList_list, asTup_tup, noErr_ok, obind_some, asBool_bool, Bool.not_true, Bool.not_false, isT, isNone_none, isNone_int, isNone_bool, isNone_tup, isNone_list, ifT, ifF]
    · rintro i d s hd ⟨x3, x4, x5, rfl⟩
      obtain ⟨a, b, m, hw, rfl⟩ := ws_get hd
      obtain ⟨ha, hb, hab⟩ := h.ok.get hw
      unfold init
      rw [put_take hw]
      generalize (W.take i).foldl put diag = M
      unfold turn put
      dsimp only
      cases h1 : M a b with
      | none =>
        simp -implicitDefEqProofs only [nr_seq, after_app, nr_nx, nr_rt, br_ok, nr_ite, Int.cast_ofNat_Int, Int.reduceEq, ne_eq, not_true_eq_false, not_false_eq_true, Bool.false_eq_true, if_false, Int.reduceLE, Int.reduceLT, Int.reduceNeg, Int.reduceSub, Int.reduceAdd, decide_eq_true_eq, Bool.or_false, Bool.or_true, true_or, or_true, or_false, false_or, decide_not, bne_self_eq_false, Option.some.injEq, startS, startH, startScr, List.map, List.cons_append, List.nil_append, List.append_nil, List.length_cons, List.length_nil, List.length_set, List.replicate_zero, List.replicate_succ, Nat.reduceAdd, Nat.reduceSub, Nat.reduceLT, Nat.reduceLeDiff, Nat.zero_add, Nat.reduceMul, and_self, and_true, true_and, if_true, reduceIte, decide_true, decide_false, Nat.lt_irrefl, sif, sset, mD, mL, mLL, mLL0, stg, gset, gtup, gcons, gnil, sret, sfl, sdrop, saug, mtest, mnot, mand, mor, mandV, morV, mnotV, mife, mcallQ, mcallH, mcall, mcallL, mcallS, mcallSL, mcons, mnil, mv, mc, mop, mopL, mun, misi, mfrz, mP, pv', pop, mchain, mtrue, mrevL, mit, mitems, mcallScr, mscr, scrOf, mlcomp, oAdd, oSub, oMul, oDiv, oMod, oPow, oLt, oLe, oGt, oGe, o2I, o2IC, oNeg, oIsN, oNotN, oIsB, oNotB, oLst, oTup, oTupS, oLenS, asInt2, spar, spar3, sput, smut, oApp, mixS, slotL, ownL, SV.fz, oItems, oItemsT, oIxT, oIxL, oTupOf, oListOf, oEnumT, oLen, on1, oInt, oAbs, oMax2, oMin2, gput, unwipe, wipeS, oldS, mcallS, oExt, sappL, sapp2, sput2, pix2, pixS, oCatT, oCat, mslT, mpart, mnopart, List.getElem?_cons_zero, List.getElem?_cons_succ, List.set_cons_zero, List.set_cons_succ, ownLL_0, ownLL_1, ownLL_2, ownLL_3, ownLL_4, Rs.bind_ok, toRs_some, lift_some, asInt_int, asList_list, asTup_tup, noErr_ok, obind_some, asBool_bool, Bool.not_true, Bool.not_false, isT, isNone_none, isNone_int, isNone_bool, isNone_tup, isNone_list, ifT, ifF, mat_at, mat_len, mat_get, mat_put, ha, hb, atI_vec, h1, oD_none, lessO, ixN_nat, vec_len, vec_set]
        exact ⟨_, _, _, rfl⟩
      | some y =>
        by_cases hlt : m < y
        · simp -implicitDefEqProofs only [nr_seq, after_app, nr_nx, nr_rt, br_ok, nr_ite, Int.cast_ofNat_Int, Int.reduceEq, ne_eq, not_true_eq_false, not_false_eq_true, Bool.false_eq_true, if_false, Int.reduceLE, Int.reduceLT, Int.reduceNeg, Int.reduceSub, Int.reduceAdd, decide_eq_true_eq, Bool.or_false, Bool.or_true, true_or, or_true, or_false, false_or, decide_not, bne_self_eq_false, Option.some.injEq, startS, startH, startScr, List.map, List.cons_append, List.nil_append, List.append_nil, List.length_cons, List.length_nil, List.length_set, List.replicate_zero, List.replicate_succ, Nat.reduceAdd, Nat.reduceSub, Nat.reduceLT, Nat.reduceLeDiff, Nat.zero_add, Nat.reduceMul, and_self, and_true, true_and, if_true, reduceIte, decide_true, decide_false, Nat.lt_irrefl, sif, sset, mD, mL, mLL, mLL0, stg, gset, gtup, gcons, gnil, sret, sfl, sdrop, saug, mtest, mnot, mand, mor, mandV, morV, mnotV, mife, mcallQ, mcallH, mcall, mcallL, mcallS, mcallSL, mcons, mnil, mv, mc, mop, mopL, mun, misi, mfrz, mP, pv', pop, mchain, mtrue, mrevL, mit, mitems, mcallScr, mscr, scrOf, mlcomp, oAdd, oSub, oMul, oDiv, oMod, oPow, oLt, oLe, oGt, oGe, o2I, o2IC, oNeg, oIsN, oNotN, oIsB, oNotB, oLst, oTup, oTupS, oLenS, asInt2, spar, spar3, sput, smut, oApp, mixS, slotL, ownL, SV.fz, oItems, oItemsT, oIxT, oIxL, oTupOf, oListOf, oEnumT, oLen, on1, oInt, oAbs, oMax2, oMin2, gput, unwipe, wipeS, oldS, mcallS, oExt, sappL, sapp2, sput2, pix2, pixS, oCatT, oCat, mslT, mpart, mnopart, List.getElem?_cons_zero, List.getElem?_cons_succ, List.set_cons_zero, List.set_cons_succ, ownLL_0, ownLL_1, ownLL_2, ownLL_3, ownLL_4, Rs.bind_ok, toRs_some, lift_some, asInt_int, asList_list, asTup_tup, noErr_ok, obind_some, asBool_bool, Bool.not_true, Bool.not_false, isT, isNone_none, isNone_int, isNone_bool, isNone_tup, isNone_list, ifT, ifF, mat_at, mat_len, mat_get, mat_put, ha, hb, atI_vec, h1, oD_some, lessO, ixN_nat, vec_len, vec_set, hlt]
          exact ⟨_, _, _, rfl⟩
        · have e3 : mup M a b (some y) = M := by rw [← h1]; exact mup_self
          simp -implicitDefEqProofs only [nr_seq, after_app, nr_nx, nr_rt, br_ok, nr_ite, Int.cast_ofNat_Int, Int.reduceEq, ne_eq, not_true_eq_false, not_false_eq_true, Bool.false_eq_true, if_false, Int.reduceLE, Int.reduceLT, Int.reduceNeg, Int.reduceSub, Int.reduceAdd, decide_eq_true_eq, Bool.or_false, Bool.or_true, true_or, or_true, or_false, false_or, decide_not, bne_self_eq_false, Option.some.injEq, startS, startH, startScr, List.map, List.cons_append, List.nil_append, List.append_nil, List.length_cons, List.length_nil, List.length_set, List.replicate_zero, List.replicate_succ, Nat.reduceAdd, Nat.reduceSub, Nat.reduceLT, Nat.reduceLeDiff, Nat.zero_add, Nat.reduceMul, and_self, and_true, true_and, if_true, reduceIte, decide_true, decide_false, Nat.lt_irrefl, sif, sset, mD, mL, mLL, mLL0, stg, gset, gtup, gcons, gnil, sret, sfl, sdrop, saug, mtest, mnot, mand, mor, mandV, morV, mnotV, mife, mcallQ, mcallH, mcall, mcallL, mcallS, mcallSL, mcons, mnil, mv, mc, mop, mopL, mun, misi, mfrz, mP, pv', pop, mchain, mtrue, mrevL, mit, mitems, mcallScr, mscr, scrOf, mlcomp, oAdd, oSub, oMul, oDiv, oMod, oPow, oLt, oLe, oGt, oGe, o2I, o2IC, oNeg, oIsN, oNotN, oIsB, oNotB, oLst, oTup, oTupS, oLenS, asInt2, spar, spar3, sput, smut, oApp, mixS, slotL, ownL, SV.fz, oItems, oItemsT, oIxT, oIxL, oTupOf, oListOf, oEnumT, oLen, on1, oInt, oAbs, oMax2, oMin2, gput, unwipe, wipeS, oldS, mcallS, oExt, sappL, sapp2, sput2, pix2, pixS, oCatT, oCat, mslT, mpart, mnopart, List.getElem?_cons_zero, List.getElem?_cons_succ, List.set_cons_zero, List.set_cons_succ, ownLL_0, ownLL_1, ownLL_2, ownLL_3, ownLL_4, Rs.bind_ok, toRs_some, lift_some, asInt_int, asList_list, asTup_tup, noErr_ok, obind_some, asBool_bool, Bool.not_true, Bool.not_false, isT, isNone_none, isNone_int, isNone_bool, isNone_tup, isNone_list, ifT, ifF, mat_at, mat_len, mat_get, mat_put, ha, hb, atI_vec, h1, oD_some, lessO, ixN_nat, vec_len, vec_set, hlt, e3]
          exact ⟨_, _, _, rfl⟩
    · rintro s ⟨x3, x4, x5, rfl⟩
      rw [ws_len, List.take_length]
      simp -implicitDefEqProofs only [nr_seq, after_app, nr_nx, nr_rt, br_ok, nr_ite, Int.cast_ofNat_Int, Int.reduceEq, ne_eq, not_true_eq_false, not_false_eq_true, Bool.false_eq_true, if_false, Int.reduceLE, Int.reduceLT, Int.reduceNeg, Int.reduceSub, Int.reduceAdd, decide_eq_true_eq, Bool.or_false, Bool.or_true, true_or, or_true, or_false, false_or, decide_not, bne_self_eq_false, Option.some.injEq, startS, startH, startScr, List.map, List.cons_append, List.nil_append, List.append_nil, List.length_cons, List.length_nil, List.length_set, List.replicate_zero, List.replicate_succ, Nat.reduceAdd, Nat.reduceSub, Nat.reduceLT, Nat.reduceLeDiff, Nat.zero_add, Nat.reduceMul, and_self, and_true, true_and, if_true, reduceIte, decide_true, decide_false, Nat.lt_irrefl, sif, sset, mD, mL, mLL, mLL0, stg, gset, gtup, gcons, gnil, sret, sfl, sdrop, saug, mtest, mnot, mand, mor, mandV, morV, mnotV, mife, mcallQ, mcallH, mcall, mcallL, mcallS, mcallSL, mcons, mnil, mv, mc, mop, mopL, mun, misi, mfrz, mP, pv', pop, mchain, mtrue, mrevL, mit, mitems, mcallScr, mscr, scrOf, mlcomp, oAdd, oSub, oMul, oDiv, oMod, oPow, oLt, oLe, oGt, oGe, o2I, o2IC, oNeg, oIsN, oNotN, oIsB, oNotB, oLst, oTup, oTupS, oLenS, asInt2, spar, spar3, sput, smut, oApp, mixS, slotL, ownL, SV.fz, oItems, oItemsT, oIxT, oIxL, oTupOf, oListOf, oEnumT, oLen, on1, oInt, oAbs, oMax2, oMin2, gput, unwipe, wipeS, oldS, mcallS, oExt, sappL, sapp2, sput2, pix2, pixS, oCatT, oCat, mslT, mpart, mnopart, List.getElem?_cons_zero, List.getElem?_cons_succ, List.set_cons_zero, List.set_cons_succ, ownLL_0, ownLL_1, ownLL_2, ownLL_3, ownLL_4, Rs.bind_ok, toRs_some, lift_some, asInt_int, asList_list, asTup_tup, noErr_ok, obind_some, asBool_bool, Bool.not_true, Bool.not_false, isT, isNone_none, isNone_int, isNone_bool, isNone_tup, isNone_list, ifT, ifF]
      refine fw_loop hn fun x3 x4 x6 x7 => ?_
      have e8 : outer n (init W) n = fw n W := rfl
      rw [e8]
      simp -implicitDefEqProofs only [nr_seq, after_app, nr_nx, nr_rt, br_ok, nr_ite, Int.cast_ofNat_Int, Int.reduceEq, ne_eq, not_true_eq_false, not_false_eq_true, Bool.false_eq_true, if_false, Int.reduceLE, Int.reduceLT, Int.reduceNeg, Int.reduceSub, Int.reduceAdd, decide_eq_true_eq, Bool.or_false, Bool.or_true, true_or, or_true, or_false, false_or, decide_not, bne_self_eq_false, Option.some.injEq, startS, startH, startScr, List.map, List.cons_append, List.nil_append, List.append_nil, List.length_cons, List.length_nil, List.length_set, List.replicate_zero, List.replicate_succ, Nat.reduceAdd, Nat.reduceSub, Nat.reduceLT, Nat.reduceLeDiff, Nat.zero_add, Nat.reduceMul, and_self, and_true, true_and, if_true, reduceIte, decide_true, decide_false, Nat.lt_irrefl, sif, sset, mD, mL, mLL, mLL0, stg, gset, gtup, gcons, gnil, sret, sfl, sdrop, saug, mtest, mnot, mand, mor, mandV, morV, mnotV, mife, mcallQ, mcallH, mcall, mcallL, mcallS, mcallSL, mcons, mnil, mv, mc, mop, mopL, mun, misi, mfrz, mP, pv', pop, mchain, mtrue, mrevL, mit, mitems, mcallScr, mscr, scrOf, mlcomp, oAdd, oSub, oMul, oDiv, oMod, oPow, oLt, oLe, oGt, oGe, o2I, o2IC, oNeg, oIsN, oNotN, oIsB, oNotB, oLst, oTup, oTupS, oLenS, asInt2, spar, spar3, sput, smut, oApp, mixS, slotL, ownL, SV.fz, oItems, oItemsT, oIxT, oIxL, oTupOf, oListOf, oEnumT, oLen, on1, oInt, oAbs, oMax2, oMin2, gput, unwipe, wipeS, oldS, mcallS, oExt, sappL, sapp2, sput2, pix2, pixS, oCatT, oCat, mslT, mpart, mnopart, List.getElem?_cons_zero, List.getElem?_cons_succ, List.set_cons_zero, List.set_cons_succ, ownLL_0, ownLL_1, ownLL_2, ownLL_3, ownLL_4, Rs.bind_ok, toRs_some, lift_some, asInt_int, asList_list, asTup_tup, noErr_ok, obind_some, asBool_bool, Bool.not_true, Bool.not_false, isT, isNone_none, isNone_int, isNone_bool, isNone_tup, isNone_list, ifT, ifF, range1_nat hn5, rangeD_len, hn5]
      rw [mlc_all (v := fun d => .bool (decide ((fw n W (asI d).toNat (asI d).toNat).getD 0 < 0))) _ (fun d hd => ?_)]
      · have e1 : oAnyL ((rangeD 0 n).map (fun d => .bool (decide ((fw n W (asI d).toNat (asI d).toNat).getD 0 < 0)))) = some (.bool (!fz n W)) := by
          rw [rangeD_vec, vec_map]
          simp only [asI_int, Int.toNat_natCast]
          rw [any_vec, fz_diag h]
        simp -implicitDefEqProofs only [nr_seq, after_app, nr_nx, nr_rt, br_ok, nr_ite, Int.cast_ofNat_Int, Int.reduceEq, ne_eq, not_true_eq_false, not_false_eq_true, Bool.false_eq_true, if_false, Int.reduceLE, Int.reduceLT, Int.reduceNeg, Int.reduceSub, Int.reduceAdd, decide_eq_true_eq, Bool.or_false, Bool.or_true, true_or, or_true, or_false, false_or, decide_not, bne_self_eq_false, Option.some.injEq, startS, startH, startScr, List.map, List.cons_append, List.nil_append, List.append_nil, List.length_cons, List.length_nil, List.length_set, List.replicate_zero, List.replicate_succ, Nat.reduceAdd, Nat.reduceSub, Nat.reduceLT, Nat.reduceLeDiff, Nat.zero_add, Nat.reduceMul, and_self, and_true, true_and, if_true, reduceIte, decide_true, decide_false, Nat.lt_irrefl, sif, sset, mD, mL, mLL, mLL0, stg, gset, gtup, gcons, gnil, sret, sfl, sdrop, saug, mtest, mnot, mand, mor, mandV, morV, mnotV, mife, mcallQ, mcallH, mcall, mcallL, mcallS, mcallSL, mcons, mnil, mv, mc, mop, mopL, mun, misi, mfrz, mP, pv', pop, mchain, mtrue, mrevL, mit, mitems, mcallScr, mscr, scrOf, mlcomp, oAdd, oSub, oMul, oDiv, oMod, oPow, oLt, oLe, oGt, oGe, o2I, o2IC, oNeg, oIsN, oNotN, oIsB, oNotB, oLst, oTup, oTupS, oLenS, asInt2, spar, spar3, sput, smut, oApp, mixS, slotL, ownL, SV.fz, oItems, oItemsT, oIxT, oIxL, oTupOf, oListOf, oEnumT, oLen, on1, oInt, oAbs, oMax2, oMin2, gput, unwipe, wipeS, oldS, mcallS, oExt, sappL, sapp2, sput2, pix2, pixS, oCatT, oCat, mslT, mpart, mnopart, List.getElem?_cons_zero, List.getElem?_cons_succ, List.set_cons_zero, List.set_cons_succ, ownLL_0, ownLL_1, ownLL_2, ownLL_3, ownLL_4, Rs.bind_ok, toRs_some, lift_some, asInt_int, asList_list, asTup_tup, noErr_ok, obind_some, asBool_bool, Bool.not_true, Bool.not_false, isT, isNone_none, isNone_int, isNone_bool, isNone_tup, isNone_list, ifT, ifF, e1]
        cases hz : fz n W with
        | false => simp -implicitDefEqProofs only [nr_seq, after_app, nr_nx, nr_rt, br_ok, nr_ite, Int.cast_ofNat_Int, Int.reduceEq, ne_eq, not_true_eq_false, not_false_eq_true, Bool.false_eq_true, if_false, Int.reduceLE, Int.reduceLT, Int.reduceNeg, Int.reduceSub, Int.reduceAdd, decide_eq_true_eq, Bool.or_false, Bool.or_true, true_or, or_true, or_false, false_or, decide_not, bne_self_eq_false, Option.some.injEq, startS, startH, startScr, List.map, List.cons_append, List.nil_append, List.append_nil, List.length_cons, List.length_nil, List.length_set, List.replicate_zero, List.replicate_succ, Nat.reduceAdd, Nat.reduceSub, Nat.reduceLT, Nat.reduceLeDiff, Nat.zero_add, Nat.reduceMul, and_self, and_true, true_and, if_true, reduceIte, decide_true, decide_false, Nat.lt_irrefl, sif, sset, mD, mL, mLL, mLL0, stg, gset, gtup, gcons, gnil, sret, sfl, sdrop, saug, mtest, mnot, mand, mor, mandV, morV, mnotV, mife, mcallQ, mcallH, mcall, mcallL, mcallS, mcallSL, mcons, mnil, mv, mc, mop, mopL, mun, misi, mfrz, mP, pv', pop, mchain, mtrue, mrevL, mit, mitems, mcallScr, mscr, scrOf, mlcomp, oAdd, oSub, oMul, oDiv, oMod, oPow, oLt, oLe, oGt, oGe, o2I, o2IC, oNeg, oIsN, oNotN, oIsB, oNotB, oLst, oTup, oTupS, oLenS, asInt2, spar, spar3, sput, smut, oApp, mixS, slotL, ownL, SV.fz, oItems, oItemsT, oIxT, oIxL, oTupOf, oListOf, oEnumT, oLen, on1, oInt, oAbs, oMax2, oMin2, gput, unwipe, wipeS, oldS, mcallS, oExt, sappL, sapp2, sput2, pix2, pixS, oCatT, oCat, mslT, mpart, mnopart, List.getElem?_cons_zero, List.getElem?_cons_succ, List.set_cons_zero, List.set_cons_succ, ownLL_0, ownLL_1, ownLL_2, ownLL_3, ownLL_4, Rs.bind_ok, toRs_some, lift_some, asInt_int, asList_list, asTup_tup, noErr_ok, obind_some, asBool_bool, Bool.not_true, Bool.not_false, isT, isNone_none, isNone_int, isNone_bool, isNone_tup, isNone_list, ifT, ifF]
        | true =>
          simp -implicitDefEqProofs only [nr_seq, after_app, nr_nx, nr_rt, br_ok, nr_ite, Int.cast_ofNat_Int, Int.reduceEq, ne_eq, not_true_eq_false, not_false_eq_true, Bool.false_eq_true, if_false, Int.reduceLE, Int.reduceLT, Int.reduceNeg, Int.reduceSub, Int.reduceAdd, decide_eq_true_eq, Bool.or_false, Bool.or_true, true_or, or_true, or_false, false_or, decide_not, bne_self_eq_false, Option.some.injEq, startS, startH, startScr, List.map, List.cons_append, List.nil_append, List.append_nil, List.length_cons, List.length_nil, List.length_set, List.replicate_zero, List.replicate_succ, Nat.reduceAdd, Nat.reduceSub, Nat.reduceLT, Nat.reduceLeDiff, Nat.zero_add, Nat.reduceMul, and_self, and_true, true_and, if_true, reduceIte, decide_true, decide_false, Nat.lt_irrefl, sif, sset, mD, mL, mLL, mLL0, stg, gset, gtup, gcons, gnil, sret, sfl, sdrop, saug, mtest, mnot, mand, mor, mandV, morV, mnotV, mife, mcallQ, mcallH, mcall, mcallL, mcallS, mcallSL, mcons, mnil, mv, mc, mop, mopL, mun, misi, mfrz, mP, pv', pop, mchain, mtrue, mrevL, mit, mitems, mcallScr, mscr, scrOf, mlcomp, oAdd, oSub, oMul, oDiv, oMod, oPow, oLt, oLe, oGt, oGe, o2I, o2IC, oNeg, oIsN, oNotN, oIsB, oNotB, oLst, oTup, oTupS, oLenS, asInt2, spar, spar3, sput, smut, oApp, mixS, slotL, ownL, SV.fz, oItems, oItemsT, oIxT, oIxL, oTupOf, oListOf, oEnumT, oLen, on1, oInt, oAbs, oMax2, oMin2, gput, unwipe, wipeS, oldS, mcallS, oExt, sappL, sapp2, sput2, pix2, pixS, oCatT, oCat, mslT, mpart, mnopart, List.getElem?_cons_zero, List.getElem?_cons_succ, List.set_cons_zero, List.set_cons_succ, ownLL_0, ownLL_1, ownLL_2, ownLL_3, ownLL_4, Rs.bind_ok, toRs_some, lift_some, asInt_int, asList_list, asTup_tup, noErr_ok, obind_some, asBool_bool, Bool.not_true, Bool.not_false, isT, isNone_none, isNone_int, isNone_bool, isNone_tup, isNone_list, ifT, ifF]
          unfold matL mat
          rw [vec_map]
      · rw [rangeD_vec] at hd
        obtain ⟨i, hi, rfl⟩ := vec_mem hd
        obtain ⟨y, e, _⟩ := fw_diag (n := n) (W := W) i
        simp -implicitDefEqProofs only [nr_seq, after_app, nr_nx, nr_rt, br_ok, nr_ite, Int.cast_ofNat_Int, Int.reduceEq, ne_eq, not_true_eq_false, not_false_eq_true, Bool.false_eq_true, if_false, Int.reduceLE, Int.reduceLT, Int.reduceNeg, Int.reduceSub, Int.reduceAdd, decide_eq_true_eq, Bool.or_false, Bool.or_true, true_or, or_true, or_false, false_or, decide_not, bne_self_eq_false, Option.some.injEq, startS, startH, startScr, List.map, List.cons_append, List.nil_append, List.append_nil, List.length_cons, List.length_nil, List.length_set, List.replicate_zero, List.replicate_succ, Nat.reduceAdd, Nat.reduceSub, Nat.reduceLT, Nat.reduceLeDiff, Nat.zero_add, Nat.reduceMul, and_self, and_true, true_and, if_true, reduceIte, decide_true, decide_false, Nat.lt_irrefl, sif, sset, mD, mL, mLL, mLL0, stg, gset, gtup, gcons, gnil, sret, sfl, sdrop, saug, mtest, mnot, mand, mor, mandV, morV, mnotV, mife, mcallQ, mcallH, mcall, mcallL, mcallS, mcallSL, mcons, mnil, mv, mc, mop, mopL, mun, misi, mfrz, mP, pv', pop, mchain, mtrue, mrevL, mit, mitems, mcallScr, mscr, scrOf, mlcomp, oAdd, oSub, oMul, oDiv, oMod, oPow, oLt, oLe, oGt, oGe, o2I, o2IC, oNeg, oIsN, oNotN, oIsB, oNotB, oLst, oTup, oTupS, oLenS, asInt2, spar, spar3, sput, smut, oApp, mixS, slotL, ownL, SV.fz, oItems, oItemsT, oIxT, oIxL, oTupOf, oListOf, oEnumT, oLen, on1, oInt, oAbs, oMax2, oMin2, gput, unwipe, wipeS, oldS, mcallS, oExt, sappL, sapp2, sput2, pix2, pixS, oCatT, oCat, mslT, mpart, mnopart, List.getElem?_cons_zero, List.getElem?_cons_succ, List.set_cons_zero, List.set_cons_succ, ownLL_0, ownLL_1, ownLL_2, ownLL_3, ownLL_4, Rs.bind_ok, toRs_some, lift_some, asInt_int, asList_list, asTup_tup, noErr_ok, obind_some, asBool_bool, Bool.not_true, Bool.not_false, isT, isNone_none, isNone_int, isNone_bool, isNone_tup, isNone_list, ifT, ifF, mat_at, hi, atI_vec, e, oD_some, asI_int, Int.toNat_natCast, Option.getD_some]
end K39
namespace K39
open PySem L2 Evl Mir Wsh
theorem Lq_none {z : Int} : Lq none z = False := by simp [Lq]
theorem Lq_some {y z : Int} : Lq (some y) z = (y ≤ z) := by simp [Lq]
theorem leD_none {z : Int} : decide (Lq none z) = false := decide_eq_false (by rw [Lq_none]; exact fun h => h)
theorem leD_some {y z : Int} : decide (Lq (some y) z) = decide (y ≤ z) := by
  by_cases h : y ≤ z
  · rw [decide_eq_true h, decide_eq_true]; rw [Lq_some]; exact h
  · rw [decide_eq_false h, decide_eq_false]; rw [Lq_some]; exact h
theorem one_len {w : Wi} : [w].map wD = [wD w] := by rfl
theorem is_said_eq {n : Nat} {W : List Wi} (h : Va n W) {a b : Nat} {m : Int} (hw : Va n [(a, b, m)]) : m_is_said [.int n, wsD W, .tuple [.int a, .int b, .int m]] = .ok (.bool (if fz n W = true then decide (Lq (fw n W a b) m) else true)) := by
  obtain ⟨ha, hb, _⟩ := hw.ok a b m (by simp)
  have hc := check_va hw
  have hc : m_check_wishes [.int n, .tuple [.tuple [.int a, .int b, .int m]]] = .ok .none := hc
  have hb' := bounds_eq h
  unfold m_is_said b_is_said
  refine mdef_of ?_
  cases hz : fz n W with
  | false =>
    rw [hz, if_neg Bool.false_ne_true] at hb'
    simp -implicitDefEqProofs only [nr_seq, after_app, nr_nx, nr_rt, br_ok, nr_ite, Int.cast_ofNat_Int, Int.reduceEq, ne_eq, not_true_eq_false, not_false_eq_true, Bool.false_eq_true, if_false, Int.reduceLE, Int.reduceLT, Int.reduceNeg, Int.reduceSub, Int.reduceAdd, decide_eq_true_eq, Bool.or_false, Bool.or_true, true_or, or_true, or_false, false_or, decide_not, bne_self_eq_false, Option.some.injEq, startS, startH, startScr, List.map, List.cons_append, List.nil_append, List.append_nil, List.length_cons, List.length_nil, List.length_set, List.replicate_zero, List.replicate_succ, Nat.reduceAdd, Nat.reduceSub, Nat.reduceLT, Nat.reduceLeDiff, Nat.zero_add, Nat.reduceMul, and_self, and_true, true_and, if_true, reduceIte, decide_true, decide_false, Nat.lt_irrefl, sif, sset, mD, mL, mLL, mLL0, stg, gset, gtup, gcons, gnil, sret, sfl, sdrop, saug, mtest, mnot, mand, mor, mandV, morV, mnotV, mife, mcallQ, mcallH, mcall, mcallL, mcallS, mcallSL, mcons, mnil, mv, mc, mop, mopL, mun, misi, mfrz, mP, pv', pop, mchain, mtrue, mrevL, mit, mitems, mcallScr, mscr, scrOf, mlcomp, oAdd, oSub, oMul, oDiv, oMod, oPow, oLt, oLe, oGt, oGe, o2I, o2IC, oNeg, oIsN, oNotN, oIsB, oNotB, oLst, oTup, oTupS, oLenS, asInt2, spar, spar3, sput, smut, oApp, mixS, slotL, ownL, SV.fz, oItems, oItemsT, oIxT, oIxL, oTupOf, oListOf, oEnumT, oLen, on1, oInt, oAbs, oMax2, oMin2, gput, unwipe, wipeS, oldS, mcallS, oExt, sappL, sapp2, sput2, pix2, pixS, oCatT, oCat, mslT, mpart, mnopart, List.getElem?_cons_zero, List.getElem?_cons_succ, List.set_cons_zero, List.set_cons_succ, ownLL_0, ownLL_1, ownLL_2, ownLL_3, ownLL_4, Rs.bind_ok, toRs_some, lift_some, asInt_int, asList_list, asTup_tup, noErr_ok, obind_some, asBool_bool, Bool.not_true, Bool.not_false, isT, isNone_none, isNone_int, isNone_bool, isNone_tup, isNone_list, ifT, ifF, check_va h, hc, hb']
  | true =>
    rw [hz, if_pos rfl] at hb'
    unfold matT rowT at hb'
    cases hm : fw n W a b with
    | none => simp -implicitDefEqProofs only [nr_seq, after_app, nr_nx, nr_rt, br_ok, nr_ite, Int.cast_ofNat_Int, Int.reduceEq, ne_eq, not_true_eq_false, not_false_eq_true, Bool.false_eq_true, if_false, Int.reduceLE, Int.reduceLT, Int.reduceNeg, Int.reduceSub, Int.reduceAdd, decide_eq_true_eq, Bool.or_false, Bool.or_true, true_or, or_true, or_false, false_or, decide_not, bne_self_eq_false, Option.some.injEq, startS, startH, startScr, List.map, List.cons_append, List.nil_append, List.append_nil, List.length_cons, List.length_nil, List.length_set, List.replicate_zero, List.replicate_succ, Nat.reduceAdd, Nat.reduceSub, Nat.reduceLT, Nat.reduceLeDiff, Nat.zero_add, Nat.reduceMul, and_self, and_true, true_and, if_true, reduceIte, decide_true, decide_false, Nat.lt_irrefl, sif, sset, mD, mL, mLL, mLL0, stg, gset, gtup, gcons, gnil, sret, sfl, sdrop, saug, mtest, mnot, mand, mor, mandV, morV, mnotV, mife, mcallQ, mcallH, mcall, mcallL, mcallS, mcallSL, mcons, mnil, mv, mc, mop, mopL, mun, misi, mfrz, mP, pv', pop, mchain, mtrue, mrevL, mit, mitems, mcallScr, mscr, scrOf, mlcomp, oAdd, oSub, oMul, oDiv, oMod, oPow, oLt, oLe, oGt, oGe, o2I, o2IC, oNeg, oIsN, oNotN, oIsB, oNotB, oLst, oTup, oTupS, oLenS, asInt2, spar, spar3, sput, smut, oApp, mixS, slotL, ownL, SV.fz, oItems, oItemsT, oIxT, oIxL, oTupOf, oListOf, oEnumT, oLen, on1, oInt, oAbs, oMax2, oMin2, gput, unwipe, wipeS, oldS, mcallS, oExt, sappL, sapp2, sput2, pix2, pixS, oCatT, oCat, mslT, mpart, mnopart, List.getElem?_cons_zero, List.getElem?_cons_succ, List.set_cons_zero, List.set_cons_succ, ownLL_0, ownLL_1, ownLL_2, ownLL_3, ownLL_4, Rs.bind_ok, toRs_some, lift_some, asInt_int, asList_list, asTup_tup, noErr_ok, obind_some, asBool_bool, Bool.not_true, Bool.not_false, isT, isNone_none, isNone_int, isNone_bool, isNone_tup, isNone_list, ifT, ifF, check_va h, hc, hb', at0, at1, at2, atI_vec, ha, hb, hm, oD_none, leD_none]
    | some y => simp -implicitDefEqProofs only [nr_seq, after_app, nr_nx, nr_rt, br_ok, nr_ite, Int.cast_ofNat_Int, Int.reduceEq, ne_eq, not_true_eq_false, not_false_eq_true, Bool.false_eq_true, if_false, Int.reduceLE, Int.reduceLT, Int.reduceNeg, Int.reduceSub, Int.reduceAdd, decide_eq_true_eq, Bool.or_false, Bool.or_true, true_or, or_true, or_false, false_or, decide_not, bne_self_eq_false, Option.some.injEq, startS, startH, startScr, List.map, List.cons_append, List.nil_append, List.append_nil, List.length_cons, List.length_nil, List.length_set, List.replicate_zero, List.replicate_succ, Nat.reduceAdd, Nat.reduceSub, Nat.reduceLT, Nat.reduceLeDiff, Nat.zero_add, Nat.reduceMul, and_self, and_true, true_and, if_true, reduceIte, decide_true, decide_false, Nat.lt_irrefl, sif, sset, mD, mL, mLL, mLL0, stg, gset, gtup, gcons, gnil, sret, sfl, sdrop, saug, mtest, mnot, mand, mor, mandV, morV, mnotV, mife, mcallQ, mcallH, mcall, mcallL, mcallS, mcallSL, mcons, mnil, mv, mc, mop, mopL, mun, misi, mfrz, mP, pv', pop, mchain, mtrue, mrevL, mit, mitems, mcallScr, mscr, scrOf, mlcomp, oAdd, oSub, oMul, oDiv, oMod, oPow, oLt, oLe, oGt, oGe, o2I, o2IC, oNeg, oIsN, oNotN, oIsB, oNotB, oLst, oTup, oTupS, oLenS, asInt2, spar, spar3, sput, smut, oApp, mixS, slotL, ownL, SV.fz, oItems, oItemsT, oIxT, oIxL, oTupOf, oListOf, oEnumT, oLen, on1, oInt, oAbs, oMax2, oMin2, gput, unwipe, wipeS, oldS, mcallS, oExt, sappL, sapp2, sput2, pix2, pixS, oCatT, oCat, mslT, mpart, mnopart, List.getElem?_cons_zero, List.getElem?_cons_succ, List.set_cons_zero, List.set_cons_succ, ownLL_0, ownLL_1, ownLL_2, ownLL_3, ownLL_4, Rs.bind_ok, toRs_some, lift_some, asInt_int, asList_list, asTup_tup, noErr_ok, obind_some, asBool_bool, Bool.not_true, Bool.not_false, isT, isNone_none, isNone_int, isNone_bool, isNone_tup, isNone_list, ifT, ifF, check_va h, hc, hb', at0, at1, at2, atI_vec, ha, hb, hm, oD_some, leD_some]
theorem law_said_eq {n : Nat} {M : Mx} {a b : Nat} {m : Int} (ha : a < n) (hb : b < n) : m__law_is_said [matL n M, .tuple [.int a, .int b, .int m]] = .ok (.bool (decide (Lq (M a b) m))) := by
  unfold m__law_is_said b__law_is_said matL
  refine mdef_of ?_
  cases hm : M a b with
  | none => simp -implicitDefEqProofs only [nr_seq, after_app, nr_nx, nr_rt, br_ok, nr_ite, Int.cast_ofNat_Int, Int.reduceEq, ne_eq, not_true_eq_false, not_false_eq_true, Bool.false_eq_true, if_false, Int.reduceLE, Int.reduceLT, Int.reduceNeg, Int.reduceSub, Int.reduceAdd, decide_eq_true_eq, Bool.or_false, Bool.or_true, true_or, or_true, or_false, false_or, decide_not, bne_self_eq_false, Option.some.injEq, startS, startH, startScr, List.map, List.cons_append, List.nil_append, List.append_nil, List.length_cons, List.length_nil, List.length_set, List.replicate_zero, List.replicate_succ, Nat.reduceAdd, Nat.reduceSub, Nat.reduceLT, Nat.reduceLeDiff, Nat.zero_add, Nat.reduceMul, and_self, and_true, true_and, if_true, reduceIte, decide_true, decide_false, Nat.lt_irrefl, sif, sset, mD, mL, mLL, mLL0, stg, gset, gtup, gcons, gnil, sret, sfl, sdrop, saug, mtest, mnot, mand, mor, mandV, morV, mnotV, mife, mcallQ, mcallH, mcall, mcallL, mcallS, mcallSL, mcons, mnil, mv, mc, mop, mopL, mun, misi, mfrz, mP, pv', pop, mchain, mtrue, mrevL, mit, mitems, mcallScr, mscr, scrOf, mlcomp, oAdd, oSub, oMul, oDiv, oMod, oPow, oLt, oLe, oGt, oGe, o2I, o2IC, oNeg, oIsN, oNotN, oIsB, oNotB, oLst, oTup, oTupS, oLenS, asInt2, spar, spar3, sput, smut, oApp, mixS, slotL, ownL, SV.fz, oItems, oItemsT, oIxT, oIxL, oTupOf, oListOf, oEnumT, oLen, on1, oInt, oAbs, oMax2, oMin2, gput, unwipe, wipeS, oldS, mcallS, oExt, sappL, sapp2, sput2, pix2, pixS, oCatT, oCat, mslT, mpart, mnopart, List.getElem?_cons_zero, List.getElem?_cons_succ, List.set_cons_zero, List.set_cons_succ, ownLL_0, ownLL_1, ownLL_2, ownLL_3, ownLL_4, Rs.bind_ok, toRs_some, lift_some, asInt_int, asList_list, asTup_tup, noErr_ok, obind_some, asBool_bool, Bool.not_true, Bool.not_false, isT, isNone_none, isNone_int, isNone_bool, isNone_tup, isNone_list, ifT, ifF, at0, at1, at2, atI_vec, ha, hb, hm, oD_none, leD_none]
  | some y => simp -implicitDefEqProofs only [nr_seq, after_app, nr_nx, nr_rt, br_ok, nr_ite, Int.cast_ofNat_Int, Int.reduceEq, ne_eq, not_true_eq_false, not_false_eq_true, Bool.false_eq_true, if_false, Int.reduceLE, Int.reduceLT, Int.reduceNeg, Int.reduceSub, Int.reduceAdd, decide_eq_true_eq, Bool.or_false, Bool.or_true, true_or, or_true, or_false, false_or, decide_not, bne_self_eq_false, Option.some.injEq, startS, startH, startScr, List.map, List.cons_append, List.nil_append, List.append_nil, List.length_cons, List.length_nil, List.length_set, List.replicate_zero, List.replicate_succ, Nat.reduceAdd, Nat.reduceSub, Nat.reduceLT, Nat.reduceLeDiff, Nat.zero_add, Nat.reduceMul, and_self, and_true, true_and, if_true, reduceIte, decide_true, decide_false, Nat.lt_irrefl, sif, sset, mD, mL, mLL, mLL0, stg, gset, gtup, gcons, gnil, sret, sfl, sdrop, saug, mtest, mnot, mand, mor, mandV, morV, mnotV, mife, mcallQ, mcallH, mcall, mcallL, mcallS, mcallSL, mcons, mnil, mv, mc, mop, mopL, mun, misi, mfrz, mP, pv', pop, mchain, mtrue, mrevL, mit, mitems, mcallScr, mscr, scrOf, mlcomp, oAdd, oSub, oMul, oDiv, oMod, oPow, oLt, oLe, oGt, oGe, o2I, o2IC, oNeg, oIsN, oNotN, oIsB, oNotB, oLst, oTup, oTupS, oLenS, asInt2, spar, spar3, sput, smut, oApp, mixS, slotL, ownL, SV.fz, oItems, oItemsT, oIxT, oIxL, oTupOf, oListOf, oEnumT, oLen, on1, oInt, oAbs, oMax2, oMin2, gput, unwipe, wipeS, oldS, mcallS, oExt, sappL, sapp2, sput2, pix2, pixS, oCatT, oCat, mslT, mpart, mnopart, List.getElem?_cons_zero, List.getElem?_cons_succ, List.set_cons_zero, List.set_cons_succ, ownLL_0, ownLL_1, ownLL_2, ownLL_3, ownLL_4, Rs.bind_ok, toRs_some, lift_some, asInt_int, asList_list, asTup_tup, noErr_ok, obind_some, asBool_bool, Bool.not_true, Bool.not_false, isT, isNone_none, isNone_int, isNone_bool, isNone_tup, isNone_list, ifT, ifF, at0, at1, at2, atI_vec, ha, hb, hm, oD_some, leD_some]
theorem cut_take {α : List D} {i : Nat} (h : i ≤ α.length) : cutD α none (some (i : Int)) = α.take i := by
  unfold cutD
  rw [HT.sIx_none, HT.sIx_nat, Nat.min_eq_left h, Nat.sub_zero]
  rfl
theorem cut_drop {α : List D} {i : Nat} (h : i ≤ α.length) : cutD α (some (i : Int)) none = α.drop i := by
  unfold cutD
  rw [HT.sIx_none, HT.sIx_nat, Nat.min_eq_left h]
  rw [List.take_of_length_le]
  simp
theorem cut_all {α : List D} {i : Nat} (h : α.length ≤ i) : cutD α none (some (i : Int)) = α := by
  unfold cutD
  rw [HT.sIx_none, HT.sIx_nat, Nat.min_eq_right h, Nat.sub_zero]
  show α.take α.length = α
  exact List.take_length
def without (W : List Wi) (i : Nat) : List Wi := W.take i ++ W.drop (i + 1)
theorem without_mem {W : List Wi} {i : Nat} {w : Wi} (h : w ∈ without W i) : w ∈ W := by
  rcases List.mem_append.mp h with h | h
  · exact List.mem_of_mem_take h
  · exact List.mem_of_mem_drop h
theorem Va.sub {n : Nat} {W V : List Wi} (h : Va n W) (hl : V.length ≤ 200) (hs : ∀ w, w ∈ V → w ∈ W) : Va n V :=
  ⟨h.pos, h.le, hl, fun a b m hm => h.ok a b m (hs _ hm), fun a b m hm => h.gap a b m (hs _ hm)⟩
theorem without_len {W : List Wi} {i : Nat} : (without W i).length ≤ W.length := by
  unfold without
  rw [List.length_append, List.length_take, List.length_drop]
  omega
theorem Va.without {n : Nat} {W : List Wi} (h : Va n W) (i : Nat) : Va n (without W i) := h.sub (Nat.le_trans without_len h.len) fun w hw => without_mem hw
theorem Va.one {n : Nat} {W : List Wi} (h : Va n W) {w : Wi} (hw : w ∈ W) : Va n [w] := h.sub (by simp) fun v hv => by rw [List.mem_singleton.mp hv]; exact hw
def sdB (n : Nat) (W : List Wi) (i : Nat) : Bool := match W[i]? with
  | some w => if fz n (without W i) = true then decide (Lq (fw n (without W i) w.1 w.2.1) w.2.2) else true
  | none => false
theorem filterMap_enum {p : Nat → Bool} {g : Nat → D} {v : D → Option D} : ∀ (ds : List D) (k : Nat), (∀ i d, ds[i]? = some d → v (.tuple [.int ((k + i : Nat) : Int), d]) = if p (k + i) = true then some (g (k + i)) else none) →
    ((List.range' k ds.length).zipWith (fun i d => PyData.tuple [.int (i : Nat), d]) ds).filterMap v = ((List.range' k ds.length).filter p).map g
  | [], k, _ => rfl
  | d :: ds, k, h => by
    have h0 := h 0 d rfl
    have ih := filterMap_enum (p := p) (g := g) (v := v) ds (k + 1) fun i d hd => by
      have := h (i + 1) d (by simpa using hd)
      rw [show k + (i + 1) = k + 1 + i by omega] at this
      exact this
    rw [List.length_cons, List.range'_succ, List.zipWith_cons_cons, List.filterMap_cons, List.filter_cons, ih]
    rw [Nat.add_zero] at h0
    rw [h0]
    by_cases hp : p k = true
    · rw [if_pos hp, if_pos hp]; rfl
    · rw [if_neg hp, if_neg hp]
theorem needless_eq {n : Nat} {W : List Wi} (h : Va n W) : m_needless_wishes [.int n, wsD W] = .ok (.tuple (((List.range W.length).filter (sdB n W)).map fun i => .int (i : Nat))) := by
  have hl := h.len
  have hl5 : W.length ≤ 100000 := by omega
  unfold m_needless_wishes b_needless_wishes
  refine mdef_of ?_
  simp -implicitDefEqProofs only [nr_seq, after_app, nr_nx, nr_rt, br_ok, nr_ite, Int.cast_ofNat_Int, Int.reduceEq, ne_eq, not_true_eq_false, not_false_eq_true, Bool.false_eq_true, if_false, Int.reduceLE, Int.reduceLT, Int.reduceNeg, Int.reduceSub, Int.reduceAdd, decide_eq_true_eq, Bool.or_false, Bool.or_true, true_or, or_true, or_false, false_or, decide_not, bne_self_eq_false, Option.some.injEq, startS, startH, startScr, List.map, List.cons_append, List.nil_append, List.append_nil, List.length_cons, List.length_nil, List.length_set, List.replicate_zero, List.replicate_succ, Nat.reduceAdd, Nat.reduceSub, Nat.reduceLT, Nat.reduceLeDiff, Nat.zero_add, Nat.reduceMul, and_self, and_true, true_and, if_true, reduceIte, decide_true, decide_false, Nat.lt_irrefl, sif, sset, mD, mL, mLL, mLL0, stg, gset, gtup, gcons, gnil, sret, sfl, sdrop, saug, mtest, mnot, mand, mor, mandV, morV, mnotV, mife, mcallQ, mcallH, mcall, mcallL, mcallS, mcallSL, mcons, mnil, mv, mc, mop, mopL, mun, misi, mfrz, mP, pv', pop, mchain, mtrue, mrevL, mit, mitems, mcallScr, mscr, scrOf, mlcomp, oAdd, oSub, oMul, oDiv, oMod, oPow, oLt, oLe, oGt, oGe, o2I, o2IC, oNeg, oIsN, oNotN, oIsB, oNotB, oLst, oTup, oTupS, oLenS, asInt2, spar, spar3, sput, smut, oApp, mixS, slotL, ownL, SV.fz, oItems, oItemsT, oIxT, oIxL, oTupOf, oListOf, oEnumT, oLen, on1, oInt, oAbs, oMax2, oMin2, gput, unwipe, wipeS, oldS, mcallS, oExt, sappL, sapp2, sput2, pix2, pixS, oCatT, oCat, mslT, mpart, mnopart, List.getElem?_cons_zero, List.getElem?_cons_succ, List.set_cons_zero, List.set_cons_succ, ownLL_0, ownLL_1, ownLL_2, ownLL_3, ownLL_4, Rs.bind_ok, toRs_some, lift_some, asInt_int, asList_list, asTup_tup, noErr_ok, obind_some, asBool_bool, Bool.not_true, Bool.not_false, isT, isNone_none, isNone_int, isNone_bool, isNone_tup, isNone_list, ifT, ifF, check_va h, enum_len, ws_len, hl5]
  rw [mlc_eq (v := fun d => match d with | .tuple [.int i, x] => if sdB n W i.toNat = true then some (.int i) else none | _ => none) _ (fun d hd => ?_)]
  · simp -implicitDefEqProofs only [nr_seq, after_app, nr_nx, nr_rt, br_ok, nr_ite, Int.cast_ofNat_Int, Int.reduceEq, ne_eq, not_true_eq_false, not_false_eq_true, Bool.false_eq_true, if_false, Int.reduceLE, Int.reduceLT, Int.reduceNeg, Int.reduceSub, Int.reduceAdd, decide_eq_true_eq, Bool.or_false, Bool.or_true, true_or, or_true, or_false, false_or, decide_not, bne_self_eq_false, Option.some.injEq, startS, startH, startScr, List.map, List.cons_append, List.nil_append, List.append_nil, List.length_cons, List.length_nil, List.length_set, List.replicate_zero, List.replicate_succ, Nat.reduceAdd, Nat.reduceSub, Nat.reduceLT, Nat.reduceLeDiff, Nat.zero_add, Nat.reduceMul, and_self, and_true, true_and, if_true, reduceIte, decide_true, decide_false, Nat.lt_irrefl, sif, sset, mD, mL, mLL, mLL0, stg, gset, gtup, gcons, gnil, sret, sfl, sdrop, saug, mtest, mnot, mand, mor, mandV, morV, mnotV, mife, mcallQ, mcallH, mcall, mcallL, mcallS, mcallSL, mcons, mnil, mv, mc, mop, mopL, mun, misi, mfrz, mP, pv', pop, mchain, mtrue, mrevL, mit, mitems, mcallScr, mscr, scrOf, mlcomp, oAdd, oSub, oMul, oDiv, oMod, oPow, oLt, oLe, oGt, oGe, o2I, o2IC, oNeg, oIsN, oNotN, oIsB, oNotB, oLst, oTup, oTupS, oLenS, asInt2, spar, spar3, sput, smut, oApp, mixS, slotL, ownL, SV.fz, oItems, oItemsT, oIxT, oIxL, oTupOf, oListOf, oEnumT, oLen, on1, oInt, oAbs, oMax2, oMin2, gput, unwipe, wipeS, oldS, mcallS, oExt, sappL, sapp2, sput2, pix2, pixS, oCatT, oCat, mslT, mpart, mnopart, List.getElem?_cons_zero, List.getElem?_cons_succ, List.set_cons_zero, List.set_cons_succ, ownLL_0, ownLL_1, ownLL_2, ownLL_3, ownLL_4, Rs.bind_ok, toRs_some, lift_some, asInt_int, asList_list, asTup_tup, noErr_ok, obind_some, asBool_bool, Bool.not_true, Bool.not_false, isT, isNone_none, isNone_int, isNone_bool, isNone_tup, isNone_list, ifT, ifF]
    congr 1
    have := filterMap_enum (p := sdB n W) (g := fun i => .int (i : Nat)) (v := fun d => match d with | .tuple [.int i, x] => if sdB n W i.toNat = true then some (.int i) else none | _ => none) (W.map wD) 0 fun i d hd => by
      simp only [Nat.zero_add, Int.toNat_natCast]
    rw [← List.range_eq_range', ws_len] at this
    unfold enumD
    rw [ws_len]
    exact this
  · obtain ⟨i, hi⟩ := List.getElem?_of_mem hd
    obtain ⟨a, b, m, hw, rfl⟩ := enum_get hi
    have hil : i < W.length := (List.getElem?_eq_some_iff.mp hw).1
    have e1 : cutD (W.map wD) none (some (i : Int)) = (W.take i).map wD := by rw [cut_take (by rw [ws_len]; omega), List.map_take]
    have e2 : cutD (W.map wD) (some ((i : Int) + 1)) none = (W.drop (i + 1)).map wD := by
      have := cut_drop (α := W.map wD) (i := i + 1) (by rw [ws_len]; omega)
      rw [List.map_drop]
      exact this
    have e3 : (W.take i).map wD ++ (W.drop (i + 1)).map wD = (without W i).map wD := by unfold without; rw [List.map_append]
    have e4 : ((W.take i).map wD).length + ((W.drop (i + 1)).map wD).length ≤ 100000 := by
      rw [List.length_map, List.length_map, List.length_take, List.length_drop]; omega
    have e5 := is_said_eq (h.without i) (h.one (List.mem_of_getElem? hw))
    have e6 : (if fz n (without W i) = true then decide (Lq (fw n (without W i) a b) m) else true) = sdB n W i := by
      unfold sdB
      rw [hw]
    rw [e6] at e5
    simp -implicitDefEqProofs only [nr_seq, after_app, nr_nx, nr_rt, br_ok, nr_ite, Int.cast_ofNat_Int, Int.reduceEq, ne_eq, not_true_eq_false, not_false_eq_true, Bool.false_eq_true, if_false, Int.reduceLE, Int.reduceLT, Int.reduceNeg, Int.reduceSub, Int.reduceAdd, decide_eq_true_eq, Bool.or_false, Bool.or_true, true_or, or_true, or_false, false_or, decide_not, bne_self_eq_false, Option.some.injEq, startS, startH, startScr, List.map, List.cons_append, List.nil_append, List.append_nil, List.length_cons, List.length_nil, List.length_set, List.replicate_zero, List.replicate_succ, Nat.reduceAdd, Nat.reduceSub, Nat.reduceLT, Nat.reduceLeDiff, Nat.zero_add, Nat.reduceMul, and_self, and_true, true_and, if_true, reduceIte, decide_true, decide_false, Nat.lt_irrefl, sif, sset, mD, mL, mLL, mLL0, stg, gset, gtup, gcons, gnil, sret, sfl, sdrop, saug, mtest, mnot, mand, mor, mandV, morV, mnotV, mife, mcallQ, mcallH, mcall, mcallL, mcallS, mcallSL, mcons, mnil, mv, mc, mop, mopL, mun, misi, mfrz, mP, pv', pop, mchain, mtrue, mrevL, mit, mitems, mcallScr, mscr, scrOf, mlcomp, oAdd, oSub, oMul, oDiv, oMod, oPow, oLt, oLe, oGt, oGe, o2I, o2IC, oNeg, oIsN, oNotN, oIsB, oNotB, oLst, oTup, oTupS, oLenS, asInt2, spar, spar3, sput, smut, oApp, mixS, slotL, ownL, SV.fz, oItems, oItemsT, oIxT, oIxL, oTupOf, oListOf, oEnumT, oLen, on1, oInt, oAbs, oMax2, oMin2, gput, unwipe, wipeS, oldS, mcallS, oExt, sappL, sapp2, sput2, pix2, pixS, oCatT, oCat, mslT, mpart, mnopart, List.getElem?_cons_zero, List.getElem?_cons_succ, List.set_cons_zero, List.set_cons_succ, ownLL_0, ownLL_1, ownLL_2, ownLL_3, ownLL_4, Rs.bind_ok, toRs_some, lift_some, asInt_int, asList_list, asTup_tup, noErr_ok, obind_some, asBool_bool, Bool.not_true, Bool.not_false, isT, isNone_none, isNone_int, isNone_bool, isNone_tup, isNone_list, ifT, ifF, e1, e2, e3, e4, e5, Int.toNat_natCast]
    cases sdB n W i with
    | true => simp -implicitDefEqProofs only [nr_seq, after_app, nr_nx, nr_rt, br_ok, nr_ite, Int.cast_ofNat_Int, Int.reduceEq, ne_eq, not_true_eq_false, not_false_eq_true, Bool.false_eq_true, if_false, Int.reduceLE, Int.reduceLT, Int.reduceNeg, Int.reduceSub, Int.reduceAdd, decide_eq_true_eq, Bool.or_false, Bool.or_true, true_or, or_true, or_false, false_or, decide_not, bne_self_eq_false, Option.some.injEq, startS, startH, startScr, List.map, List.cons_append, List.nil_append, List.append_nil, List.length_cons, List.length_nil, List.length_set, List.replicate_zero, List.replicate_succ, Nat.reduceAdd, Nat.reduceSub, Nat.reduceLT, Nat.reduceLeDiff, Nat.zero_add, Nat.reduceMul, and_self, and_true, true_and, if_true, reduceIte, decide_true, decide_false, Nat.lt_irrefl, sif, sset, mD, mL, mLL, mLL0, stg, gset, gtup, gcons, gnil, sret, sfl, sdrop, saug, mtest, mnot, mand, mor, mandV, morV, mnotV, mife, mcallQ, mcallH, mcall, mcallL, mcallS, mcallSL, mcons, mnil, mv, mc, mop, mopL, mun, misi, mfrz, mP, pv', pop, mchain, mtrue, mrevL, mit, mitems, mcallScr, mscr, scrOf, mlcomp, oAdd, oSub, oMul, oDiv, oMod, oPow, oLt, oLe, oGt, oGe, o2I, o2IC, oNeg, oIsN, oNotN, oIsB, oNotB, oLst, oTup, oTupS, oLenS, asInt2, spar, spar3, sput, smut, oApp, mixS, slotL, ownL, SV.fz, oItems, oItemsT, oIxT, oIxL, oTupOf, oListOf, oEnumT, oLen, on1, oInt, oAbs, oMax2, oMin2, gput, unwipe, wipeS, oldS, mcallS, oExt, sappL, sapp2, sput2, pix2, pixS, oCatT, oCat, mslT, mpart, mnopart, List.getElem?_cons_zero, List.getElem?_cons_succ, List.set_cons_zero, List.set_cons_succ, ownLL_0, ownLL_1, ownLL_2, ownLL_3, ownLL_4, Rs.bind_ok, toRs_some, lift_some, asInt_int, asList_list, asTup_tup, noErr_ok, obind_some, asBool_bool, Bool.not_true, Bool.not_false, isT, isNone_none, isNone_int, isNone_bool, isNone_tup, isNone_list, ifT, ifF]
    | false => simp -implicitDefEqProofs only [nr_seq, after_app, nr_nx, nr_rt, br_ok, nr_ite, Int.cast_ofNat_Int, Int.reduceEq, ne_eq, not_true_eq_false, not_false_eq_true, Bool.false_eq_true, if_false, Int.reduceLE, Int.reduceLT, Int.reduceNeg, Int.reduceSub, Int.reduceAdd, decide_eq_true_eq, Bool.or_false, Bool.or_true, true_or, or_true, or_false, false_or, decide_not, bne_self_eq_false, Option.some.injEq, startS, startH, startScr, List.map, List.cons_append, List.nil_append, List.append_nil, List.length_cons, List.length_nil, List.length_set, List.replicate_zero, List.replicate_succ, Nat.reduceAdd, Nat.reduceSub, Nat.reduceLT, Nat.reduceLeDiff, Nat.zero_add, Nat.reduceMul, and_self, and_true, true_and, if_true, reduceIte, decide_true, decide_false, Nat.lt_irrefl, sif, sset, mD, mL, mLL, mLL0, stg, gset, gtup, gcons, gnil, sret, sfl, sdrop, saug, mtest, mnot, mand, mor, mandV, morV, mnotV, mife, mcallQ, mcallH, mcall, mcallL, mcallS, mcallSL, mcons, mnil, mv, mc, mop, mopL, mun, misi, mfrz, mP, pv', pop, mchain, mtrue, mrevL, mit, mitems, mcallScr, mscr, scrOf, mlcomp, oAdd, oSub, oMul, oDiv, oMod, oPow, oLt, oLe, oGt, oGe, o2I, o2IC, oNeg, oIsN, oNotN, oIsB, oNotB, oLst, oTup, oTupS, oLenS, asInt2, spar, spar3, sput, smut, oApp, mixS, slotL, ownL, SV.fz, oItems, oItemsT, oIxT, oIxL, oTupOf, oListOf, oEnumT, oLen, on1, oInt, oAbs, oMax2, oMin2, gput, unwipe, wipeS, oldS, mcallS, oExt, sappL, sapp2, sput2, pix2, pixS, oCatT, oCat, mslT, mpart, mnopart, List.getElem?_cons_zero, List.getElem?_cons_succ, List.set_cons_zero, List.set_cons_succ, ownLL_0, ownLL_1, ownLL_2, ownLL_3, ownLL_4, Rs.bind_ok, toRs_some, lift_some, asInt_int, asList_list, asTup_tup, noErr_ok, obind_some, asBool_bool, Bool.not_true, Bool.not_false, isT, isNone_none, isNone_int, isNone_bool, isNone_tup, isNone_list, ifT, ifF]
end K39
namespace K39
open PySem L2 Evl Mir Wsh
theorem more_len {n s : Nat} : (more n s).length ≤ n := by
  unfold more
  rw [List.length_map]
  exact Nat.le_trans (List.length_filter_le _ _) (by simp)
theorem Va.more {n s : Nat} {W : List Wi} (h : Va n W) (hs : s < n) (hl : W.length ≤ 100) : Va n (W ++ more n s) :=
  ⟨h.pos, h.le, by rw [List.length_append]; have := more_len (n := n) (s := s); have := h.le; omega, more_ok h.ok hs, fun a b m hm => by
    rcases List.mem_append.mp hm with hm | hm
    · exact h.gap a b m hm
    · obtain ⟨_, _, _, rfl⟩ := more_mem.mp hm; omega⟩
theorem more_D {n s : Nat} : (rangeD 0 n).filterMap (fun d => if asI d = (s : Int) then none else some (PyData.tuple [d, .int s, .int 0])) = (more n s).map wD := by
  unfold rangeD more
  simp only [Int.zero_add]
  induction List.range n with
  | nil => rfl
  | cons a l ih =>
    rw [List.map_cons, List.filterMap_cons, List.filter_cons, ih, asI_int]
    by_cases e : a = s
    · subst e
      simp
    · have e' : ¬ ((a : Int) = (s : Int)) := by omega
      simp [e, e']
theorem soonest_moments_eq {n s : Nat} {W : List Wi} (h : Va n W) (hs : s < n) (hl : W.length ≤ 100) : m_soonest_moments [.int n, wsD W, .int s] = .ok (if fz n (W ++ more n s) = true then .tuple (vec n fun v => .int (soon W (n + 2) v)) else .none) := by
  have hn := h.le
  have hn5 : n ≤ 100000 := by omega
  have hm := h.more hs hl
  have h1 : (0 : Int) ≤ (s : Int) ∧ (s : Int) ≤ (n : Int) - 1 := by omega
  unfold m_soonest_moments b_soonest_moments
  refine mdef_of ?_
  simp -implicitDefEqProofs only [nr_seq, after_app, nr_nx, nr_rt, br_ok, nr_ite, Int.cast_ofNat_Int, Int.reduceEq, ne_eq, not_true_eq_false, not_false_eq_true, Bool.false_eq_true, if_false, Int.reduceLE, Int.reduceLT, Int.reduceNeg, Int.reduceSub, Int.reduceAdd, decide_eq_true_eq, Bool.or_false, Bool.or_true, true_or, or_true, or_false, false_or, decide_not, bne_self_eq_false, Option.some.injEq, startS, startH, startScr, List.map, List.cons_append, List.nil_append, List.append_nil, List.length_cons, List.length_nil, List.length_set, List.replicate_zero, List.replicate_succ, Nat.reduceAdd, Nat.reduceSub, Nat.reduceLT, Nat.reduceLeDiff, Nat.zero_add, Nat.reduceMul, and_self, and_true, true_and, if_true, reduceIte, decide_true, decide_false, Nat.lt_irrefl, sif, sset, mD, mL, mLL, mLL0, stg, gset, gtup, gcons, gnil, sret, sfl, sdrop, saug, mtest, mnot, mand, mor, mandV, morV, mnotV, mife, mcallQ, mcallH, mcall, mcallL, mcallS, mcallSL, mcons, mnil, mv, mc, mop, mopL, mun, misi, mfrz, mP, pv', pop, mchain, mtrue, mrevL, mit, mitems, mcallScr, mscr, scrOf, mlcomp, oAdd, oSub, oMul, oDiv, oMod, oPow, oLt, oLe, oGt, oGe, o2I, o2IC, oNeg, oIsN, oNotN, oIsB, oNotB, oLst, oTup, oTupS, oLenS, asInt2, spar, spar3, sput, smut, oApp, mixS, slotL, ownL, SV.fz, oItems, oItemsT, oIxT, oIxL, oTupOf, oListOf, oEnumT, oLen, on1, oInt, oAbs, oMax2, oMin2, gput, unwipe, wipeS, oldS, mcallS, oExt, sappL, sapp2, sput2, pix2, pixS, oCatT, oCat, mslT, mpart, mnopart, List.getElem?_cons_zero, List.getElem?_cons_succ, List.set_cons_zero, List.set_cons_succ, ownLL_0, ownLL_1, ownLL_2, ownLL_3, ownLL_4, Rs.bind_ok, toRs_some, lift_some, asInt_int, asList_list, asTup_tup, noErr_ok, obind_some, asBool_bool, Bool.not_true, Bool.not_false, isT, isNone_none, isNone_int, isNone_bool, isNone_tup, isNone_list, ifT, ifF, check_va h, is_within_int, h1, range1_nat hn5, rangeD_len, hn5]
  rw [mlc_eq (v := fun d => if asI d = (s : Int) then none else some (PyData.tuple [d, .int s, .int 0])) _ (fun d hd => ?_)]
  · have e1 : (W.map wD).length + ((more n s).map wD).length ≤ 100000 := by
      have := more_len (n := n) (s := s)
      rw [List.length_map, List.length_map]; omega
    have e2 : cutD ((W.map wD) ++ ((more n s).map wD)) none (some 200) = (W ++ more n s).map wD := by
      have := cut_all (α := (W ++ more n s).map wD) (i := 200) (by rw [ws_len]; exact hm.len)
      rw [← List.map_append]
      exact this
    simp -implicitDefEqProofs only [nr_seq, after_app, nr_nx, nr_rt, br_ok, nr_ite, Int.cast_ofNat_Int, Int.reduceEq, ne_eq, not_true_eq_false, not_false_eq_true, Bool.false_eq_true, if_false, Int.reduceLE, Int.reduceLT, Int.reduceNeg, Int.reduceSub, Int.reduceAdd, decide_eq_true_eq, Bool.or_false, Bool.or_true, true_or, or_true, or_false, false_or, decide_not, bne_self_eq_false, Option.some.injEq, startS, startH, startScr, List.map, List.cons_append, List.nil_append, List.append_nil, List.length_cons, List.length_nil, List.length_set, List.replicate_zero, List.replicate_succ, Nat.reduceAdd, Nat.reduceSub, Nat.reduceLT, Nat.reduceLeDiff, Nat.zero_add, Nat.reduceMul, and_self, and_true, true_and, if_true, reduceIte, decide_true, decide_false, Nat.lt_irrefl, sif, sset, mD, mL, mLL, mLL0, stg, gset, gtup, gcons, gnil, sret, sfl, sdrop, saug, mtest, mnot, mand, mor, mandV, morV, mnotV, mife, mcallQ, mcallH, mcall, mcallL, mcallS, mcallSL, mcons, mnil, mv, mc, mop, mopL, mun, misi, mfrz, mP, pv', pop, mchain, mtrue, mrevL, mit, mitems, mcallScr, mscr, scrOf, mlcomp, oAdd, oSub, oMul, oDiv, oMod, oPow, oLt, oLe, oGt, oGe, o2I, o2IC, oNeg, oIsN, oNotN, oIsB, oNotB, oLst, oTup, oTupS, oLenS, asInt2, spar, spar3, sput, smut, oApp, mixS, slotL, ownL, SV.fz, oItems, oItemsT, oIxT, oIxL, oTupOf, oListOf, oEnumT, oLen, on1, oInt, oAbs, oMax2, oMin2, gput, unwipe, wipeS, oldS, mcallS, oExt, sappL, sapp2, sput2, pix2, pixS, oCatT, oCat, mslT, mpart, mnopart, List.getElem?_cons_zero, List.getElem?_cons_succ, List.set_cons_zero, List.set_cons_succ, ownLL_0, ownLL_1, ownLL_2, ownLL_3, ownLL_4, Rs.bind_ok, toRs_some, lift_some, asInt_int, asList_list, asTup_tup, noErr_ok, obind_some, asBool_bool, Bool.not_true, Bool.not_false, isT, isNone_none, isNone_int, isNone_bool, isNone_tup, isNone_list, ifT, ifF, more_D, e1, e2, bounds_eq hm]
    cases hz : fz n (W ++ more n s) with
    | false => simp -implicitDefEqProofs only [nr_seq, after_app, nr_nx, nr_rt, br_ok, nr_ite, Int.cast_ofNat_Int, Int.reduceEq, ne_eq, not_true_eq_false, not_false_eq_true, Bool.false_eq_true, if_false, Int.reduceLE, Int.reduceLT, Int.reduceNeg, Int.reduceSub, Int.reduceAdd, decide_eq_true_eq, Bool.or_false, Bool.or_true, true_or, or_true, or_false, false_or, decide_not, bne_self_eq_false, Option.some.injEq, startS, startH, startScr, List.map, List.cons_append, List.nil_append, List.append_nil, List.length_cons, List.length_nil, List.length_set, List.replicate_zero, List.replicate_succ, Nat.reduceAdd, Nat.reduceSub, Nat.reduceLT, Nat.reduceLeDiff, Nat.zero_add, Nat.reduceMul, and_self, and_true, true_and, if_true, reduceIte, decide_true, decide_false, Nat.lt_irrefl, sif, sset, mD, mL, mLL, mLL0, stg, gset, gtup, gcons, gnil, sret, sfl, sdrop, saug, mtest, mnot, mand, mor, mandV, morV, mnotV, mife, mcallQ, mcallH, mcall, mcallL, mcallS, mcallSL, mcons, mnil, mv, mc, mop, mopL, mun, misi, mfrz, mP, pv', pop, mchain, mtrue, mrevL, mit, mitems, mcallScr, mscr, scrOf, mlcomp, oAdd, oSub, oMul, oDiv, oMod, oPow, oLt, oLe, oGt, oGe, o2I, o2IC, oNeg, oIsN, oNotN, oIsB, oNotB, oLst, oTup, oTupS, oLenS, asInt2, spar, spar3, sput, smut, oApp, mixS, slotL, ownL, SV.fz, oItems, oItemsT, oIxT, oIxL, oTupOf, oListOf, oEnumT, oLen, on1, oInt, oAbs, oMax2, oMin2, gput, unwipe, wipeS, oldS, mcallS, oExt, sappL, sapp2, sput2, pix2, pixS, oCatT, oCat, mslT, mpart, mnopart, List.getElem?_cons_zero, List.getElem?_cons_succ, List.set_cons_zero, List.set_cons_succ, ownLL_0, ownLL_1, ownLL_2, ownLL_3, ownLL_4, Rs.bind_ok, toRs_some, lift_some, asInt_int, asList_list, asTup_tup, noErr_ok, obind_some, asBool_bool, Bool.not_true, Bool.not_false, isT, isNone_none, isNone_int, isNone_bool, isNone_tup, isNone_list, ifT, ifF]
    | true =>
      have hf := (fz_iff hm).mp hz
      unfold matT
      simp -implicitDefEqProofs only [nr_seq, after_app, nr_nx, nr_rt, br_ok, nr_ite, Int.cast_ofNat_Int, Int.reduceEq, ne_eq, not_true_eq_false, not_false_eq_true, Bool.false_eq_true, if_false, Int.reduceLE, Int.reduceLT, Int.reduceNeg, Int.reduceSub, Int.reduceAdd, decide_eq_true_eq, Bool.or_false, Bool.or_true, true_or, or_true, or_false, false_or, decide_not, bne_self_eq_false, Option.some.injEq, startS, startH, startScr, List.map, List.cons_append, List.nil_append, List.append_nil, List.length_cons, List.length_nil, List.length_set, List.replicate_zero, List.replicate_succ, Nat.reduceAdd, Nat.reduceSub, Nat.reduceLT, Nat.reduceLeDiff, Nat.zero_add, Nat.reduceMul, and_self, and_true, true_and, if_true, reduceIte, decide_true, decide_false, Nat.lt_irrefl, sif, sset, mD, mL, mLL, mLL0, stg, gset, gtup, gcons, gnil, sret, sfl, sdrop, saug, mtest, mnot, mand, mor, mandV, morV, mnotV, mife, mcallQ, mcallH, mcall, mcallL, mcallS, mcallSL, mcons, mnil, mv, mc, mop, mopL, mun, misi, mfrz, mP, pv', pop, mchain, mtrue, mrevL, mit, mitems, mcallScr, mscr, scrOf, mlcomp, oAdd, oSub, oMul, oDiv, oMod, oPow, oLt, oLe, oGt, oGe, o2I, o2IC, oNeg, oIsN, oNotN, oIsB, oNotB, oLst, oTup, oTupS, oLenS, asInt2, spar, spar3, sput, smut, oApp, mixS, slotL, ownL, SV.fz, oItems, oItemsT, oIxT, oIxL, oTupOf, oListOf, oEnumT, oLen, on1, oInt, oAbs, oMax2, oMin2, gput, unwipe, wipeS, oldS, mcallS, oExt, sappL, sapp2, sput2, pix2, pixS, oCatT, oCat, mslT, mpart, mnopart, List.getElem?_cons_zero, List.getElem?_cons_succ, List.set_cons_zero, List.set_cons_succ, ownLL_0, ownLL_1, ownLL_2, ownLL_3, ownLL_4, Rs.bind_ok, toRs_some, lift_some, asInt_int, asList_list, asTup_tup, noErr_ok, obind_some, asBool_bool, Bool.not_true, Bool.not_false, isT, isNone_none, isNone_int, isNone_bool, isNone_tup, isNone_list, ifT, ifF, vec_len, hn5]
      rw [mlc_all (v := fun d => match d with | .tuple l => (match atI l (s : Int) with | some (.int y) => .int (-y) | _ => .none) | _ => .none) _ (fun d hd => ?_)]
      · simp -implicitDefEqProofs only [nr_seq, after_app, nr_nx, nr_rt, br_ok, nr_ite, Int.cast_ofNat_Int, Int.reduceEq, ne_eq, not_true_eq_false, not_false_eq_true, Bool.false_eq_true, if_false, Int.reduceLE, Int.reduceLT, Int.reduceNeg, Int.reduceSub, Int.reduceAdd, decide_eq_true_eq, Bool.or_false, Bool.or_true, true_or, or_true, or_false, false_or, decide_not, bne_self_eq_false, Option.some.injEq, startS, startH, startScr, List.map, List.cons_append, List.nil_append, List.append_nil, List.length_cons, List.length_nil, List.length_set, List.replicate_zero, List.replicate_succ, Nat.reduceAdd, Nat.reduceSub, Nat.reduceLT, Nat.reduceLeDiff, Nat.zero_add, Nat.reduceMul, and_self, and_true, true_and, if_true, reduceIte, decide_true, decide_false, Nat.lt_irrefl, sif, sset, mD, mL, mLL, mLL0, stg, gset, gtup, gcons, gnil, sret, sfl, sdrop, saug, mtest, mnot, mand, mor, mandV, morV, mnotV, mife, mcallQ, mcallH, mcall, mcallL, mcallS, mcallSL, mcons, mnil, mv, mc, mop, mopL, mun, misi, mfrz, mP, pv', pop, mchain, mtrue, mrevL, mit, mitems, mcallScr, mscr, scrOf, mlcomp, oAdd, oSub, oMul, oDiv, oMod, oPow, oLt, oLe, oGt, oGe, o2I, o2IC, oNeg, oIsN, oNotN, oIsB, oNotB, oLst, oTup, oTupS, oLenS, asInt2, spar, spar3, sput, smut, oApp, mixS, slotL, ownL, SV.fz, oItems, oItemsT, oIxT, oIxL, oTupOf, oListOf, oEnumT, oLen, on1, oInt, oAbs, oMax2, oMin2, gput, unwipe, wipeS, oldS, mcallS, oExt, sappL, sapp2, sput2, pix2, pixS, oCatT, oCat, mslT, mpart, mnopart, List.getElem?_cons_zero, List.getElem?_cons_succ, List.set_cons_zero, List.set_cons_succ, ownLL_0, ownLL_1, ownLL_2, ownLL_3, ownLL_4, Rs.bind_ok, toRs_some, lift_some, asInt_int, asList_list, asTup_tup, noErr_ok, obind_some, asBool_bool, Bool.not_true, Bool.not_false, isT, isNone_none, isNone_int, isNone_bool, isNone_tup, isNone_list, ifT, ifF]
        rw [vec_map]
        unfold vec
        congr 1
        refine List.map_congr_left fun v hv => ?_
        have hv := List.mem_range.mp hv
        unfold rowT
        dsimp only
        rw [atI_vec hs, soon_eq h.ok hs hf hv]
        show PyData.int (- - soon W (n + 2) v) = _
        rw [Int.neg_neg]
      · obtain ⟨v, hv, rfl⟩ := vec_mem hd
        unfold rowT
        simp -implicitDefEqProofs only [nr_seq, after_app, nr_nx, nr_rt, br_ok, nr_ite, Int.cast_ofNat_Int, Int.reduceEq, ne_eq, not_true_eq_false, not_false_eq_true, Bool.false_eq_true, if_false, Int.reduceLE, Int.reduceLT, Int.reduceNeg, Int.reduceSub, Int.reduceAdd, decide_eq_true_eq, Bool.or_false, Bool.or_true, true_or, or_true, or_false, false_or, decide_not, bne_self_eq_false, Option.some.injEq, startS, startH, startScr, List.map, List.cons_append, List.nil_append, List.append_nil, List.length_cons, List.length_nil, List.length_set, List.replicate_zero, List.replicate_succ, Nat.reduceAdd, Nat.reduceSub, Nat.reduceLT, Nat.reduceLeDiff, Nat.zero_add, Nat.reduceMul, and_self, and_true, true_and, if_true, reduceIte, decide_true, decide_false, Nat.lt_irrefl, sif, sset, mD, mL, mLL, mLL0, stg, gset, gtup, gcons, gnil, sret, sfl, sdrop, saug, mtest, mnot, mand, mor, mandV, morV, mnotV, mife, mcallQ, mcallH, mcall, mcallL, mcallS, mcallSL, mcons, mnil, mv, mc, mop, mopL, mun, misi, mfrz, mP, pv', pop, mchain, mtrue, mrevL, mit, mitems, mcallScr, mscr, scrOf, mlcomp, oAdd, oSub, oMul, oDiv, oMod, oPow, oLt, oLe, oGt, oGe, o2I, o2IC, oNeg, oIsN, oNotN, oIsB, oNotB, oLst, oTup, oTupS, oLenS, asInt2, spar, spar3, sput, smut, oApp, mixS, slotL, ownL, SV.fz, oItems, oItemsT, oIxT, oIxL, oTupOf, oListOf, oEnumT, oLen, on1, oInt, oAbs, oMax2, oMin2, gput, unwipe, wipeS, oldS, mcallS, oExt, sappL, sapp2, sput2, pix2, pixS, oCatT, oCat, mslT, mpart, mnopart, List.getElem?_cons_zero, List.getElem?_cons_succ, List.set_cons_zero, List.set_cons_succ, ownLL_0, ownLL_1, ownLL_2, ownLL_3, ownLL_4, Rs.bind_ok, toRs_some, lift_some, asInt_int, asList_list, asTup_tup, noErr_ok, obind_some, asBool_bool, Bool.not_true, Bool.not_false, isT, isNone_none, isNone_int, isNone_bool, isNone_tup, isNone_list, ifT, ifF, atI_vec, hs, soon_eq h.ok hs hf hv, oD_some]
  · rw [rangeD_vec] at hd
    obtain ⟨i, hi, rfl⟩ := vec_mem hd
    by_cases e : i = s
    · subst e; simp -implicitDefEqProofs only [nr_seq, after_app, nr_nx, nr_rt, br_ok, nr_ite, Int.cast_ofNat_Int, Int.reduceEq, ne_eq, not_true_eq_false, not_false_eq_true, Bool.false_eq_true, if_false, Int.reduceLE, Int.reduceLT, Int.reduceNeg, Int.reduceSub, Int.reduceAdd, decide_eq_true_eq, Bool.or_false, Bool.or_true, true_or, or_true, or_false, false_or, decide_not, bne_self_eq_false, Option.some.injEq, startS, startH, startScr, List.map, List.cons_append, List.nil_append, List.append_nil, List.length_cons, List.length_nil, List.length_set, List.replicate_zero, List.replicate_succ, Nat.reduceAdd, Nat.reduceSub, Nat.reduceLT, Nat.reduceLeDiff, Nat.zero_add, Nat.reduceMul, and_self, and_true, true_and, if_true, reduceIte, decide_true, decide_false, Nat.lt_irrefl, sif, sset, mD, mL, mLL, mLL0, stg, gset, gtup, gcons, gnil, sret, sfl, sdrop, saug, mtest, mnot, mand, mor, mandV, morV, mnotV, mife, mcallQ, mcallH, mcall, mcallL, mcallS, mcallSL, mcons, mnil, mv, mc, mop, mopL, mun, misi, mfrz, mP, pv', pop, mchain, mtrue, mrevL, mit, mitems, mcallScr, mscr, scrOf, mlcomp, oAdd, oSub, oMul, oDiv, oMod, oPow, oLt, oLe, oGt, oGe, o2I, o2IC, oNeg, oIsN, oNotN, oIsB, oNotB, oLst, oTup, oTupS, oLenS, asInt2, spar, spar3, sput, smut, oApp, mixS, slotL, ownL, SV.fz, oItems, oItemsT, oIxT, oIxL, oTupOf, oListOf, oEnumT, oLen, on1, oInt, oAbs, oMax2, oMin2, gput, unwipe, wipeS, oldS, mcallS, oExt, sappL, sapp2, sput2, pix2, pixS, oCatT, oCat, mslT, mpart, mnopart, List.getElem?_cons_zero, List.getElem?_cons_succ, List.set_cons_zero, List.set_cons_succ, ownLL_0, ownLL_1, ownLL_2, ownLL_3, ownLL_4, Rs.bind_ok, toRs_some, lift_some, asInt_int, asList_list, asTup_tup, noErr_ok, obind_some, asBool_bool, Bool.not_true, Bool.not_false, isT, isNone_none, isNone_int, isNone_bool, isNone_tup, isNone_list, ifT, ifF, oNe_int, asI_int]
    · simp -implicitDefEqProofs only [nr_seq, after_app, nr_nx, nr_rt, br_ok, nr_ite, Int.cast_ofNat_Int, Int.reduceEq, ne_eq, not_true_eq_false, not_false_eq_true, Bool.false_eq_true, if_false, Int.reduceLE, Int.reduceLT, Int.reduceNeg, Int.reduceSub, Int.reduceAdd, decide_eq_true_eq, Bool.or_false, Bool.or_true, true_or, or_true, or_false, false_or, decide_not, bne_self_eq_false, Option.some.injEq, startS, startH, startScr, List.map, List.cons_append, List.nil_append, List.append_nil, List.length_cons, List.length_nil, List.length_set, List.replicate_zero, List.replicate_succ, Nat.reduceAdd, Nat.reduceSub, Nat.reduceLT, Nat.reduceLeDiff, Nat.zero_add, Nat.reduceMul, and_self, and_true, true_and, if_true, reduceIte, decide_true, decide_false, Nat.lt_irrefl, sif, sset, mD, mL, mLL, mLL0, stg, gset, gtup, gcons, gnil, sret, sfl, sdrop, saug, mtest, mnot, mand, mor, mandV, morV, mnotV, mife, mcallQ, mcallH, mcall, mcallL, mcallS, mcallSL, mcons, mnil, mv, mc, mop, mopL, mun, misi, mfrz, mP, pv', pop, mchain, mtrue, mrevL, mit, mitems, mcallScr, mscr, scrOf, mlcomp, oAdd, oSub, oMul, oDiv, oMod, oPow, oLt, oLe, oGt, oGe, o2I, o2IC, oNeg, oIsN, oNotN, oIsB, oNotB, oLst, oTup, oTupS, oLenS, asInt2, spar, spar3, sput, smut, oApp, mixS, slotL, ownL, SV.fz, oItems, oItemsT, oIxT, oIxL, oTupOf, oListOf, oEnumT, oLen, on1, oInt, oAbs, oMax2, oMin2, gput, unwipe, wipeS, oldS, mcallS, oExt, sappL, sapp2, sput2, pix2, pixS, oCatT, oCat, mslT, mpart, mnopart, List.getElem?_cons_zero, List.getElem?_cons_succ, List.set_cons_zero, List.set_cons_succ, ownLL_0, ownLL_1, ownLL_2, ownLL_3, ownLL_4, Rs.bind_ok, toRs_some, lift_some, asInt_int, asList_list, asTup_tup, noErr_ok, obind_some, asBool_bool, Bool.not_true, Bool.not_false, isT, isNone_none, isNone_int, isNone_bool, isNone_tup, isNone_list, ifT, ifF, oNe_int, asI_int, show ¬ ((i : Int) = (s : Int)) by omega]
def keptB (x : Nat → Int) (W : List Wi) : Bool := W.all fun w => decide (x w.2.1 ≤ x w.1 + w.2.2)
theorem keptB_iff {x : Nat → Int} {W : List Wi} : keptB x W = true ↔ Kept x W := by
  unfold keptB
  rw [List.all_eq_true]
  constructor
  · intro h a b m hm
    have := h (a, b, m) hm
    simpa using this
  · rintro h ⟨a, b, m⟩ hm
    have := h a b m hm
    simpa using this
theorem are_kept_eq {n : Nat} {W : List Wi} {x : Nat → Int} (h : Va n W) : m__law_are_kept [wsD W, .list (vec n fun v => .int (x v))] = .ok (.bool (keptB x W)) := by
  have hl := h.len
  have hl5 : W.length ≤ 100000 := by omega
  unfold m__law_are_kept b__law_are_kept
  refine mdef_of ?_
  simp -implicitDefEqProofs only [nr_seq, after_app, nr_nx, nr_rt, br_ok, nr_ite, Int.cast_ofNat_Int, Int.reduceEq, ne_eq, not_true_eq_false, not_false_eq_true, Bool.false_eq_true, if_false, Int.reduceLE, Int.reduceLT, Int.reduceNeg, Int.reduceSub, Int.reduceAdd, decide_eq_true_eq, Bool.or_false, Bool.or_true, true_or, or_true, or_false, false_or, decide_not, bne_self_eq_false, Option.some.injEq, startS, startH, startScr, List.map, List.cons_append, List.nil_append, List.append_nil, List.length_cons, List.length_nil, List.length_set, List.replicate_zero, List.replicate_succ, Nat.reduceAdd, Nat.reduceSub, Nat.reduceLT, Nat.reduceLeDiff, Nat.zero_add, Nat.reduceMul, and_self, and_true, true_and, if_true, reduceIte, decide_true, decide_false, Nat.lt_irrefl, sif, sset, mD, mL, mLL, mLL0, stg, gset, gtup, gcons, gnil, sret, sfl, sdrop, saug, mtest, mnot, mand, mor, mandV, morV, mnotV, mife, mcallQ, mcallH, mcall, mcallL, mcallS, mcallSL, mcons, mnil, mv, mc, mop, mopL, mun, misi, mfrz, mP, pv', pop, mchain, mtrue, mrevL, mit, mitems, mcallScr, mscr, scrOf, mlcomp, oAdd, oSub, oMul, oDiv, oMod, oPow, oLt, oLe, oGt, oGe, o2I, o2IC, oNeg, oIsN, oNotN, oIsB, oNotB, oLst, oTup, oTupS, oLenS, asInt2, spar, spar3, sput, smut, oApp, mixS, slotL, ownL, SV.fz, oItems, oItemsT, oIxT, oIxL, oTupOf, oListOf, oEnumT, oLen, on1, oInt, oAbs, oMax2, oMin2, gput, unwipe, wipeS, oldS, mcallS, oExt, sappL, sapp2, sput2, pix2, pixS, oCatT, oCat, mslT, mpart, mnopart, List.getElem?_cons_zero, List.getElem?_cons_succ, List.set_cons_zero, List.set_cons_succ, ownLL_0, ownLL_1, ownLL_2, ownLL_3, ownLL_4, Rs.bind_ok, toRs_some, lift_some, asInt_int, asList_list, asTup_tup, noErr_ok, obind_some, asBool_bool, Bool.not_true, Bool.not_false, isT, isNone_none, isNone_int, isNone_bool, isNone_tup, isNone_list, ifT, ifF, ws_len, hl5]
  rw [mlc_all (v := fun d => match d with | .tuple [.int a, .int b, .int m] => .bool (decide (x b.toNat ≤ x a.toNat + m)) | _ => .none) _ (fun d hd => ?_)]
  · have e : oAllL ((W.map wD).map fun d => match d with | .tuple [.int a, .int b, .int m] => PyData.bool (decide (x b.toNat ≤ x a.toNat + m)) | _ => .none) = some (.bool (keptB x W)) := by
      rw [List.map_map]
      have : ∀ l : List Wi, allBools (l.map ((fun d => match d with | .tuple [.int a, .int b, .int m] => PyData.bool (decide (x b.toNat ≤ x a.toNat + m)) | _ => .none) ∘ wD)) = some (l.map fun w => decide (x w.2.1 ≤ x w.1 + w.2.2)) := by
        intro l
        induction l with
        | nil => rfl
        | cons d l ih => show (allBools (l.map _)).bind _ = _; rw [ih]; rfl
      unfold oAllL keptB
      rw [this]
      simp [List.all_map]
    simp -implicitDefEqProofs only [nr_seq, after_app, nr_nx, nr_rt, br_ok, nr_ite, Int.cast_ofNat_Int, Int.reduceEq, ne_eq, not_true_eq_false, not_false_eq_true, Bool.false_eq_true, if_false, Int.reduceLE, Int.reduceLT, Int.reduceNeg, Int.reduceSub, Int.reduceAdd, decide_eq_true_eq, Bool.or_false, Bool.or_true, true_or, or_true, or_false, false_or, decide_not, bne_self_eq_false, Option.some.injEq, startS, startH, startScr, List.map, List.cons_append, List.nil_append, List.append_nil, List.length_cons, List.length_nil, List.length_set, List.replicate_zero, List.replicate_succ, Nat.reduceAdd, Nat.reduceSub, Nat.reduceLT, Nat.reduceLeDiff, Nat.zero_add, Nat.reduceMul, and_self, and_true, true_and, if_true, reduceIte, decide_true, decide_false, Nat.lt_irrefl, sif, sset, mD, mL, mLL, mLL0, stg, gset, gtup, gcons, gnil, sret, sfl, sdrop, saug, mtest, mnot, mand, mor, mandV, morV, mnotV, mife, mcallQ, mcallH, mcall, mcallL, mcallS, mcallSL, mcons, mnil, mv, mc, mop, mopL, mun, misi, mfrz, mP, pv', pop, mchain, mtrue, mrevL, mit, mitems, mcallScr, mscr, scrOf, mlcomp, oAdd, oSub, oMul, oDiv, oMod, oPow, oLt, oLe, oGt, oGe, o2I, o2IC, oNeg, oIsN, oNotN, oIsB, oNotB, oLst, oTup, oTupS, oLenS, asInt2, spar, spar3, sput, smut, oApp, mixS, slotL, ownL, SV.fz, oItems, oItemsT, oIxT, oIxL, oTupOf, oListOf, oEnumT, oLen, on1, oInt, oAbs, oMax2, oMin2, gput, unwipe, wipeS, oldS, mcallS, oExt, sappL, sapp2, sput2, pix2, pixS, oCatT, oCat, mslT, mpart, mnopart, List.getElem?_cons_zero, List.getElem?_cons_succ, List.set_cons_zero, List.set_cons_succ, ownLL_0, ownLL_1, ownLL_2, ownLL_3, ownLL_4, Rs.bind_ok, toRs_some, lift_some, asInt_int, asList_list, asTup_tup, noErr_ok, obind_some, asBool_bool, Bool.not_true, Bool.not_false, isT, isNone_none, isNone_int, isNone_bool, isNone_tup, isNone_list, ifT, ifF]
    have e' : ∀ o : Option D, o = some (.bool (keptB x W)) → NR ((lift o [some (.d (wsD W)), some (.d (.list (vec n fun v => .int (x v)))), none, none, none]).bind fun r => Rs.ok (Fl.rt r.1, r.2)) (fun _ => PyData.bool (keptB x W) = .none) (fun d _ => d = .bool (keptB x W)) := by
      rintro o rfl
      simp -implicitDefEqProofs only [nr_seq, after_app, nr_nx, nr_rt, br_ok, nr_ite, Int.cast_ofNat_Int, Int.reduceEq, ne_eq, not_true_eq_false, not_false_eq_true, Bool.false_eq_true, if_false, Int.reduceLE, Int.reduceLT, Int.reduceNeg, Int.reduceSub, Int.reduceAdd, decide_eq_true_eq, Bool.or_false, Bool.or_true, true_or, or_true, or_false, false_or, decide_not, bne_self_eq_false, Option.some.injEq, startS, startH, startScr, List.map, List.cons_append, List.nil_append, List.append_nil, List.length_cons, List.length_nil, List.length_set, List.replicate_zero, List.replicate_succ, Nat.reduceAdd, Nat.reduceSub, Nat.reduceLT, Nat.reduceLeDiff, Nat.zero_add, Nat.reduceMul, and_self, and_true, true_and, if_true, reduceIte, decide_true, decide_false, Nat.lt_irrefl, sif, sset, mD, mL, mLL, mLL0, stg, gset, gtup, gcons, gnil, sret, sfl, sdrop, saug, mtest, mnot, mand, mor, mandV, morV, mnotV, mife, mcallQ, mcallH, mcall, mcallL, mcallS, mcallSL, mcons, mnil, mv, mc, mop, mopL, mun, misi, mfrz, mP, pv', pop, mchain, mtrue, mrevL, mit, mitems, mcallScr, mscr, scrOf, mlcomp, oAdd, oSub, oMul, oDiv, oMod, oPow, oLt, oLe, oGt, oGe, o2I, o2IC, oNeg, oIsN, oNotN, oIsB, oNotB, oLst, oTup, oTupS, oLenS, asInt2, spar, spar3, sput, smut, oApp, mixS, slotL, ownL, SV.fz, oItems, oItemsT, oIxT, oIxL, oTupOf, oListOf, oEnumT, oLen, on1, oInt, oAbs, oMax2, oMin2, gput, unwipe, wipeS, oldS, mcallS, oExt, sappL, sapp2, sput2, pix2, pixS, oCatT, oCat, mslT, mpart, mnopart, List.getElem?_cons_zero, List.getElem?_cons_succ, List.set_cons_zero, List.set_cons_succ, ownLL_0, ownLL_1, ownLL_2, ownLL_3, ownLL_4, Rs.bind_ok, toRs_some, lift_some, asInt_int, asList_list, asTup_tup, noErr_ok, obind_some, asBool_bool, Bool.not_true, Bool.not_false, isT, isNone_none, isNone_int, isNone_bool, isNone_tup, isNone_list, ifT, ifF]
    exact e' _ e
  · obtain ⟨a, b, m, hm, rfl⟩ := ws_mem hd
    obtain ⟨ha, hb, hab⟩ := h.ok a b m hm
    simp -implicitDefEqProofs only [nr_seq, after_app, nr_nx, nr_rt, br_ok, nr_ite, Int.cast_ofNat_Int, Int.reduceEq, ne_eq, not_true_eq_false, not_false_eq_true, Bool.false_eq_true, if_false, Int.reduceLE, Int.reduceLT, Int.reduceNeg, Int.reduceSub, Int.reduceAdd, decide_eq_true_eq, Bool.or_false, Bool.or_true, true_or, or_true, or_false, false_or, decide_not, bne_self_eq_false, Option.some.injEq, startS, startH, startScr, List.map, List.cons_append, List.nil_append, List.append_nil, List.length_cons, List.length_nil, List.length_set, List.replicate_zero, List.replicate_succ, Nat.reduceAdd, Nat.reduceSub, Nat.reduceLT, Nat.reduceLeDiff, Nat.zero_add, Nat.reduceMul, and_self, and_true, true_and, if_true, reduceIte, decide_true, decide_false, Nat.lt_irrefl, sif, sset, mD, mL, mLL, mLL0, stg, gset, gtup, gcons, gnil, sret, sfl, sdrop, saug, mtest, mnot, mand, mor, mandV, morV, mnotV, mife, mcallQ, mcallH, mcall, mcallL, mcallS, mcallSL, mcons, mnil, mv, mc, mop, mopL, mun, misi, mfrz, mP, pv', pop, mchain, mtrue, mrevL, mit, mitems, mcallScr, mscr, scrOf, mlcomp, oAdd, oSub, oMul, oDiv, oMod, oPow, oLt, oLe, oGt, oGe, o2I, o2IC, oNeg, oIsN, oNotN, oIsB, oNotB, oLst, oTup, oTupS, oLenS, asInt2, spar, spar3, sput, smut, oApp, mixS, slotL, ownL, SV.fz, oItems, oItemsT, oIxT, oIxL, oTupOf, oListOf, oEnumT, oLen, on1, oInt, oAbs, oMax2, oMin2, gput, unwipe, wipeS, oldS, mcallS, oExt, sappL, sapp2, sput2, pix2, pixS, oCatT, oCat, mslT, mpart, mnopart, List.getElem?_cons_zero, List.getElem?_cons_succ, List.set_cons_zero, List.set_cons_succ, ownLL_0, ownLL_1, ownLL_2, ownLL_3, ownLL_4, Rs.bind_ok, toRs_some, lift_some, asInt_int, asList_list, asTup_tup, noErr_ok, obind_some, asBool_bool, Bool.not_true, Bool.not_false, isT, isNone_none, isNone_int, isNone_bool, isNone_tup, isNone_list, ifT, ifF, atI_vec, ha, hb, Int.toNat_natCast]
    have : decide (x b - x a ≤ m) = decide (x b ≤ x a + m) := by
      by_cases e : x b ≤ x a + m
      · rw [decide_eq_true e, decide_eq_true (by omega)]
      · rw [decide_eq_false e, decide_eq_false (by omega)]
    rw [this]
end K39
namespace K39
open PySem L2 Evl Mir Wsh
theorem rev_get {W : List Wi} {j a b : Nat} {m : Int} (h : W[j]? = some (a, b, m)) : (rev W)[j]? = some (b, a, m) := by
  unfold rev
  rw [List.getElem?_map, h]
  rfl
theorem rev_len {W : List Wi} : (rev W).length = W.length := List.length_map _
theorem max_neg {p q m : Int} : (if -q - m > -p then -q - m else -p) = -(if q + m < p then q + m else p) := by
  by_cases h : q + m < p
  · rw [if_pos h, if_pos (by omega)]; omega
  · rw [if_neg h, if_neg (by omega)]
theorem law_soonest_eq {n s : Nat} {W : List Wi} (h : Va n W) (hs : s < n) (hl : W.length ≤ 100) : m__law_soonest [.int n, wsD W, .int s] = .ok (if fz n (W ++ more n s) = true then .tuple (vec n fun v => .int (soon W (n + 2) v)) else .none) := by
  have hn := h.le
  have hn5 : n + 2 ≤ 100000 := by omega
  have hm := h.more hs hl
  have hz : (decide (soon W (n + 2) s = 0) && keptB (soon W (n + 2)) W) = fz n (W ++ more n s) := by
    have h1 := fz_iff hm
    have h2 := soon_feas h.ok hs
    have h3 := keptB_iff (x := soon W (n + 2)) (W := W)
    cases hz : fz n (W ++ more n s) with
    | true =>
      obtain ⟨a, b⟩ := h2.mp (h1.mp hz)
      rw [decide_eq_true a, h3.mpr b]
      rfl
    | false =>
      cases hk : keptB (soon W (n + 2)) W with
      | false => rw [Bool.and_false]
      | true =>
        rw [Bool.and_true]
        refine decide_eq_false fun e => ?_
        rw [h1.mpr (h2.mpr ⟨e, h3.mp hk⟩)] at hz
        cases hz
  rw [← hz]
  unfold m__law_soonest b__law_soonest
  refine mdef_of ?_
  simp -implicitDefEqProofs only [nr_seq, after_app, nr_nx, nr_rt, br_ok, nr_ite, Int.cast_ofNat_Int, Int.reduceEq, ne_eq, not_true_eq_false, not_false_eq_true, Bool.false_eq_true, if_false, Int.reduceLE, Int.reduceLT, Int.reduceNeg, Int.reduceSub, Int.reduceAdd, decide_eq_true_eq, Bool.or_false, Bool.or_true, true_or, or_true, or_false, false_or, decide_not, bne_self_eq_false, Option.some.injEq, startS, startH, startScr, List.map, List.cons_append, List.nil_append, List.append_nil, List.length_cons, List.length_nil, List.length_set, List.replicate_zero, List.replicate_succ, Nat.reduceAdd, Nat.reduceSub, Nat.reduceLT, Nat.reduceLeDiff, Nat.zero_add, Nat.reduceMul, and_self, and_true, true_and, if_true, reduceIte, decide_true, decide_false, Nat.lt_irrefl, sif, sset, mD, mL, mLL, mLL0, stg, gset, gtup, gcons, gnil, sret, sfl, sdrop, saug, mtest, mnot, mand, mor, mandV, morV, mnotV, mife, mcallQ, mcallH, mcall, mcallL, mcallS, mcallSL, mcons, mnil, mv, mc, mop, mopL, mun, misi, mfrz, mP, pv', pop, mchain, mtrue, mrevL, mit, mitems, mcallScr, mscr, scrOf, mlcomp, oAdd, oSub, oMul, oDiv, oMod, oPow, oLt, oLe, oGt, oGe, o2I, o2IC, oNeg, oIsN, oNotN, oIsB, oNotB, oLst, oTup, oTupS, oLenS, asInt2, spar, spar3, sput, smut, oApp, mixS, slotL, ownL, SV.fz, oItems, oItemsT, oIxT, oIxL, oTupOf, oListOf, oEnumT, oLen, on1, oInt, oAbs, oMax2, oMin2, gput, unwipe, wipeS, oldS, mcallS, oExt, sappL, sapp2, sput2, pix2, pixS, oCatT, oCat, mslT, mpart, mnopart, List.getElem?_cons_zero, List.getElem?_cons_succ, List.set_cons_zero, List.set_cons_succ, ownLL_0, ownLL_1, ownLL_2, ownLL_3, ownLL_4, Rs.bind_ok, toRs_some, lift_some, asInt_int, asList_list, asTup_tup, noErr_ok, obind_some, asBool_bool, Bool.not_true, Bool.not_false, isT, isNone_none, isNone_int, isNone_bool, isNone_tup, isNone_list, ifT, ifF, rep_vec hn]
  refine nr_fors (P := fun k st => ∃ x4 x5 x6 x7, st = some (.d (.int n)) :: some (.d (wsD W)) :: some (.d (.int s)) :: some (.ol (vec n fun v => .int (soon W k v))) :: x4 :: x5 :: x6 :: x7 :: []) (ds := rangeD 0 (n + 2)) ?_ ?_ ?_ ?_
  · simp -implicitDefEqProofs only [nr_seq, after_app, nr_nx, nr_rt, br_ok, nr_ite, Int.cast_ofNat_Int, Int.reduceEq, ne_eq, not_true_eq_false, not_false_eq_true, Bool.false_eq_true, if_false, Int.reduceLE, Int.reduceLT, Int.reduceNeg, Int.reduceSub, Int.reduceAdd, decide_eq_true_eq, Bool.or_false, Bool.or_true, true_or, or_true, or_false, false_or, decide_not, bne_self_eq_false, Option.some.injEq, startS, startH, startScr, List.map, List.cons_append, List.nil_append, List.append_nil, List.length_cons, List.length_nil, List.length_set, List.replicate_zero, List.replicate_succ, Nat.reduceAdd, Nat.reduceSub, Nat.reduceLT, Nat.reduceLeDiff, Nat.zero_add, Nat.reduceMul, and_self, and_true, true_and, if_true, reduceIte, decide_true, decide_false, Nat.lt_irrefl, sif, sset, mD, mL, mLL, mLL0, stg, gset, gtup, gcons, gnil, sret, sfl, sdrop, saug, mtest, mnot, mand, mor, mandV, morV, mnotV, mife, mcallQ, mcallH, mcall, mcallL, mcallS, mcallSL, mcons, mnil, mv, mc, mop, mopL, mun, misi, mfrz, mP, pv', pop, mchain, mtrue, mrevL, mit, mitems, mcallScr, mscr, scrOf, mlcomp, oAdd, oSub, oMul, oDiv, oMod, oPow, oLt, oLe, oGt, oGe, o2I, o2IC, oNeg, oIsN, oNotN, oIsB, oNotB, oLst, oTup, oTupS, oLenS, asInt2, spar, spar3, sput, smut, oApp, mixS, slotL, ownL, SV.fz, oItems, oItemsT, oIxT, oIxL, oTupOf, oListOf, oEnumT, oLen, on1, oInt, oAbs, oMax2, oMin2, gput, unwipe, wipeS, oldS, mcallS, oExt, sappL, sapp2, sput2, pix2, pixS, oCatT, oCat, mslT, mpart, mnopart, List.getElem?_cons_zero, List.getElem?_cons_succ, List.set_cons_zero, List.set_cons_succ, ownLL_0, ownLL_1, ownLL_2, ownLL_3, ownLL_4, Rs.bind_ok, toRs_some, lift_some, asInt_int, asList_list, asTup_tup, noErr_ok, obind_some, asBool_bool, Bool.not_true, Bool.not_false, isT, isNone_none, isNone_int, isNone_bool, isNone_tup, isNone_list, ifT, ifF, range1_of (z := (n : Int) + 2) (k := n + 2) (by omega) (by omega)]
  · exact ⟨_, _, _, _, rfl⟩
  · rintro k d st hd ⟨x4, x5, x6, x7, rfl⟩
    obtain ⟨hk, rfl⟩ := rangeD_get hd
    unfold turn
    simp -implicitDefEqProofs only [nr_seq, after_app, nr_nx, nr_rt, br_ok, nr_ite, Int.cast_ofNat_Int, Int.reduceEq, ne_eq, not_true_eq_false, not_false_eq_true, Bool.false_eq_true, if_false, Int.reduceLE, Int.reduceLT, Int.reduceNeg, Int.reduceSub, Int.reduceAdd, decide_eq_true_eq, Bool.or_false, Bool.or_true, true_or, or_true, or_false, false_or, decide_not, bne_self_eq_false, Option.some.injEq, startS, startH, startScr, List.map, List.cons_append, List.nil_append, List.append_nil, List.length_cons, List.length_nil, List.length_set, List.replicate_zero, List.replicate_succ, Nat.reduceAdd, Nat.reduceSub, Nat.reduceLT, Nat.reduceLeDiff, Nat.zero_add, Nat.reduceMul, and_self, and_true, true_and, if_true, reduceIte, decide_true, decide_false, Nat.lt_irrefl, sif, sset, mD, mL, mLL, mLL0, stg, gset, gtup, gcons, gnil, sret, sfl, sdrop, saug, mtest, mnot, mand, mor, mandV, morV, mnotV, mife, mcallQ, mcallH, mcall, mcallL, mcallS, mcallSL, mcons, mnil, mv, mc, mop, mopL, mun, misi, mfrz, mP, pv', pop, mchain, mtrue, mrevL, mit, mitems, mcallScr, mscr, scrOf, mlcomp, oAdd, oSub, oMul, oDiv, oMod, oPow, oLt, oLe, oGt, oGe, o2I, o2IC, oNeg, oIsN, oNotN, oIsB, oNotB, oLst, oTup, oTupS, oLenS, asInt2, spar, spar3, sput, smut, oApp, mixS, slotL, ownL, SV.fz, oItems, oItemsT, oIxT, oIxL, oTupOf, oListOf, oEnumT, oLen, on1, oInt, oAbs, oMax2, oMin2, gput, unwipe, wipeS, oldS, mcallS, oExt, sappL, sapp2, sput2, pix2, pixS, oCatT, oCat, mslT, mpart, mnopart, List.getElem?_cons_zero, List.getElem?_cons_succ, List.set_cons_zero, List.set_cons_succ, ownLL_0, ownLL_1, ownLL_2, ownLL_3, ownLL_4, Rs.bind_ok, toRs_some, lift_some, asInt_int, asList_list, asTup_tup, noErr_ok, obind_some, asBool_bool, Bool.not_true, Bool.not_false, isT, isNone_none, isNone_int, isNone_bool, isNone_tup, isNone_list, ifT, ifF]
    refine nr_fors (P := fun j st => ∃ X x4 x5 x6 x7, st = some (.d (.int n)) :: some (.d (wsD W)) :: some (.d (.int s)) :: some (.ol (vec n X)) :: x4 :: x5 :: x6 :: x7 :: [] ∧
      ∀ v, X v = .int (- (bsteps ⟨(brounds (rev W) k).x, (brounds (rev W) k).by_, none⟩ 0 ((rev W).take j)).x v)) (ds := W.map wD) ?_ ?_ ?_ ?_
    · simp -implicitDefEqProofs only [nr_seq, after_app, nr_nx, nr_rt, br_ok, nr_ite, Int.cast_ofNat_Int, Int.reduceEq, ne_eq, not_true_eq_false, not_false_eq_true, Bool.false_eq_true, if_false, Int.reduceLE, Int.reduceLT, Int.reduceNeg, Int.reduceSub, Int.reduceAdd, decide_eq_true_eq, Bool.or_false, Bool.or_true, true_or, or_true, or_false, false_or, decide_not, bne_self_eq_false, Option.some.injEq, startS, startH, startScr, List.map, List.cons_append, List.nil_append, List.append_nil, List.length_cons, List.length_nil, List.length_set, List.replicate_zero, List.replicate_succ, Nat.reduceAdd, Nat.reduceSub, Nat.reduceLT, Nat.reduceLeDiff, Nat.zero_add, Nat.reduceMul, and_self, and_true, true_and, if_true, reduceIte, decide_true, decide_false, Nat.lt_irrefl, sif, sset, mD, mL, mLL, mLL0, stg, gset, gtup, gcons, gnil, sret, sfl, sdrop, saug, mtest, mnot, mand, mor, mandV, morV, mnotV, mife, mcallQ, mcallH, mcall, mcallL, mcallS, mcallSL, mcons, mnil, mv, mc, mop, mopL, mun, misi, mfrz, mP, pv', pop, mchain, mtrue, mrevL, mit, mitems, mcallScr, mscr, scrOf, mlcomp, oAdd, oSub, oMul, oDiv, oMod, oPow, oLt, oLe, oGt, oGe, o2I, o2IC, oNeg, oIsN, oNotN, oIsB, oNotB, oLst, oTup, oTupS, oLenS, asInt2, spar, spar3, sput, smut, oApp, mixS, slotL, ownL, SV.fz, oItems, oItemsT, oIxT, oIxL, oTupOf, oListOf, oEnumT, oLen, on1, oInt, oAbs, oMax2, oMin2, gput, unwipe, wipeS, oldS, mcallS, oExt, sappL, sapp2, sput2, pix2, pixS, oCatT, oCat, mslT, mpart, mnopart, List.getElem?_cons_zero, List.getElem?_cons_succ, List.set_cons_zero, List.set_cons_succ, ownLL_0, ownLL_1, ownLL_2, ownLL_3, ownLL_4, Rs.bind_ok, toRs_some, lift_some, asInt_int, asList_list, asTup_tup, noErr_ok, obind_some, asBool_bool, Bool.not_true, Bool.not_false, isT, isNone_none, isNone_int, isNone_bool, isNone_tup, isNone_list, ifT, ifF]
    · exact ⟨_, _, _, _, _, rfl, fun v => rfl⟩
    · rintro j d st hd ⟨X, x4, x5, x6, x7, rfl, hX⟩
      obtain ⟨a, b, m, hw, rfl⟩ := ws_get hd
      obtain ⟨ha, hb, hab⟩ := h.ok.get hw
      rw [steps_take (rev_get hw)]
      revert hX
      generalize bsteps ⟨(brounds (rev W) k).x, (brounds (rev W) k).by_, none⟩ 0 ((rev W).take j) = cur
      intro hX
      unfold turn bstep
      simp -implicitDefEqProofs only [nr_seq, after_app, nr_nx, nr_rt, br_ok, nr_ite, Int.cast_ofNat_Int, Int.reduceEq, ne_eq, not_true_eq_false, not_false_eq_true, Bool.false_eq_true, if_false, Int.reduceLE, Int.reduceLT, Int.reduceNeg, Int.reduceSub, Int.reduceAdd, decide_eq_true_eq, Bool.or_false, Bool.or_true, true_or, or_true, or_false, false_or, decide_not, bne_self_eq_false, Option.some.injEq, startS, startH, startScr, List.map, List.cons_append, List.nil_append, List.append_nil, List.length_cons, List.length_nil, List.length_set, List.replicate_zero, List.replicate_succ, Nat.reduceAdd, Nat.reduceSub, Nat.reduceLT, Nat.reduceLeDiff, Nat.zero_add, Nat.reduceMul, and_self, and_true, true_and, if_true, reduceIte, decide_true, decide_false, Nat.lt_irrefl, sif, sset, mD, mL, mLL, mLL0, stg, gset, gtup, gcons, gnil, sret, sfl, sdrop, saug, mtest, mnot, mand, mor, mandV, morV, mnotV, mife, mcallQ, mcallH, mcall, mcallL, mcallS, mcallSL, mcons, mnil, mv, mc, mop, mopL, mun, misi, mfrz, mP, pv', pop, mchain, mtrue, mrevL, mit, mitems, mcallScr, mscr, scrOf, mlcomp, oAdd, oSub, oMul, oDiv, oMod, oPow, oLt, oLe, oGt, oGe, o2I, o2IC, oNeg, oIsN, oNotN, oIsB, oNotB, oLst, oTup, oTupS, oLenS, asInt2, spar, spar3, sput, smut, oApp, mixS, slotL, ownL, SV.fz, oItems, oItemsT, oIxT, oIxL, oTupOf, oListOf, oEnumT, oLen, on1, oInt, oAbs, oMax2, oMin2, gput, unwipe, wipeS, oldS, mcallS, oExt, sappL, sapp2, sput2, pix2, pixS, oCatT, oCat, mslT, mpart, mnopart, List.getElem?_cons_zero, List.getElem?_cons_succ, List.set_cons_zero, List.set_cons_succ, ownLL_0, ownLL_1, ownLL_2, ownLL_3, ownLL_4, Rs.bind_ok, toRs_some, lift_some, asInt_int, asList_list, asTup_tup, noErr_ok, obind_some, asBool_bool, Bool.not_true, Bool.not_false, isT, isNone_none, isNone_int, isNone_bool, isNone_tup, isNone_list, ifT, ifF, atI_vec, ha, hb, hX, vec_len, ixN_nat, vec_set]
      refine ⟨_, _, _, _, _, rfl, fun v => ?_⟩
      rw [max_neg]
      by_cases hc : cur.x b + m < cur.x a
      · rw [if_pos hc, if_pos hc]
        by_cases e : v = a
        · subst e; simp only [up_eq]
        · simp only [up_ne e]; exact hX v
      · rw [if_neg hc, if_neg hc]
        by_cases e : v = a
        · subst e; simp only [up_eq]
        · simp only [up_ne e]; exact hX v
    · rintro st ⟨X, x4, x5, x6, x7, rfl, hX⟩
      rw [ws_len, ← rev_len, List.take_length] at hX
      have eX : X = fun v => .int (soon W (k + 1) v) := funext hX
      subst eX
      exact ⟨_, _, _, _, rfl⟩
  · rintro st ⟨x4, x5, x6, x7, rfl⟩
    rw [rangeD_len]
    have hk := are_kept_eq (x := soon W (n + 2)) h
    cases hz1 : decide (soon W (n + 2) s = 0) with
    | false =>
      have hz2 := of_decide_eq_false hz1
      simp -implicitDefEqProofs only [nr_seq, after_app, nr_nx, nr_rt, br_ok, nr_ite, Int.cast_ofNat_Int, Int.reduceEq, ne_eq, not_true_eq_false, not_false_eq_true, Bool.false_eq_true, if_false, Int.reduceLE, Int.reduceLT, Int.reduceNeg, Int.reduceSub, Int.reduceAdd, decide_eq_true_eq, Bool.or_false, Bool.or_true, true_or, or_true, or_false, false_or, decide_not, bne_self_eq_false, Option.some.injEq, startS, startH, startScr, List.map, List.cons_append, List.nil_append, List.append_nil, List.length_cons, List.length_nil, List.length_set, List.replicate_zero, List.replicate_succ, Nat.reduceAdd, Nat.reduceSub, Nat.reduceLT, Nat.reduceLeDiff, Nat.zero_add, Nat.reduceMul, and_self, and_true, true_and, if_true, reduceIte, decide_true, decide_false, Nat.lt_irrefl, sif, sset, mD, mL, mLL, mLL0, stg, gset, gtup, gcons, gnil, sret, sfl, sdrop, saug, mtest, mnot, mand, mor, mandV, morV, mnotV, mife, mcallQ, mcallH, mcall, mcallL, mcallS, mcallSL, mcons, mnil, mv, mc, mop, mopL, mun, misi, mfrz, mP, pv', pop, mchain, mtrue, mrevL, mit, mitems, mcallScr, mscr, scrOf, mlcomp, oAdd, oSub, oMul, oDiv, oMod, oPow, oLt, oLe, oGt, oGe, o2I, o2IC, oNeg, oIsN, oNotN, oIsB, oNotB, oLst, oTup, oTupS, oLenS, asInt2, spar, spar3, sput, smut, oApp, mixS, slotL, ownL, SV.fz, oItems, oItemsT, oIxT, oIxL, oTupOf, oListOf, oEnumT, oLen, on1, oInt, oAbs, oMax2, oMin2, gput, unwipe, wipeS, oldS, mcallS, oExt, sappL, sapp2, sput2, pix2, pixS, oCatT, oCat, mslT, mpart, mnopart, List.getElem?_cons_zero, List.getElem?_cons_succ, List.set_cons_zero, List.set_cons_succ, ownLL_0, ownLL_1, ownLL_2, ownLL_3, ownLL_4, Rs.bind_ok, toRs_some, lift_some, asInt_int, asList_list, asTup_tup, noErr_ok, obind_some, asBool_bool, Bool.not_true, Bool.not_false, isT, isNone_none, isNone_int, isNone_bool, isNone_tup, isNone_list, ifT, ifF, atI_vec, hs, oEq_int, hk, hz2, Bool.false_and]
    | true =>
      have hz2 := of_decide_eq_true hz1
      cases hz3 : keptB (soon W (n + 2)) W with
      | false =>
        rw [hz3] at hk
        simp -implicitDefEqProofs only [nr_seq, after_app, nr_nx, nr_rt, br_ok, nr_ite, Int.cast_ofNat_Int, Int.reduceEq, ne_eq, not_true_eq_false, not_false_eq_true, Bool.false_eq_true, if_false, Int.reduceLE, Int.reduceLT, Int.reduceNeg, Int.reduceSub, Int.reduceAdd, decide_eq_true_eq, Bool.or_false, Bool.or_true, true_or, or_true, or_false, false_or, decide_not, bne_self_eq_false, Option.some.injEq, startS, startH, startScr, List.map, List.cons_append, List.nil_append, List.append_nil, List.length_cons, List.length_nil, List.length_set, List.replicate_zero, List.replicate_succ, Nat.reduceAdd, Nat.reduceSub, Nat.reduceLT, Nat.reduceLeDiff, Nat.zero_add, Nat.reduceMul, and_self, and_true, true_and, if_true, reduceIte, decide_true, decide_false, Nat.lt_irrefl, sif, sset, mD, mL, mLL, mLL0, stg, gset, gtup, gcons, gnil, sret, sfl, sdrop, saug, mtest, mnot, mand, mor, mandV, morV, mnotV, mife, mcallQ, mcallH, mcall, mcallL, mcallS, mcallSL, mcons, mnil, mv, mc, mop, mopL, mun, misi, mfrz, mP, pv', pop, mchain, mtrue, mrevL, mit, mitems, mcallScr, mscr, scrOf, mlcomp, oAdd, oSub, oMul, oDiv, oMod, oPow, oLt, oLe, oGt, oGe, o2I, o2IC, oNeg, oIsN, oNotN, oIsB, oNotB, oLst, oTup, oTupS, oLenS, asInt2, spar, spar3, sput, smut, oApp, mixS, slotL, ownL, SV.fz, oItems, oItemsT, oIxT, oIxL, oTupOf, oListOf, oEnumT, oLen, on1, oInt, oAbs, oMax2, oMin2, gput, unwipe, wipeS, oldS, mcallS, oExt, sappL, sapp2, sput2, pix2, pixS, oCatT, oCat, mslT, mpart, mnopart, List.getElem?_cons_zero, List.getElem?_cons_succ, List.set_cons_zero, List.set_cons_succ, ownLL_0, ownLL_1, ownLL_2, ownLL_3, ownLL_4, Rs.bind_ok, toRs_some, lift_some, asInt_int, asList_list, asTup_tup, noErr_ok, obind_some, asBool_bool, Bool.not_true, Bool.not_false, isT, isNone_none, isNone_int, isNone_bool, isNone_tup, isNone_list, ifT, ifF, atI_vec, hs, oEq_int, hk, hz2, Bool.and_false]
      | true =>
        rw [hz3] at hk
        simp -implicitDefEqProofs only [nr_seq, after_app, nr_nx, nr_rt, br_ok, nr_ite, Int.cast_ofNat_Int, Int.reduceEq, ne_eq, not_true_eq_false, not_false_eq_true, Bool.false_eq_true, if_false, Int.reduceLE, Int.reduceLT, Int.reduceNeg, Int.reduceSub, Int.reduceAdd, decide_eq_true_eq, Bool.or_false, Bool.or_true, true_or, or_true, or_false, false_or, decide_not, bne_self_eq_false, Option.some.injEq, startS, startH, startScr, List.map, List.cons_append, List.nil_append, List.append_nil, List.length_cons, List.length_nil, List.length_set, List.replicate_zero, List.replicate_succ, Nat.reduceAdd, Nat.reduceSub, Nat.reduceLT, Nat.reduceLeDiff, Nat.zero_add, Nat.reduceMul, and_self, and_true, true_and, if_true, reduceIte, decide_true, decide_false, Nat.lt_irrefl, sif, sset, mD, mL, mLL, mLL0, stg, gset, gtup, gcons, gnil, sret, sfl, sdrop, saug, mtest, mnot, mand, mor, mandV, morV, mnotV, mife, mcallQ, mcallH, mcall, mcallL, mcallS, mcallSL, mcons, mnil, mv, mc, mop, mopL, mun, misi, mfrz, mP, pv', pop, mchain, mtrue, mrevL, mit, mitems, mcallScr, mscr, scrOf, mlcomp, oAdd, oSub, oMul, oDiv, oMod, oPow, oLt, oLe, oGt, oGe, o2I, o2IC, oNeg, oIsN, oNotN, oIsB, oNotB, oLst, oTup, oTupS, oLenS, asInt2, spar, spar3, sput, smut, oApp, mixS, slotL, ownL, SV.fz, oItems, oItemsT, oIxT, oIxL, oTupOf, oListOf, oEnumT, oLen, on1, oInt, oAbs, oMax2, oMin2, gput, unwipe, wipeS, oldS, mcallS, oExt, sappL, sapp2, sput2, pix2, pixS, oCatT, oCat, mslT, mpart, mnopart, List.getElem?_cons_zero, List.getElem?_cons_succ, List.set_cons_zero, List.set_cons_succ, ownLL_0, ownLL_1, ownLL_2, ownLL_3, ownLL_4, Rs.bind_ok, toRs_some, lift_some, asInt_int, asList_list, asTup_tup, noErr_ok, obind_some, asBool_bool, Bool.not_true, Bool.not_false, isT, isNone_none, isNone_int, isNone_bool, isNone_tup, isNone_list, ifT, ifF, atI_vec, hs, oEq_int, hk, hz2, Bool.and_true]
end K39
namespace K39
open PySem L2 Evl Mir Wsh
abbrev lotD (g : List Nat) : D := .tuple (g.map fun i => .int (i : Nat))
def restA (g : List Nat) : Nat → List Wi → List Wi
  | _, [] => []
  | k, w :: ws => if g.contains k = true then restA g (k + 1) ws else w :: restA g (k + 1) ws
theorem restA_cons {g : List Nat} {k : Nat} {w : Wi} {ws : List Wi} : restA g k (w :: ws) = if g.contains k = true then restA g (k + 1) ws else w :: restA g (k + 1) ws := rfl
abbrev rest (W : List Wi) (g : List Nat) : List Wi := restA g 0 W
theorem restA_mem {g : List Nat} : ∀ {ws : List Wi} {k : Nat} {w : Wi}, w ∈ restA g k ws → w ∈ ws
  | [], _, _, h => h
  | x :: ws, k, w, h => by
    unfold restA at h
    by_cases c : g.contains k = true
    · rw [if_pos c] at h; exact List.mem_cons_of_mem _ (restA_mem h)
    · rw [if_neg c] at h
      rcases List.mem_cons.mp h with rfl | h
      · simp
      · exact List.mem_cons_of_mem _ (restA_mem h)
theorem restA_len {g : List Nat} : ∀ {ws : List Wi} {k : Nat}, (restA g k ws).length ≤ ws.length
  | [], _ => Nat.le_refl _
  | x :: ws, k => by
    have := restA_len (g := g) (ws := ws) (k := k + 1)
    unfold restA
    by_cases c : g.contains k = true
    · rw [if_pos c, List.length_cons]; omega
    · rw [if_neg c, List.length_cons, List.length_cons]; omega
theorem Va.rest {n : Nat} {W : List Wi} (h : Va n W) (g : List Nat) : Va n (rest W g) := h.sub (Nat.le_trans restA_len h.len) fun w hw => restA_mem hw
theorem any_eqF {i : Nat} : ∀ (g : List Nat), ((g.map fun i => PyData.int (i : Nat)).any fun z => Mir.eqF z (.int (i : Nat))) = g.contains i
  | [] => rfl
  | a :: g => by
    rw [List.map_cons, List.any_cons, any_eqF g, List.contains_cons]
    congr 1
    show (((a : Int) == (i : Int)) : Bool) = (i == a)
    by_cases e : a = i
    · subst e; simp
    · have e1 : ((a : Int) == (i : Int)) = false := beq_eq_false_iff_ne.mpr (by omega)
      have e2 : (i == a) = false := beq_eq_false_iff_ne.mpr (by omega)
      rw [e1, e2]
theorem all_flat : ∀ (g : List Nat), (g.map fun i => PyData.int (i : Nat)).all flatD = true
  | [] => rfl
  | a :: g => by rw [List.map_cons, List.all_cons, all_flat g]; rfl
theorem oIn_lot {i : Nat} {g : List Nat} : oIn true (.int i) (lotD g) = some (.bool (!g.contains i)) := by
  unfold oIn
  rw [if_pos (by rfl)]
  show (if (g.map fun i => PyData.int (i : Nat)).all flatD = true then some (PyData.bool (!((g.map fun i => PyData.int (i : Nat)).any fun z => Mir.eqF z (.int (i : Nat))))) else none) = _
  rw [if_pos (all_flat g), any_eqF]
def restV (g : List Nat) : D → Option D := fun d => match d with
  | .tuple [.int i, x] => if g.contains i.toNat = true then none else some x
  | _ => none
theorem rest_enum {g : List Nat} : ∀ (ws : List Wi) (k : Nat), ((List.range' k ws.length).zipWith (fun i d => PyData.tuple [.int (i : Nat), d]) (ws.map wD)).filterMap (restV g) = (restA g k ws).map wD
  | [], k => rfl
  | w :: ws, k => by
    have ih := rest_enum (g := g) ws (k + 1)
    rw [List.length_cons, List.range'_succ, List.map_cons, List.zipWith_cons_cons, List.filterMap_cons, ih]
    have e : restV g (PyData.tuple [.int (k : Nat), wD w]) = if g.contains k = true then none else some (wD w) := rfl
    rw [e, restA_cons]
    by_cases c : g.contains k = true
    · rw [if_pos c, if_pos c]
    · rw [if_neg c, if_neg c]; rfl
theorem rest_D {W : List Wi} {g : List Nat} : (enumD (W.map wD)).filterMap (restV g) = (rest W g).map wD := by
  unfold enumD
  rw [ws_len, List.range_eq_range']
  exact rest_enum W 0
def lots : Nat → List (List Nat)
  | 0 => [[]]
  | k + 1 => lots k ++ (lots k).map (· ++ [k])
theorem lots_len : ∀ k, (lots k).length = 2 ^ k
  | 0 => rfl
  | k + 1 => by
    unfold lots
    rw [List.length_append, List.length_map, lots_len k]
    omega
theorem lots_le : ∀ k g, g ∈ lots k → g.length ≤ k
  | 0, g, h => by rw [List.mem_singleton.mp h]; exact Nat.le_refl _
  | k + 1, g, h => by
    unfold lots at h
    rcases List.mem_append.mp h with h | h
    · have := lots_le k g h; omega
    · obtain ⟨g', h1, rfl⟩ := List.mem_map.mp h
      have := lots_le k g' h1
      rw [List.length_append, List.length_singleton]; omega
theorem lots_small {k : Nat} (h : k ≤ 6) : (lots k).length ≤ 64 := by
  rw [lots_len]
  exact Nat.pow_le_pow_right (by omega) h
abbrev pairD (g : List Nat) : D := .tuple [.int g.length, lotD g]
def lowest (g : List Nat) : Nat := match g.getLast? with
  | some x => x + 1
  | none => 0
def ext (L : Nat) (g : List Nat) : List (List Nat) := (List.range' (lowest g) (L - lowest g)).map fun i => g ++ [i]
def level (L : Nat) : Nat → List (List Nat)
  | 0 => [[]]
  | s + 1 => (level L s).flatMap (ext L)
def allLv (L : Nat) : List (List Nat) := (List.range' 0 (L + 1)).flatMap (level L)
theorem sorted_lots {k : Nat} (h : k ≤ 6) : oSortedN [.list ((lots k).map pairD)] = some ((allLv k).map pairD) := by
  match k, h with
  | 0, _ => kernel_rfl
  | 1, _ => kernel_rfl
  | 2, _ => kernel_rfl
  | 3, _ => kernel_rfl
  | 4, _ => kernel_rfl
  | 5, _ => kernel_rfl
  | 6, _ => kernel_rfl
  | k + 7, h => omega
theorem level_small {L i : Nat} (h : L ≤ 6) (hi : i ≤ 7) : (level L i).length ≤ 20 := by
  have : ∀ L, L < 7 → ∀ i, i < 8 → (level L i).length ≤ 20 := by decide +kernel
  exact this L (by omega) i (by omega)
def snocD (k : Nat) : D → D := fun d => match d with
  | .tuple t => .tuple (t ++ [.int (k : Nat)])
  | d => d
theorem snocD_lot {k : Nat} {g : List Nat} : snocD k (lotD g) = .tuple ((g.map fun i => PyData.int (i : Nat)) ++ [.int (k : Nat)]) := by rfl
theorem map_lotD {k : Nat} {l : List (List Nat)} : (l.map lotD).map (snocD k) = (l.map (· ++ [k])).map lotD := by
  rw [List.map_map, List.map_map]
  refine List.map_congr_left fun g _ => ?_
  show snocD k (lotD g) = lotD (g ++ [k])
  rw [snocD_lot]
  unfold lotD
  rw [List.map_append]
  rfl
def pairDD : D → D := fun d => match d with
  | .tuple t => .tuple [.int t.length, .tuple t]
  | d => d
theorem pairDD_lot {g : List Nat} : pairDD (lotD g) = .tuple [.int g.length, lotD g] := by
  show PyData.tuple [.int (g.map fun i => PyData.int (i : Nat)).length, lotD g] = _
  rw [List.length_map]
theorem map_pairDD {l : List (List Nat)} : (l.map lotD).map pairDD = l.map pairD := by
  rw [List.map_map]
  refine List.map_congr_left fun g _ => ?_
  exact pairDD_lot
theorem lotD_len {g : List Nat} : (g.map fun i => PyData.int (i : Nat)).length = g.length := List.length_map _
def firstD (o : Option (List Nat)) : D := match o with
  | some g => lotD g
  | none => .none
theorem find_map {α : Type} {p : D → Bool} {q : α → Bool} {f : α → D} (h : ∀ a, p (f a) = q a) : ∀ (l : List α), (l.map f).find? p = (l.find? q).map f
  | [] => rfl
  | a :: l => by
    rw [List.map_cons, List.find?_cons, List.find?_cons, h, find_map h l]
    cases q a <;> rfl
def asLot : D → List Nat
  | .tuple l => l.map fun d => (asI d).toNat
  | _ => []
theorem asLot_lot {g : List Nat} : asLot (lotD g) = g := by
  show (g.map fun i => PyData.int (i : Nat)).map (fun d => (asI d).toNat) = g
  rw [List.map_map]
  have : ((fun d => (asI d).toNat) ∘ fun (i : Nat) => PyData.int (i : Nat)) = id := by
    funext i
    simp [asI_int]
  rw [this, List.map_id]
def pairLot : D → List Nat
  | .tuple [_, l] => asLot l
  | _ => []
theorem pairLot_pair {g : List Nat} : pairLot (pairD g) = g := asLot_lot
theorem fewest_left_eq {n : Nat} {W : List Wi} (h : Va n W) (hl : W.length ≤ 6) : m_fewest_left [.int n, wsD W] = .ok (firstD ((allLv W.length).find? fun g => fz n (rest W g))) := by
  have hl5 : W.length ≤ 100000 := by omega
  have hl12 : ¬ (12 : Int) < (W.length : Int) := by omega
  unfold m_fewest_left b_fewest_left
  refine mdef_of ?_
  simp -implicitDefEqProofs only [nr_seq, after_app, nr_nx, nr_rt, br_ok, nr_ite, Int.cast_ofNat_Int, Int.reduceEq, ne_eq, not_true_eq_false, not_false_eq_true, Bool.false_eq_true, if_false, Int.reduceLE, Int.reduceLT, Int.reduceNeg, Int.reduceSub, Int.reduceAdd, decide_eq_true_eq, Bool.or_false, Bool.or_true, true_or, or_true, or_false, false_or, decide_not, bne_self_eq_false, Option.some.injEq, startS, startH, startScr, List.map, List.cons_append, List.nil_append, List.append_nil, List.length_cons, List.length_nil, List.length_set, List.replicate_zero, List.replicate_succ, Nat.reduceAdd, Nat.reduceSub, Nat.reduceLT, Nat.reduceLeDiff, Nat.zero_add, Nat.reduceMul, and_self, and_true, true_and, if_true, reduceIte, decide_true, decide_false, Nat.lt_irrefl, sif, sset, mD, mL, mLL, mLL0, stg, gset, gtup, gcons, gnil, sret, sfl, sdrop, saug, mtest, mnot, mand, mor, mandV, morV, mnotV, mife, mcallQ, mcallH, mcall, mcallL, mcallS, mcallSL, mcons, mnil, mv, mc, mop, mopL, mun, misi, mfrz, mP, pv', pop, mchain, mtrue, mrevL, mit, mitems, mcallScr, mscr, scrOf, mlcomp, oAdd, oSub, oMul, oDiv, oMod, oPow, oLt, oLe, oGt, oGe, o2I, o2IC, oNeg, oIsN, oNotN, oIsB, oNotB, oLst, oTup, oTupS, oLenS, asInt2, spar, spar3, sput, smut, oApp, mixS, slotL, ownL, SV.fz, oItems, oItemsT, oIxT, oIxL, oTupOf, oListOf, oEnumT, oLen, on1, oInt, oAbs, oMax2, oMin2, gput, unwipe, wipeS, oldS, mcallS, oExt, sappL, sapp2, sput2, pix2, pixS, oCatT, oCat, mslT, mpart, mnopart, List.getElem?_cons_zero, List.getElem?_cons_succ, List.set_cons_zero, List.set_cons_succ, ownLL_0, ownLL_1, ownLL_2, ownLL_3, ownLL_4, Rs.bind_ok, toRs_some, lift_some, asInt_int, asList_list, asTup_tup, noErr_ok, obind_some, asBool_bool, Bool.not_true, Bool.not_false, isT, isNone_none, isNone_int, isNone_bool, isNone_tup, isNone_list, ifT, ifF, check_va h, ws_len, hl12]
  refine nr_fors (P := fun k st => ∃ x3 x5, k ≤ W.length ∧ st = some (.d (.int n)) :: some (.d (wsD W)) :: some (.ol ((lots k).map lotD)) :: x3 :: none :: x5 :: none :: []) (ds := rangeD 0 W.length) ?_ ?_ ?_ ?_
  · simp -implicitDefEqProofs only [nr_seq, after_app, nr_nx, nr_rt, br_ok, nr_ite, Int.cast_ofNat_Int, Int.reduceEq, ne_eq, not_true_eq_false, not_false_eq_true, Bool.false_eq_true, if_false, Int.reduceLE, Int.reduceLT, Int.reduceNeg, Int.reduceSub, Int.reduceAdd, decide_eq_true_eq, Bool.or_false, Bool.or_true, true_or, or_true, or_false, false_or, decide_not, bne_self_eq_false, Option.some.injEq, startS, startH, startScr, List.map, List.cons_append, List.nil_append, List.append_nil, List.length_cons, List.length_nil, List.length_set, List.replicate_zero, List.replicate_succ, Nat.reduceAdd, Nat.reduceSub, Nat.reduceLT, Nat.reduceLeDiff, Nat.zero_add, Nat.reduceMul, and_self, and_true, true_and, if_true, reduceIte, decide_true, decide_false, Nat.lt_irrefl, sif, sset, mD, mL, mLL, mLL0, stg, gset, gtup, gcons, gnil, sret, sfl, sdrop, saug, mtest, mnot, mand, mor, mandV, morV, mnotV, mife, mcallQ, mcallH, mcall, mcallL, mcallS, mcallSL, mcons, mnil, mv, mc, mop, mopL, mun, misi, mfrz, mP, pv', pop, mchain, mtrue, mrevL, mit, mitems, mcallScr, mscr, scrOf, mlcomp, oAdd, oSub, oMul, oDiv, oMod, oPow, oLt, oLe, oGt, oGe, o2I, o2IC, oNeg, oIsN, oNotN, oIsB, oNotB, oLst, oTup, oTupS, oLenS, asInt2, spar, spar3, sput, smut, oApp, mixS, slotL, ownL, SV.fz, oItems, oItemsT, oIxT, oIxL, oTupOf, oListOf, oEnumT, oLen, on1, oInt, oAbs, oMax2, oMin2, gput, unwipe, wipeS, oldS, mcallS, oExt, sappL, sapp2, sput2, pix2, pixS, oCatT, oCat, mslT, mpart, mnopart, List.getElem?_cons_zero, List.getElem?_cons_succ, List.set_cons_zero, List.set_cons_succ, ownLL_0, ownLL_1, ownLL_2, ownLL_3, ownLL_4, Rs.bind_ok, toRs_some, lift_some, asInt_int, asList_list, asTup_tup, noErr_ok, obind_some, asBool_bool, Bool.not_true, Bool.not_false, isT, isNone_none, isNone_int, isNone_bool, isNone_tup, isNone_list, ifT, ifF, ws_len, range1_nat hl5]
  · exact ⟨_, _, Nat.zero_le _, rfl⟩
  · rintro k d st hd ⟨x3, x5, hk, rfl⟩
    obtain ⟨hk, rfl⟩ := rangeD_get hd
    have hs := lots_small (k := k) (by omega)
    have hs5 : ((lots k).map lotD).length ≤ 100000 := by rw [List.length_map]; omega
    unfold turn
    simp -implicitDefEqProofs only [nr_seq, after_app, nr_nx, nr_rt, br_ok, nr_ite, Int.cast_ofNat_Int, Int.reduceEq, ne_eq, not_true_eq_false, not_false_eq_true, Bool.false_eq_true, if_false, Int.reduceLE, Int.reduceLT, Int.reduceNeg, Int.reduceSub, Int.reduceAdd, decide_eq_true_eq, Bool.or_false, Bool.or_true, true_or, or_true, or_false, false_or, decide_not, bne_self_eq_false, Option.some.injEq, startS, startH, startScr, List.map, List.cons_append, List.nil_append, List.append_nil, List.length_cons, List.length_nil, List.length_set, List.replicate_zero, List.replicate_succ, Nat.reduceAdd, Nat.reduceSub, Nat.reduceLT, Nat.reduceLeDiff, Nat.zero_add, Nat.reduceMul, and_self, and_true, true_and, if_true, reduceIte, decide_true, decide_false, Nat.lt_irrefl, sif, sset, mD, mL, mLL, mLL0, stg, gset, gtup, gcons, gnil, sret, sfl, sdrop, saug, mtest, mnot, mand, mor, mandV, morV, mnotV, mife, mcallQ, mcallH, mcall, mcallL, mcallS, mcallSL, mcons, mnil, mv, mc, mop, mopL, mun, misi, mfrz, mP, pv', pop, mchain, mtrue, mrevL, mit, mitems, mcallScr, mscr, scrOf, mlcomp, oAdd, oSub, oMul, oDiv, oMod, oPow, oLt, oLe, oGt, oGe, o2I, o2IC, oNeg, oIsN, oNotN, oIsB, oNotB, oLst, oTup, oTupS, oLenS, asInt2, spar, spar3, sput, smut, oApp, mixS, slotL, ownL, SV.fz, oItems, oItemsT, oIxT, oIxL, oTupOf, oListOf, oEnumT, oLen, on1, oInt, oAbs, oMax2, oMin2, gput, unwipe, wipeS, oldS, mcallS, oExt, sappL, sapp2, sput2, pix2, pixS, oCatT, oCat, mslT, mpart, mnopart, List.getElem?_cons_zero, List.getElem?_cons_succ, List.set_cons_zero, List.set_cons_succ, ownLL_0, ownLL_1, ownLL_2, ownLL_3, ownLL_4, Rs.bind_ok, toRs_some, lift_some, asInt_int, asList_list, asTup_tup, noErr_ok, obind_some, asBool_bool, Bool.not_true, Bool.not_false, isT, isNone_none, isNone_int, isNone_bool, isNone_tup, isNone_list, ifT, ifF, hs5]
    rw [mlc_all (v := snocD k) _ (fun d hd => ?_)]
    · have e2 : ((lots k).map lotD).length + (((lots k).map (· ++ [k])).map lotD).length ≤ 100000 := by
        rw [List.length_map, List.length_map, List.length_map]; omega
      simp -implicitDefEqProofs only [nr_seq, after_app, nr_nx, nr_rt, br_ok, nr_ite, Int.cast_ofNat_Int, Int.reduceEq, ne_eq, not_true_eq_false, not_false_eq_true, Bool.false_eq_true, if_false, Int.reduceLE, Int.reduceLT, Int.reduceNeg, Int.reduceSub, Int.reduceAdd, decide_eq_true_eq, Bool.or_false, Bool.or_true, true_or, or_true, or_false, false_or, decide_not, bne_self_eq_false, Option.some.injEq, startS, startH, startScr, List.map, List.cons_append, List.nil_append, List.append_nil, List.length_cons, List.length_nil, List.length_set, List.replicate_zero, List.replicate_succ, Nat.reduceAdd, Nat.reduceSub, Nat.reduceLT, Nat.reduceLeDiff, Nat.zero_add, Nat.reduceMul, and_self, and_true, true_and, if_true, reduceIte, decide_true, decide_false, Nat.lt_irrefl, sif, sset, mD, mL, mLL, mLL0, stg, gset, gtup, gcons, gnil, sret, sfl, sdrop, saug, mtest, mnot, mand, mor, mandV, morV, mnotV, mife, mcallQ, mcallH, mcall, mcallL, mcallS, mcallSL, mcons, mnil, mv, mc, mop, mopL, mun, misi, mfrz, mP, pv', pop, mchain, mtrue, mrevL, mit, mitems, mcallScr, mscr, scrOf, mlcomp, oAdd, oSub, oMul, oDiv, oMod, oPow, oLt, oLe, oGt, oGe, o2I, o2IC, oNeg, oIsN, oNotN, oIsB, oNotB, oLst, oTup, oTupS, oLenS, asInt2, spar, spar3, sput, smut, oApp, mixS, slotL, ownL, SV.fz, oItems, oItemsT, oIxT, oIxL, oTupOf, oListOf, oEnumT, oLen, on1, oInt, oAbs, oMax2, oMin2, gput, unwipe, wipeS, oldS, mcallS, oExt, sappL, sapp2, sput2, pix2, pixS, oCatT, oCat, mslT, mpart, mnopart, List.getElem?_cons_zero, List.getElem?_cons_succ, List.set_cons_zero, List.set_cons_succ, ownLL_0, ownLL_1, ownLL_2, ownLL_3, ownLL_4, Rs.bind_ok, toRs_some, lift_some, asInt_int, asList_list, asTup_tup, noErr_ok, obind_some, asBool_bool, Bool.not_true, Bool.not_false, isT, isNone_none, isNone_int, isNone_bool, isNone_tup, isNone_list, ifT, ifF, map_lotD, e2]
      rw [← List.map_append]
      exact ⟨_, _, by omega, rfl⟩
    · obtain ⟨g, hg, rfl⟩ := List.mem_map.mp hd
      have hg := lots_le k g hg
      have e3 : g.length + 1 ≤ 100000 := by omega
      rw [snocD_lot]
      simp -implicitDefEqProofs only [nr_seq, after_app, nr_nx, nr_rt, br_ok, nr_ite, Int.cast_ofNat_Int, Int.reduceEq, ne_eq, not_true_eq_false, not_false_eq_true, Bool.false_eq_true, if_false, Int.reduceLE, Int.reduceLT, Int.reduceNeg, Int.reduceSub, Int.reduceAdd, decide_eq_true_eq, Bool.or_false, Bool.or_true, true_or, or_true, or_false, false_or, decide_not, bne_self_eq_false, Option.some.injEq, startS, startH, startScr, List.map, List.cons_append, List.nil_append, List.append_nil, List.length_cons, List.length_nil, List.length_set, List.replicate_zero, List.replicate_succ, Nat.reduceAdd, Nat.reduceSub, Nat.reduceLT, Nat.reduceLeDiff, Nat.zero_add, Nat.reduceMul, and_self, and_true, true_and, if_true, reduceIte, decide_true, decide_false, Nat.lt_irrefl, sif, sset, mD, mL, mLL, mLL0, stg, gset, gtup, gcons, gnil, sret, sfl, sdrop, saug, mtest, mnot, mand, mor, mandV, morV, mnotV, mife, mcallQ, mcallH, mcall, mcallL, mcallS, mcallSL, mcons, mnil, mv, mc, mop, mopL, mun, misi, mfrz, mP, pv', pop, mchain, mtrue, mrevL, mit, mitems, mcallScr, mscr, scrOf, mlcomp, oAdd, oSub, oMul, oDiv, oMod, oPow, oLt, oLe, oGt, oGe, o2I, o2IC, oNeg, oIsN, oNotN, oIsB, oNotB, oLst, oTup, oTupS, oLenS, asInt2, spar, spar3, sput, smut, oApp, mixS, slotL, ownL, SV.fz, oItems, oItemsT, oIxT, oIxL, oTupOf, oListOf, oEnumT, oLen, on1, oInt, oAbs, oMax2, oMin2, gput, unwipe, wipeS, oldS, mcallS, oExt, sappL, sapp2, sput2, pix2, pixS, oCatT, oCat, mslT, mpart, mnopart, List.getElem?_cons_zero, List.getElem?_cons_succ, List.set_cons_zero, List.set_cons_succ, ownLL_0, ownLL_1, ownLL_2, ownLL_3, ownLL_4, Rs.bind_ok, toRs_some, lift_some, asInt_int, asList_list, asTup_tup, noErr_ok, obind_some, asBool_bool, Bool.not_true, Bool.not_false, isT, isNone_none, isNone_int, isNone_bool, isNone_tup, isNone_list, ifT, ifF, lotD_len, e3]
  · rintro st ⟨x3, x5, hk, rfl⟩
    rw [rangeD_len]
    have hs := lots_small (k := W.length) (by omega)
    have hs5 : ((lots W.length).map lotD).length ≤ 100000 := by rw [List.length_map]; omega
    simp -implicitDefEqProofs only [nr_seq, after_app, nr_nx, nr_rt, br_ok, nr_ite, Int.cast_ofNat_Int, Int.reduceEq, ne_eq, not_true_eq_false, not_false_eq_true, Bool.false_eq_true, if_false, Int.reduceLE, Int.reduceLT, Int.reduceNeg, Int.reduceSub, Int.reduceAdd, decide_eq_true_eq, Bool.or_false, Bool.or_true, true_or, or_true, or_false, false_or, decide_not, bne_self_eq_false, Option.some.injEq, startS, startH, startScr, List.map, List.cons_append, List.nil_append, List.append_nil, List.length_cons, List.length_nil, List.length_set, List.replicate_zero, List.replicate_succ, Nat.reduceAdd, Nat.reduceSub, Nat.reduceLT, Nat.reduceLeDiff, Nat.zero_add, Nat.reduceMul, and_self, and_true, true_and, if_true, reduceIte, decide_true, decide_false, Nat.lt_irrefl, sif, sset, mD, mL, mLL, mLL0, stg, gset, gtup, gcons, gnil, sret, sfl, sdrop, saug, mtest, mnot, mand, mor, mandV, morV, mnotV, mife, mcallQ, mcallH, mcall, mcallL, mcallS, mcallSL, mcons, mnil, mv, mc, mop, mopL, mun, misi, mfrz, mP, pv', pop, mchain, mtrue, mrevL, mit, mitems, mcallScr, mscr, scrOf, mlcomp, oAdd, oSub, oMul, oDiv, oMod, oPow, oLt, oLe, oGt, oGe, o2I, o2IC, oNeg, oIsN, oNotN, oIsB, oNotB, oLst, oTup, oTupS, oLenS, asInt2, spar, spar3, sput, smut, oApp, mixS, slotL, ownL, SV.fz, oItems, oItemsT, oIxT, oIxL, oTupOf, oListOf, oEnumT, oLen, on1, oInt, oAbs, oMax2, oMin2, gput, unwipe, wipeS, oldS, mcallS, oExt, sappL, sapp2, sput2, pix2, pixS, oCatT, oCat, mslT, mpart, mnopart, List.getElem?_cons_zero, List.getElem?_cons_succ, List.set_cons_zero, List.set_cons_succ, ownLL_0, ownLL_1, ownLL_2, ownLL_3, ownLL_4, Rs.bind_ok, toRs_some, lift_some, asInt_int, asList_list, asTup_tup, noErr_ok, obind_some, asBool_bool, Bool.not_true, Bool.not_false, isT, isNone_none, isNone_int, isNone_bool, isNone_tup, isNone_list, ifT, ifF]
    refine nr_find (p := fun d => fz n (rest W (pairLot d))) (r := fun d => lotD (pairLot d)) (P := fun st => ∃ x3 x4 x5 x6, st = some (.d (.int n)) :: some (.d (wsD W)) :: some (.d (.list ((lots W.length).map lotD))) :: x3 :: x4 :: x5 :: x6 :: [])
      (ds := (allLv W.length).map pairD) (s1 := some (.d (.int n)) :: some (.d (wsD W)) :: some (.d (.list ((lots W.length).map lotD))) :: x3 :: none :: (match x5 with | some (SV.d x) => some (SV.d x) | _ => none) :: none :: []) ?_ ⟨_, _, _, _, rfl⟩ ?_ ?_ ?_
    · simp -implicitDefEqProofs only [nr_seq, after_app, nr_nx, nr_rt, br_ok, nr_ite, Int.cast_ofNat_Int, Int.reduceEq, ne_eq, not_true_eq_false, not_false_eq_true, Bool.false_eq_true, if_false, Int.reduceLE, Int.reduceLT, Int.reduceNeg, Int.reduceSub, Int.reduceAdd, decide_eq_true_eq, Bool.or_false, Bool.or_true, true_or, or_true, or_false, false_or, decide_not, bne_self_eq_false, Option.some.injEq, startS, startH, startScr, List.map, List.cons_append, List.nil_append, List.append_nil, List.length_cons, List.length_nil, List.length_set, List.replicate_zero, List.replicate_succ, Nat.reduceAdd, Nat.reduceSub, Nat.reduceLT, Nat.reduceLeDiff, Nat.zero_add, Nat.reduceMul, and_self, and_true, true_and, if_true, reduceIte, decide_true, decide_false, Nat.lt_irrefl, sif, sset, mD, mL, mLL, mLL0, stg, gset, gtup, gcons, gnil, sret, sfl, sdrop, saug, mtest, mnot, mand, mor, mandV, morV, mnotV, mife, mcallQ, mcallH, mcall, mcallL, mcallS, mcallSL, mcons, mnil, mv, mc, mop, mopL, mun, misi, mfrz, mP, pv', pop, mchain, mtrue, mrevL, mit, mitems, mcallScr, mscr, scrOf, mlcomp, oAdd, oSub, oMul, oDiv, oMod, oPow, oLt, oLe, oGt, oGe, o2I, o2IC, oNeg, oIsN, oNotN, oIsB, oNotB, oLst, oTup, oTupS, oLenS, asInt2, spar, spar3, sput, smut, oApp, mixS, slotL, ownL, SV.fz, oItems, oItemsT, oIxT, oIxL, oTupOf, oListOf, oEnumT, oLen, on1, oInt, oAbs, oMax2, oMin2, gput, unwipe, wipeS, oldS, mcallS, oExt, sappL, sapp2, sput2, pix2, pixS, oCatT, oCat, mslT, mpart, mnopart, List.getElem?_cons_zero, List.getElem?_cons_succ, List.set_cons_zero, List.set_cons_succ, ownLL_0, ownLL_1, ownLL_2, ownLL_3, ownLL_4, Rs.bind_ok, toRs_some, lift_some, asInt_int, asList_list, asTup_tup, noErr_ok, obind_some, asBool_bool, Bool.not_true, Bool.not_false, isT, isNone_none, isNone_int, isNone_bool, isNone_tup, isNone_list, ifT, ifF, hs5]
      rw [mlc_all (v := pairDD) _ (fun d hd => ?_)]
      · simp -implicitDefEqProofs only [nr_seq, after_app, nr_nx, nr_rt, br_ok, nr_ite, Int.cast_ofNat_Int, Int.reduceEq, ne_eq, not_true_eq_false, not_false_eq_true, Bool.false_eq_true, if_false, Int.reduceLE, Int.reduceLT, Int.reduceNeg, Int.reduceSub, Int.reduceAdd, decide_eq_true_eq, Bool.or_false, Bool.or_true, true_or, or_true, or_false, false_or, decide_not, bne_self_eq_false, Option.some.injEq, startS, startH, startScr, List.map, List.cons_append, List.nil_append, List.append_nil, List.length_cons, List.length_nil, List.length_set, List.replicate_zero, List.replicate_succ, Nat.reduceAdd, Nat.reduceSub, Nat.reduceLT, Nat.reduceLeDiff, Nat.zero_add, Nat.reduceMul, and_self, and_true, true_and, if_true, reduceIte, decide_true, decide_false, Nat.lt_irrefl, sif, sset, mD, mL, mLL, mLL0, stg, gset, gtup, gcons, gnil, sret, sfl, sdrop, saug, mtest, mnot, mand, mor, mandV, morV, mnotV, mife, mcallQ, mcallH, mcall, mcallL, mcallS, mcallSL, mcons, mnil, mv, mc, mop, mopL, mun, misi, mfrz, mP, pv', pop, mchain, mtrue, mrevL, mit, mitems, mcallScr, mscr, scrOf, mlcomp, oAdd, oSub, oMul, oDiv, oMod, oPow, oLt, oLe, oGt, oGe, o2I, o2IC, oNeg, oIsN, oNotN, oIsB, oNotB, oLst, oTup, oTupS, oLenS, asInt2, spar, spar3, sput, smut, oApp, mixS, slotL, ownL, SV.fz, oItems, oItemsT, oIxT, oIxL, oTupOf, oListOf, oEnumT, oLen, on1, oInt, oAbs, oMax2, oMin2, gput, unwipe, wipeS, oldS, mcallS, oExt, sappL, sapp2, sput2, pix2, pixS, oCatT, oCat, mslT, mpart, mnopart, List.getElem?_cons_zero, List.getElem?_cons_succ, List.set_cons_zero, List.set_cons_succ, ownLL_0, ownLL_1, ownLL_2, ownLL_3, ownLL_4, Rs.bind_ok, toRs_some, lift_some, asInt_int, asList_list, asTup_tup, noErr_ok, obind_some, asBool_bool, Bool.not_true, Bool.not_false, isT, isNone_none, isNone_int, isNone_bool, isNone_tup, isNone_list, ifT, ifF, map_pairDD, sorted_lots hl]
        cases x5 with
        | none => rfl
        | some x => cases x <;> rfl
      · obtain ⟨g, hg, rfl⟩ := List.mem_map.mp hd
        have hg := lots_le _ g hg
        rw [pairDD_lot]
        simp -implicitDefEqProofs only [nr_seq, after_app, nr_nx, nr_rt, br_ok, nr_ite, Int.cast_ofNat_Int, Int.reduceEq, ne_eq, not_true_eq_false, not_false_eq_true, Bool.false_eq_true, if_false, Int.reduceLE, Int.reduceLT, Int.reduceNeg, Int.reduceSub, Int.reduceAdd, decide_eq_true_eq, Bool.or_false, Bool.or_true, true_or, or_true, or_false, false_or, decide_not, bne_self_eq_false, Option.some.injEq, startS, startH, startScr, List.map, List.cons_append, List.nil_append, List.append_nil, List.length_cons, List.length_nil, List.length_set, List.replicate_zero, List.replicate_succ, Nat.reduceAdd, Nat.reduceSub, Nat.reduceLT, Nat.reduceLeDiff, Nat.zero_add, Nat.reduceMul, and_self, and_true, true_and, if_true, reduceIte, decide_true, decide_false, Nat.lt_irrefl, sif, sset, mD, mL, mLL, mLL0, stg, gset, gtup, gcons, gnil, sret, sfl, sdrop, saug, mtest, mnot, mand, mor, mandV, morV, mnotV, mife, mcallQ, mcallH, mcall, mcallL, mcallS, mcallSL, mcons, mnil, mv, mc, mop, mopL, mun, misi, mfrz, mP, pv', pop, mchain, mtrue, mrevL, mit, mitems, mcallScr, mscr, scrOf, mlcomp, oAdd, oSub, oMul, oDiv, oMod, oPow, oLt, oLe, oGt, oGe, o2I, o2IC, oNeg, oIsN, oNotN, oIsB, oNotB, oLst, oTup, oTupS, oLenS, asInt2, spar, spar3, sput, smut, oApp, mixS, slotL, ownL, SV.fz, oItems, oItemsT, oIxT, oIxL, oTupOf, oListOf, oEnumT, oLen, on1, oInt, oAbs, oMax2, oMin2, gput, unwipe, wipeS, oldS, mcallS, oExt, sappL, sapp2, sput2, pix2, pixS, oCatT, oCat, mslT, mpart, mnopart, List.getElem?_cons_zero, List.getElem?_cons_succ, List.set_cons_zero, List.set_cons_succ, ownLL_0, ownLL_1, ownLL_2, ownLL_3, ownLL_4, Rs.bind_ok, toRs_some, lift_some, asInt_int, asList_list, asTup_tup, noErr_ok, obind_some, asBool_bool, Bool.not_true, Bool.not_false, isT, isNone_none, isNone_int, isNone_bool, isNone_tup, isNone_list, ifT, ifF, lotD_len]
    · rintro d st hd ⟨x3, x4, x5, x6, rfl⟩
      obtain ⟨g, hg, rfl⟩ := List.mem_map.mp hd
      rw [pairLot_pair]
      have hr := can_keep_eq (h.rest g)
      have key : NR (turn (gtup 2 (gcons (gset 4) (gcons (gset 5) gnil)))
          (sif (mtest (mcallQ m_can_keep (mcons (mv 0) (mcons (mcall oTupOf (mcons (mfrz (mlcomp (mit oEnumT (mcons (mv 1) mnil)) (gtup 2 (gcons (gset 3) (gcons (gset 6) gnil))) (mtest (mop (oIn true) (mv 3) (mv 5))) (mv 6) [3, 6])) mnil)) mnil)))) (sret (mv 5)) (sfl .nx)) (pairD g)
          (some (.d (.int n)) :: some (.d (wsD W)) :: some (.d (.list ((lots W.length).map lotD))) :: x3 :: x4 :: x5 :: x6 :: []))
          (fun st => fz n (rest W g) = false ∧ ∃ x3 x4 x5 x6, st = some (.d (.int n)) :: some (.d (wsD W)) :: some (.d (.list ((lots W.length).map lotD))) :: x3 :: x4 :: x5 :: x6 :: [])
          (fun x _ => fz n (rest W g) = true ∧ x = lotD g) := by
        unfold turn
        simp -implicitDefEqProofs only [nr_seq, after_app, nr_nx, nr_rt, br_ok, nr_ite, Int.cast_ofNat_Int, Int.reduceEq, ne_eq, not_true_eq_false, not_false_eq_true, Bool.false_eq_true, if_false, Int.reduceLE, Int.reduceLT, Int.reduceNeg, Int.reduceSub, Int.reduceAdd, decide_eq_true_eq, Bool.or_false, Bool.or_true, true_or, or_true, or_false, false_or, decide_not, bne_self_eq_false, Option.some.injEq, startS, startH, startScr, List.map, List.cons_append, List.nil_append, List.append_nil, List.length_cons, List.length_nil, List.length_set, List.replicate_zero, List.replicate_succ, Nat.reduceAdd, Nat.reduceSub, Nat.reduceLT, Nat.reduceLeDiff, Nat.zero_add, Nat.reduceMul, and_self, and_true, true_and, if_true, reduceIte, decide_true, decide_false, Nat.lt_irrefl, sif, sset, mD, mL, mLL, mLL0, stg, gset, gtup, gcons, gnil, sret, sfl, sdrop, saug, mtest, mnot, mand, mor, mandV, morV, mnotV, mife, mcallQ, mcallH, mcall, mcallL, mcallS, mcallSL, mcons, mnil, mv, mc, mop, mopL, mun, misi, mfrz, mP, pv', pop, mchain, mtrue, mrevL, mit, mitems, mcallScr, mscr, scrOf, mlcomp, oAdd, oSub, oMul, oDiv, oMod, oPow, oLt, oLe, oGt, oGe, o2I, o2IC, oNeg, oIsN, oNotN, oIsB, oNotB, oLst, oTup, oTupS, oLenS, asInt2, spar, spar3, sput, smut, oApp, mixS, slotL, ownL, SV.fz, oItems, oItemsT, oIxT, oIxL, oTupOf, oListOf, oEnumT, oLen, on1, oInt, oAbs, oMax2, oMin2, gput, unwipe, wipeS, oldS, mcallS, oExt, sappL, sapp2, sput2, pix2, pixS, oCatT, oCat, mslT, mpart, mnopart, List.getElem?_cons_zero, List.getElem?_cons_succ, List.set_cons_zero, List.set_cons_succ, ownLL_0, ownLL_1, ownLL_2, ownLL_3, ownLL_4, Rs.bind_ok, toRs_some, lift_some, asInt_int, asList_list, asTup_tup, noErr_ok, obind_some, asBool_bool, Bool.not_true, Bool.not_false, isT, isNone_none, isNone_int, isNone_bool, isNone_tup, isNone_list, ifT, ifF, enum_len, ws_len, hl5]
        rw [mlc_eq (v := restV g) _ (fun d hd => ?_)]
        · simp -implicitDefEqProofs only [nr_seq, after_app, nr_nx, nr_rt, br_ok, nr_ite, Int.cast_ofNat_Int, Int.reduceEq, ne_eq, not_true_eq_false, not_false_eq_true, Bool.false_eq_true, if_false, Int.reduceLE, Int.reduceLT, Int.reduceNeg, Int.reduceSub, Int.reduceAdd, decide_eq_true_eq, Bool.or_false, Bool.or_true, true_or, or_true, or_false, false_or, decide_not, bne_self_eq_false, Option.some.injEq, startS, startH, startScr, List.map, List.cons_append, List.nil_append, List.append_nil, List.length_cons, List.length_nil, List.length_set, List.replicate_zero, List.replicate_succ, Nat.reduceAdd, Nat.reduceSub, Nat.reduceLT, Nat.reduceLeDiff, Nat.zero_add, Nat.reduceMul, and_self, and_true, true_and, if_true, reduceIte, decide_true, decide_false, Nat.lt_irrefl, sif, sset, mD, mL, mLL, mLL0, stg, gset, gtup, gcons, gnil, sret, sfl, sdrop, saug, mtest, mnot, mand, mor, mandV, morV, mnotV, mife, mcallQ, mcallH, mcall, mcallL, mcallS, mcallSL, mcons, mnil, mv, mc, mop, mopL, mun, misi, mfrz, mP, pv', pop, mchain, mtrue, mrevL, mit, mitems, mcallScr, mscr, scrOf, mlcomp, oAdd, oSub, oMul, oDiv, oMod, oPow, oLt, oLe, oGt, oGe, o2I, o2IC, oNeg, oIsN, oNotN, oIsB, oNotB, oLst, oTup, oTupS, oLenS, asInt2, spar, spar3, sput, smut, oApp, mixS, slotL, ownL, SV.fz, oItems, oItemsT, oIxT, oIxL, oTupOf, oListOf, oEnumT, oLen, on1, oInt, oAbs, oMax2, oMin2, gput, unwipe, wipeS, oldS, mcallS, oExt, sappL, sapp2, sput2, pix2, pixS, oCatT, oCat, mslT, mpart, mnopart, List.getElem?_cons_zero, List.getElem?_cons_succ, List.set_cons_zero, List.set_cons_succ, ownLL_0, ownLL_1, ownLL_2, ownLL_3, ownLL_4, Rs.bind_ok, toRs_some, lift_some, asInt_int, asList_list, asTup_tup, noErr_ok, obind_some, asBool_bool, Bool.not_true, Bool.not_false, isT, isNone_none, isNone_int, isNone_bool, isNone_tup, isNone_list, ifT, ifF, rest_D, hr]
          cases hz : fz n (rest W g) with
          | true => simp -implicitDefEqProofs only [nr_seq, after_app, nr_nx, nr_rt, br_ok, nr_ite, Int.cast_ofNat_Int, Int.reduceEq, ne_eq, not_true_eq_false, not_false_eq_true, Bool.false_eq_true, if_false, Int.reduceLE, Int.reduceLT, Int.reduceNeg, Int.reduceSub, Int.reduceAdd, decide_eq_true_eq, Bool.or_false, Bool.or_true, true_or, or_true, or_false, false_or, decide_not, bne_self_eq_false, Option.some.injEq, startS, startH, startScr, List.map, List.cons_append, List.nil_append, List.append_nil, List.length_cons, List.length_nil, List.length_set, List.replicate_zero, List.replicate_succ, Nat.reduceAdd, Nat.reduceSub, Nat.reduceLT, Nat.reduceLeDiff, Nat.zero_add, Nat.reduceMul, and_self, and_true, true_and, if_true, reduceIte, decide_true, decide_false, Nat.lt_irrefl, sif, sset, mD, mL, mLL, mLL0, stg, gset, gtup, gcons, gnil, sret, sfl, sdrop, saug, mtest, mnot, mand, mor, mandV, morV, mnotV, mife, mcallQ, mcallH, mcall, mcallL, mcallS, mcallSL, mcons, mnil, mv, mc, mop, mopL, mun, misi, mfrz, mP, pv', pop, mchain, mtrue, mrevL, mit, mitems, mcallScr, mscr, scrOf, mlcomp, oAdd, oSub, oMul, oDiv, oMod, oPow, oLt, oLe, oGt, oGe, o2I, o2IC, oNeg, oIsN, oNotN, oIsB, oNotB, oLst, oTup, oTupS, oLenS, asInt2, spar, spar3, sput, smut, oApp, mixS, slotL, ownL, SV.fz, oItems, oItemsT, oIxT, oIxL, oTupOf, oListOf, oEnumT, oLen, on1, oInt, oAbs, oMax2, oMin2, gput, unwipe, wipeS, oldS, mcallS, oExt, sappL, sapp2, sput2, pix2, pixS, oCatT, oCat, mslT, mpart, mnopart, List.getElem?_cons_zero, List.getElem?_cons_succ, List.set_cons_zero, List.set_cons_succ, ownLL_0, ownLL_1, ownLL_2, ownLL_3, ownLL_4, Rs.bind_ok, toRs_some, lift_some, asInt_int, asList_list, asTup_tup, noErr_ok, obind_some, asBool_bool, Bool.not_true, Bool.not_false, isT, isNone_none, isNone_int, isNone_bool, isNone_tup, isNone_list, ifT, ifF]
          | false => 
            simp -implicitDefEqProofs only [nr_seq, after_app, nr_nx, nr_rt, br_ok, nr_ite, Int.cast_ofNat_Int, Int.reduceEq, ne_eq, not_true_eq_false, not_false_eq_true, Bool.false_eq_true, if_false, Int.reduceLE, Int.reduceLT, Int.reduceNeg, Int.reduceSub, Int.reduceAdd, decide_eq_true_eq, Bool.or_false, Bool.or_true, true_or, or_true, or_false, false_or, decide_not, bne_self_eq_false, Option.some.injEq, startS, startH, startScr, List.map, List.cons_append, List.nil_append, List.append_nil, List.length_cons, List.length_nil, List.length_set, List.replicate_zero, List.replicate_succ, Nat.reduceAdd, Nat.reduceSub, Nat.reduceLT, Nat.reduceLeDiff, Nat.zero_add, Nat.reduceMul, and_self, and_true, true_and, if_true, reduceIte, decide_true, decide_false, Nat.lt_irrefl, sif, sset, mD, mL, mLL, mLL0, stg, gset, gtup, gcons, gnil, sret, sfl, sdrop, saug, mtest, mnot, mand, mor, mandV, morV, mnotV, mife, mcallQ, mcallH, mcall, mcallL, mcallS, mcallSL, mcons, mnil, mv, mc, mop, mopL, mun, misi, mfrz, mP, pv', pop, mchain, mtrue, mrevL, mit, mitems, mcallScr, mscr, scrOf, mlcomp, oAdd, oSub, oMul, oDiv, oMod, oPow, oLt, oLe, oGt, oGe, o2I, o2IC, oNeg, oIsN, oNotN, oIsB, oNotB, oLst, oTup, oTupS, oLenS, asInt2, spar, spar3, sput, smut, oApp, mixS, slotL, ownL, SV.fz, oItems, oItemsT, oIxT, oIxL, oTupOf, oListOf, oEnumT, oLen, on1, oInt, oAbs, oMax2, oMin2, gput, unwipe, wipeS, oldS, mcallS, oExt, sappL, sapp2, sput2, pix2, pixS, oCatT, oCat, mslT, mpart, mnopart, List.getElem?_cons_zero, List.getElem?_cons_succ, List.set_cons_zero, List.set_cons_succ, ownLL_0, ownLL_1, ownLL_2, ownLL_3, ownLL_4, Rs.bind_ok, toRs_some, lift_some, asInt_int, asList_list, asTup_tup, noErr_ok, obind_some, asBool_bool, Bool.not_true, Bool.not_false, isT, isNone_none, isNone_int, isNone_bool, isNone_tup, isNone_list, ifT, ifF]
            exact ⟨_, _, _, _, rfl⟩
        · obtain ⟨i, hi⟩ := List.getElem?_of_mem hd
          obtain ⟨a, b, m, hw, rfl⟩ := enum_get hi
          unfold restV
          simp -implicitDefEqProofs only [nr_seq, after_app, nr_nx, nr_rt, br_ok, nr_ite, Int.cast_ofNat_Int, Int.reduceEq, ne_eq, not_true_eq_false, not_false_eq_true, Bool.false_eq_true, if_false, Int.reduceLE, Int.reduceLT, Int.reduceNeg, Int.reduceSub, Int.reduceAdd, decide_eq_true_eq, Bool.or_false, Bool.or_true, true_or, or_true, or_false, false_or, decide_not, bne_self_eq_false, Option.some.injEq, startS, startH, startScr, List.map, List.cons_append, List.nil_append, List.append_nil, List.length_cons, List.length_nil, List.length_set, List.replicate_zero, List.replicate_succ, Nat.reduceAdd, Nat.reduceSub, Nat.reduceLT, Nat.reduceLeDiff, Nat.zero_add, Nat.reduceMul, and_self, and_true, true_and, if_true, reduceIte, decide_true, decide_false, Nat.lt_irrefl, sif, sset, mD, mL, mLL, mLL0, stg, gset, gtup, gcons, gnil, sret, sfl, sdrop, saug, mtest, mnot, mand, mor, mandV, morV, mnotV, mife, mcallQ, mcallH, mcall, mcallL, mcallS, mcallSL, mcons, mnil, mv, mc, mop, mopL, mun, misi, mfrz, mP, pv', pop, mchain, mtrue, mrevL, mit, mitems, mcallScr, mscr, scrOf, mlcomp, oAdd, oSub, oMul, oDiv, oMod, oPow, oLt, oLe, oGt, oGe, o2I, o2IC, oNeg, oIsN, oNotN, oIsB, oNotB, oLst, oTup, oTupS, oLenS, asInt2, spar, spar3, sput, smut, oApp, mixS, slotL, ownL, SV.fz, oItems, oItemsT, oIxT, oIxL, oTupOf, oListOf, oEnumT, oLen, on1, oInt, oAbs, oMax2, oMin2, gput, unwipe, wipeS, oldS, mcallS, oExt, sappL, sapp2, sput2, pix2, pixS, oCatT, oCat, mslT, mpart, mnopart, List.getElem?_cons_zero, List.getElem?_cons_succ, List.set_cons_zero, List.set_cons_succ, ownLL_0, ownLL_1, ownLL_2, ownLL_3, ownLL_4, Rs.bind_ok, toRs_some, lift_some, asInt_int, asList_list, asTup_tup, noErr_ok, obind_some, asBool_bool, Bool.not_true, Bool.not_false, isT, isNone_none, isNone_int, isNone_bool, isNone_tup, isNone_list, ifT, ifF, oIn_lot, Int.toNat_natCast]
          cases g.contains i with
          | true => simp -implicitDefEqProofs only [nr_seq, after_app, nr_nx, nr_rt, br_ok, nr_ite, Int.cast_ofNat_Int, Int.reduceEq, ne_eq, not_true_eq_false, not_false_eq_true, Bool.false_eq_true, if_false, Int.reduceLE, Int.reduceLT, Int.reduceNeg, Int.reduceSub, Int.reduceAdd, decide_eq_true_eq, Bool.or_false, Bool.or_true, true_or, or_true, or_false, false_or, decide_not, bne_self_eq_false, Option.some.injEq, startS, startH, startScr, List.map, List.cons_append, List.nil_append, List.append_nil, List.length_cons, List.length_nil, List.length_set, List.replicate_zero, List.replicate_succ, Nat.reduceAdd, Nat.reduceSub, Nat.reduceLT, Nat.reduceLeDiff, Nat.zero_add, Nat.reduceMul, and_self, and_true, true_and, if_true, reduceIte, decide_true, decide_false, Nat.lt_irrefl, sif, sset, mD, mL, mLL, mLL0, stg, gset, gtup, gcons, gnil, sret, sfl, sdrop, saug, mtest, mnot, mand, mor, mandV, morV, mnotV, mife, mcallQ, mcallH, mcall, mcallL, mcallS, mcallSL, mcons, mnil, mv, mc, mop, mopL, mun, misi, mfrz, mP, pv', pop, mchain, mtrue, mrevL, mit, mitems, mcallScr, mscr, scrOf, mlcomp, oAdd, oSub, oMul, oDiv, oMod, oPow, oLt, oLe, oGt, oGe, o2I, o2IC, oNeg, oIsN, oNotN, oIsB, oNotB, oLst, oTup, oTupS, oLenS, asInt2, spar, spar3, sput, smut, oApp, mixS, slotL, ownL, SV.fz, oItems, oItemsT, oIxT, oIxL, oTupOf, oListOf, oEnumT, oLen, on1, oInt, oAbs, oMax2, oMin2, gput, unwipe, wipeS, oldS, mcallS, oExt, sappL, sapp2, sput2, pix2, pixS, oCatT, oCat, mslT, mpart, mnopart, List.getElem?_cons_zero, List.getElem?_cons_succ, List.set_cons_zero, List.set_cons_succ, ownLL_0, ownLL_1, ownLL_2, ownLL_3, ownLL_4, Rs.bind_ok, toRs_some, lift_some, asInt_int, asList_list, asTup_tup, noErr_ok, obind_some, asBool_bool, Bool.not_true, Bool.not_false, isT, isNone_none, isNone_int, isNone_bool, isNone_tup, isNone_list, ifT, ifF]
          | false => simp -implicitDefEqProofs only [nr_seq, after_app, nr_nx, nr_rt, br_ok, nr_ite, Int.cast_ofNat_Int, Int.reduceEq, ne_eq, not_true_eq_false, not_false_eq_true, Bool.false_eq_true, if_false, Int.reduceLE, Int.reduceLT, Int.reduceNeg, Int.reduceSub, Int.reduceAdd, decide_eq_true_eq, Bool.or_false, Bool.or_true, true_or, or_true, or_false, false_or, decide_not, bne_self_eq_false, Option.some.injEq, startS, startH, startScr, List.map, List.cons_append, List.nil_append, List.append_nil, List.length_cons, List.length_nil, List.length_set, List.replicate_zero, List.replicate_succ, Nat.reduceAdd, Nat.reduceSub, Nat.reduceLT, Nat.reduceLeDiff, Nat.zero_add, Nat.reduceMul, and_self, and_true, true_and, if_true, reduceIte, decide_true, decide_false, Nat.lt_irrefl, sif, sset, mD, mL, mLL, mLL0, stg, gset, gtup, gcons, gnil, sret, sfl, sdrop, saug, mtest, mnot, mand, mor, mandV, morV, mnotV, mife, mcallQ, mcallH, mcall, mcallL, mcallS, mcallSL, mcons, mnil, mv, mc, mop, mopL, mun, misi, mfrz, mP, pv', pop, mchain, mtrue, mrevL, mit, mitems, mcallScr, mscr, scrOf, mlcomp, oAdd, oSub, oMul, oDiv, oMod, oPow, oLt, oLe, oGt, oGe, o2I, o2IC, oNeg, oIsN, oNotN, oIsB, oNotB, oLst, oTup, oTupS, oLenS, asInt2, spar, spar3, sput, smut, oApp, mixS, slotL, ownL, SV.fz, oItems, oItemsT, oIxT, oIxL, oTupOf, oListOf, oEnumT, oLen, on1, oInt, oAbs, oMax2, oMin2, gput, unwipe, wipeS, oldS, mcallS, oExt, sappL, sapp2, sput2, pix2, pixS, oCatT, oCat, mslT, mpart, mnopart, List.getElem?_cons_zero, List.getElem?_cons_succ, List.set_cons_zero, List.set_cons_succ, ownLL_0, ownLL_1, ownLL_2, ownLL_3, ownLL_4, Rs.bind_ok, toRs_some, lift_some, asInt_int, asList_list, asTup_tup, noErr_ok, obind_some, asBool_bool, Bool.not_true, Bool.not_false, isT, isNone_none, isNone_int, isNone_bool, isNone_tup, isNone_list, ifT, ifF]
      constructor
      · intro hz
        exact key.mono (fun s hs => by rw [hz] at hs; cases hs.1) (fun d s hs => hs.2)
      · intro hz
        exact key.mono (fun s hs => hs.2) (fun d s hs => by rw [hz] at hs; cases hs.1)
    · intro hf st hst
      rw [find_map (q := fun g => fz n (rest W g)) (fun g => by rw [pairLot_pair])] at hf
      obtain ⟨x3, x4, x5, x6, rfl⟩ := hst
      cases hf2 : (allLv W.length).find? (fun g => fz n (rest W g)) with
      | some g => rw [hf2] at hf; cases hf
      | none => simp -implicitDefEqProofs only [nr_seq, after_app, nr_nx, nr_rt, br_ok, nr_ite, Int.cast_ofNat_Int, Int.reduceEq, ne_eq, not_true_eq_false, not_false_eq_true, Bool.false_eq_true, if_false, Int.reduceLE, Int.reduceLT, Int.reduceNeg, Int.reduceSub, Int.reduceAdd, decide_eq_true_eq, Bool.or_false, Bool.or_true, true_or, or_true, or_false, false_or, decide_not, bne_self_eq_false, Option.some.injEq, startS, startH, startScr, List.map, List.cons_append, List.nil_append, List.append_nil, List.length_cons, List.length_nil, List.length_set, List.replicate_zero, List.replicate_succ, Nat.reduceAdd, Nat.reduceSub, Nat.reduceLT, Nat.reduceLeDiff, Nat.zero_add, Nat.reduceMul, and_self, and_true, true_and, if_true, reduceIte, decide_true, decide_false, Nat.lt_irrefl, sif, sset, mD, mL, mLL, mLL0, stg, gset, gtup, gcons, gnil, sret, sfl, sdrop, saug, mtest, mnot, mand, mor, mandV, morV, mnotV, mife, mcallQ, mcallH, mcall, mcallL, mcallS, mcallSL, mcons, mnil, mv, mc, mop, mopL, mun, misi, mfrz, mP, pv', pop, mchain, mtrue, mrevL, mit, mitems, mcallScr, mscr, scrOf, mlcomp, oAdd, oSub, oMul, oDiv, oMod, oPow, oLt, oLe, oGt, oGe, o2I, o2IC, oNeg, oIsN, oNotN, oIsB, oNotB, oLst, oTup, oTupS, oLenS, asInt2, spar, spar3, sput, smut, oApp, mixS, slotL, ownL, SV.fz, oItems, oItemsT, oIxT, oIxL, oTupOf, oListOf, oEnumT, oLen, on1, oInt, oAbs, oMax2, oMin2, gput, unwipe, wipeS, oldS, mcallS, oExt, sappL, sapp2, sput2, pix2, pixS, oCatT, oCat, mslT, mpart, mnopart, List.getElem?_cons_zero, List.getElem?_cons_succ, List.set_cons_zero, List.set_cons_succ, ownLL_0, ownLL_1, ownLL_2, ownLL_3, ownLL_4, Rs.bind_ok, toRs_some, lift_some, asInt_int, asList_list, asTup_tup, noErr_ok, obind_some, asBool_bool, Bool.not_true, Bool.not_false, isT, isNone_none, isNone_int, isNone_bool, isNone_tup, isNone_list, ifT, ifF]
                rfl
    · intro d hf st
      rw [find_map (q := fun g => fz n (rest W g)) (fun g => by rw [pairLot_pair])] at hf
      cases hf2 : (allLv W.length).find? (fun g => fz n (rest W g)) with
      | none => rw [hf2] at hf; cases hf
      | some g =>
        rw [hf2] at hf
        cases hf
        show lotD (pairLot (pairD g)) = lotD g
        rw [pairLot_pair]
end K39
namespace K39
open PySem L2 Evl Mir Wsh
theorem last_eq {g : List Nat} {x : Nat} : atI ((g ++ [x]).map fun i => PyData.int (i : Nat)) (-1) = some (.int x) := by
  unfold atI ixN
  rw [List.map_append, List.length_append, List.length_map]
  rw [if_neg (by omega), if_pos (by simp only [List.length_map, List.length_singleton]; omega)]
  show (List.map (fun i => PyData.int (i : Nat)) g ++ [PyData.int (x : Nat)])[((-1 : Int) + ((g.length + 1 : Nat) : Int)).toNat]? = _
  rw [show ((-1 : Int) + ((g.length + 1 : Nat) : Int)).toNat = g.length by omega, List.getElem?_append_right (by rw [List.length_map]; exact Nat.le_refl _), List.length_map, Nat.sub_self]
  rfl
theorem range2_nat {a b : Nat} (hb : b ≤ 100000) (ha : a ≤ 100000) : oRange2 [.int (a : Int), .int (b : Int)] = some ((List.range' a (b - a)).map fun i => .int (i : Nat)) := by
  unfold oRange2
  dsimp only
  rw [if_pos (by omega), if_pos (by omega), if_pos (by omega), if_pos (by omega)]
  unfold rangeD
  rw [show ((b : Int) - (a : Int)).toNat = b - a by omega, List.range_eq_range']
  have : ∀ k s : Nat, (List.range' s k).map (fun i => PyData.int ((a : Int) + (i : Nat))) = (List.range' (a + s) k).map fun i => .int (i : Nat) := by
    intro k
    induction k with
    | zero => intro s; rfl
    | succ k ih =>
      intro s
      rw [List.range'_succ, List.range'_succ, List.map_cons, List.map_cons, ih (s + 1)]
      rw [show ((a : Int) + (s : Nat)) = ((a + s : Nat) : Int) by omega]
      rfl
  rw [this, Nat.add_zero]
/-- all of a lot stand below L -/
theorem level_mem {L : Nat} : ∀ {s : Nat} {g : List Nat}, g ∈ level L s → g.length = s ∧ lowest g ≤ L
  | 0, g, h => by
    rw [List.mem_singleton.mp h]
    exact ⟨rfl, Nat.zero_le _⟩
  | s + 1, g, h => by
    unfold level at h
    obtain ⟨g', h1, h2⟩ := List.mem_flatMap.mp h
    obtain ⟨a, b⟩ := level_mem h1
    unfold ext at h2
    obtain ⟨i, h3, rfl⟩ := List.mem_map.mp h2
    rw [List.mem_range'_1] at h3
    refine ⟨by rw [List.length_append, List.length_singleton, a], ?_⟩
    unfold lowest
    rw [List.getLast?_concat]
    show i + 1 ≤ L
    omega
def extD (L : Nat) (g : List Nat) : D → D := fun d => .tuple ((g.map fun i => PyData.int (i : Nat)) ++ [d])
theorem ext_D {L : Nat} {g : List Nat} : ((List.range' (lowest g) (L - lowest g)).map fun i => PyData.int (i : Nat)).map (extD L g) = (ext L g).map lotD := by
  unfold ext
  rw [List.map_map, List.map_map]
  refine List.map_congr_left fun i _ => ?_
  show PyData.tuple (_ ++ _) = PyData.tuple _
  rw [List.map_append]
  rfl
theorem flat_take {L s j : Nat} {g : List Nat} (h : (level L s)[j]? = some g) : ((level L s).take (j + 1)).flatMap (ext L) = ((level L s).take j).flatMap (ext L) ++ ext L g := by
  rw [List.take_add_one, h]
  simp
theorem flat_small {L s j : Nat} (h : L ≤ 6) (hs : s ≤ 6) : (((level L s).take j).flatMap (ext L)).length ≤ 20 := by
  have h1 := level_small (L := L) (i := s + 1) h (by omega)
  have h2 : level L (s + 1) = ((level L s).take j).flatMap (ext L) ++ ((level L s).drop j).flatMap (ext L) := by
    show (level L s).flatMap (ext L) = _
    rw [← List.flatMap_append, List.take_append_drop]
  rw [h2, List.length_append] at h1
  omega
def fromLv (L i k : Nat) : List (List Nat) := (List.range' i k).flatMap (level L)
theorem fromLv_succ {L i k : Nat} : fromLv L i (k + 1) = level L i ++ fromLv L (i + 1) k := by
  unfold fromLv
  rw [List.range'_succ, List.flatMap_cons]
theorem law_fewest_eq {n : Nat} {W : List Wi} (h : Va n W) (hl : W.length ≤ 6) : m__law_fewest [.int n, wsD W] = .ok (firstD ((allLv W.length).find? fun g => fz n (rest W g))) := by
  have hl5 : W.length ≤ 100000 := by omega
  have hll : W.length + 1 ≤ 100000 := by omega
  unfold m__law_fewest b__law_fewest
  refine mdef_of ?_
  simp -implicitDefEqProofs only [nr_seq, after_app, nr_nx, nr_rt, br_ok, nr_ite, Int.cast_ofNat_Int, Int.reduceEq, ne_eq, not_true_eq_false, not_false_eq_true, Bool.false_eq_true, if_false, Int.reduceLE, Int.reduceLT, Int.reduceNeg, Int.reduceSub, Int.reduceAdd, decide_eq_true_eq, Bool.or_false, Bool.or_true, true_or, or_true, or_false, false_or, decide_not, bne_self_eq_false, Option.some.injEq, startS, startH, startScr, List.map, List.cons_append, List.nil_append, List.append_nil, List.length_cons, List.length_nil, List.length_set, List.replicate_zero, List.replicate_succ, Nat.reduceAdd, Nat.reduceSub, Nat.reduceLT, Nat.reduceLeDiff, Nat.zero_add, Nat.reduceMul, and_self, and_true, true_and, if_true, reduceIte, decide_true, decide_false, Nat.lt_irrefl, sif, sset, mD, mL, mLL, mLL0, stg, gset, gtup, gcons, gnil, sret, sfl, sdrop, saug, mtest, mnot, mand, mor, mandV, morV, mnotV, mife, mcallQ, mcallH, mcall, mcallL, mcallS, mcallSL, mcons, mnil, mv, mc, mop, mopL, mun, misi, mfrz, mP, pv', pop, mchain, mtrue, mrevL, mit, mitems, mcallScr, mscr, scrOf, mlcomp, oAdd, oSub, oMul, oDiv, oMod, oPow, oLt, oLe, oGt, oGe, o2I, o2IC, oNeg, oIsN, oNotN, oIsB, oNotB, oLst, oTup, oTupS, oLenS, asInt2, spar, spar3, sput, smut, oApp, mixS, slotL, ownL, SV.fz, oItems, oItemsT, oIxT, oIxL, oTupOf, oListOf, oEnumT, oLen, on1, oInt, oAbs, oMax2, oMin2, gput, unwipe, wipeS, oldS, mcallS, oExt, sappL, sapp2, sput2, pix2, pixS, oCatT, oCat, mslT, mpart, mnopart, List.getElem?_cons_zero, List.getElem?_cons_succ, List.set_cons_zero, List.set_cons_succ, ownLL_0, ownLL_1, ownLL_2, ownLL_3, ownLL_4, Rs.bind_ok, toRs_some, lift_some, asInt_int, asList_list, asTup_tup, noErr_ok, obind_some, asBool_bool, Bool.not_true, Bool.not_false, isT, isNone_none, isNone_int, isNone_bool, isNone_tup, isNone_list, ifT, ifF]
  refine nr_fors (P := fun i st => ∃ X x3 x4 x5 x6 x7 x8, i ≤ W.length + 1 ∧ (X = SV.ol ((level W.length i).map lotD) ∨ X = SV.d (.list ((level W.length i).map lotD))) ∧
      (fromLv W.length i (W.length + 1 - i)).find? (fun g => fz n (rest W g)) = (allLv W.length).find? (fun g => fz n (rest W g)) ∧
      st = some (.d (.int n)) :: some (.d (wsD W)) :: some X :: x3 :: x4 :: x5 :: x6 :: x7 :: x8 :: []) (ds := rangeD 0 (W.length + 1)) ?_ ?_ ?_ ?_
  · simp -implicitDefEqProofs only [nr_seq, after_app, nr_nx, nr_rt, br_ok, nr_ite, Int.cast_ofNat_Int, Int.reduceEq, ne_eq, not_true_eq_false, not_false_eq_true, Bool.false_eq_true, if_false, Int.reduceLE, Int.reduceLT, Int.reduceNeg, Int.reduceSub, Int.reduceAdd, decide_eq_true_eq, Bool.or_false, Bool.or_true, true_or, or_true, or_false, false_or, decide_not, bne_self_eq_false, Option.some.injEq, startS, startH, startScr, List.map, List.cons_append, List.nil_append, List.append_nil, List.length_cons, List.length_nil, List.length_set, List.replicate_zero, List.replicate_succ, Nat.reduceAdd, Nat.reduceSub, Nat.reduceLT, Nat.reduceLeDiff, Nat.zero_add, Nat.reduceMul, and_self, and_true, true_and, if_true, reduceIte, decide_true, decide_false, Nat.lt_irrefl, sif, sset, mD, mL, mLL, mLL0, stg, gset, gtup, gcons, gnil, sret, sfl, sdrop, saug, mtest, mnot, mand, mor, mandV, morV, mnotV, mife, mcallQ, mcallH, mcall, mcallL, mcallS, mcallSL, mcons, mnil, mv, mc, mop, mopL, mun, misi, mfrz, mP, pv', pop, mchain, mtrue, mrevL, mit, mitems, mcallScr, mscr, scrOf, mlcomp, oAdd, oSub, oMul, oDiv, oMod, oPow, oLt, oLe, oGt, oGe, o2I, o2IC, oNeg, oIsN, oNotN, oIsB, oNotB, oLst, oTup, oTupS, oLenS, asInt2, spar, spar3, sput, smut, oApp, mixS, slotL, ownL, SV.fz, oItems, oItemsT, oIxT, oIxL, oTupOf, oListOf, oEnumT, oLen, on1, oInt, oAbs, oMax2, oMin2, gput, unwipe, wipeS, oldS, mcallS, oExt, sappL, sapp2, sput2, pix2, pixS, oCatT, oCat, mslT, mpart, mnopart, List.getElem?_cons_zero, List.getElem?_cons_succ, List.set_cons_zero, List.set_cons_succ, ownLL_0, ownLL_1, ownLL_2, ownLL_3, ownLL_4, Rs.bind_ok, toRs_some, lift_some, asInt_int, asList_list, asTup_tup, noErr_ok, obind_some, asBool_bool, Bool.not_true, Bool.not_false, isT, isNone_none, isNone_int, isNone_bool, isNone_tup, isNone_list, ifT, ifF, ws_len, range1_of (z := (W.length : Int) + 1) (k := W.length + 1) (by omega) hll]
  · exact ⟨_, _, _, _, _, _, _, Nat.zero_le _, .inl rfl, rfl, rfl⟩
  · rintro i d st hd ⟨X, x3, x4, x5, x6, x7, x8, hi, hX, hF, rfl⟩
    obtain ⟨hi, rfl⟩ := rangeD_get hd
    rw [show W.length + 1 - i = (W.length + 1 - (i + 1)) + 1 by omega, fromLv_succ, List.find?_append] at hF
    have hmv : ∀ tl : SD, mitems oItems (mv 2) (some (.d (.int n)) :: some (.d (wsD W)) :: some X :: tl) = .ok ((level W.length i).map lotD, some (.d (.int n)) :: some (.d (wsD W)) :: some (.d (.list ((level W.length i).map lotD))) :: tl) := by
      intro tl
      rcases hX with rfl | rfl
      · rfl
      · rfl
    unfold turn
    simp -implicitDefEqProofs only [nr_seq, after_app, nr_nx, nr_rt, br_ok, nr_ite, Int.cast_ofNat_Int, Int.reduceEq, ne_eq, not_true_eq_false, not_false_eq_true, Bool.false_eq_true, if_false, Int.reduceLE, Int.reduceLT, Int.reduceNeg, Int.reduceSub, Int.reduceAdd, decide_eq_true_eq, Bool.or_false, Bool.or_true, true_or, or_true, or_false, false_or, decide_not, bne_self_eq_false, Option.some.injEq, startS, startH, startScr, List.map, List.cons_append, List.nil_append, List.append_nil, List.length_cons, List.length_nil, List.length_set, List.replicate_zero, List.replicate_succ, Nat.reduceAdd, Nat.reduceSub, Nat.reduceLT, Nat.reduceLeDiff, Nat.zero_add, Nat.reduceMul, and_self, and_true, true_and, if_true, reduceIte, decide_true, decide_false, Nat.lt_irrefl, sif, sset, mD, mL, mLL, mLL0, stg, gset, gtup, gcons, gnil, sret, sfl, sdrop, saug, mtest, mnot, mand, mor, mandV, morV, mnotV, mife, mcallQ, mcallH, mcall, mcallL, mcallS, mcallSL, mcons, mnil, mv, mc, mop, mopL, mun, misi, mfrz, mP, pv', pop, mchain, mtrue, mrevL, mit, mitems, mcallScr, mscr, scrOf, mlcomp, oAdd, oSub, oMul, oDiv, oMod, oPow, oLt, oLe, oGt, oGe, o2I, o2IC, oNeg, oIsN, oNotN, oIsB, oNotB, oLst, oTup, oTupS, oLenS, asInt2, spar, spar3, sput, smut, oApp, mixS, slotL, ownL, SV.fz, oItems, oItemsT, oIxT, oIxL, oTupOf, oListOf, oEnumT, oLen, on1, oInt, oAbs, oMax2, oMin2, gput, unwipe, wipeS, oldS, mcallS, oExt, sappL, sapp2, sput2, pix2, pixS, oCatT, oCat, mslT, mpart, mnopart, List.getElem?_cons_zero, List.getElem?_cons_succ, List.set_cons_zero, List.set_cons_succ, ownLL_0, ownLL_1, ownLL_2, ownLL_3, ownLL_4, Rs.bind_ok, toRs_some, lift_some, asInt_int, asList_list, asTup_tup, noErr_ok, obind_some, asBool_bool, Bool.not_true, Bool.not_false, isT, isNone_none, isNone_int, isNone_bool, isNone_tup, isNone_list, ifT, ifF]
    refine nr_find (p := fun d => fz n (rest W (asLot d))) (r := fun d => d) (P := fun st => ∃ x3 x4 x5 x6 x7 x8, st = some (.d (.int n)) :: some (.d (wsD W)) :: some (.d (.list ((level W.length i).map lotD))) :: x3 :: x4 :: x5 :: x6 :: x7 :: x8 :: []) (hmv _) ⟨_, _, _, _, _, _, rfl⟩ ?_ ?_ ?_
    · rintro d st hd ⟨x3, x4, x5, x6, x7, x8, rfl⟩
      obtain ⟨g, hg, rfl⟩ := List.mem_map.mp hd
      rw [asLot_lot]
      have hr := shortest_eq (h.rest g)
      have key : NR (turn (gset 4) (sseq (sset 5 (mD (mcall oTupOf (mcons (mfrz (mlcomp (mit oEnumT (mcons (mv 1) mnil)) (gtup 2 (gcons (gset 7) (gcons (gset 8) gnil))) (mtest (mop (oIn true) (mv 7) (mv 4))) (mv 8) [7, 8])) mnil))))
          (sif (mtest (mop oNotN (mcallQ m__law_shortest (mcons (mv 0) (mcons (mv 5) mnil))) (mc .none))) (sret (mv 4)) (sfl .nx))) (lotD g)
          (some (.d (.int n)) :: some (.d (wsD W)) :: some (.d (.list ((level W.length i).map lotD))) :: x3 :: x4 :: x5 :: x6 :: x7 :: x8 :: []))
          (fun st => fz n (rest W g) = false ∧ ∃ x3 x4 x5 x6 x7 x8, st = some (.d (.int n)) :: some (.d (wsD W)) :: some (.d (.list ((level W.length i).map lotD))) :: x3 :: x4 :: x5 :: x6 :: x7 :: x8 :: [])
          (fun x _ => fz n (rest W g) = true ∧ x = lotD g) := by
        unfold turn
        simp -implicitDefEqProofs only [nr_seq, after_app, nr_nx, nr_rt, br_ok, nr_ite, Int.cast_ofNat_Int, Int.reduceEq, ne_eq, not_true_eq_false, not_false_eq_true, Bool.false_eq_true, if_false, Int.reduceLE, Int.reduceLT, Int.reduceNeg, Int.reduceSub, Int.reduceAdd, decide_eq_true_eq, Bool.or_false, Bool.or_true, true_or, or_true, or_false, false_or, decide_not, bne_self_eq_false, Option.some.injEq, startS, startH, startScr, List.map, List.cons_append, List.nil_append, List.append_nil, List.length_cons, List.length_nil, List.length_set, List.replicate_zero, List.replicate_succ, Nat.reduceAdd, Nat.reduceSub, Nat.reduceLT, Nat.reduceLeDiff, Nat.zero_add, Nat.reduceMul, and_self, and_true, true_and, if_true, reduceIte, decide_true, decide_false, Nat.lt_irrefl, sif, sset, mD, mL, mLL, mLL0, stg, gset, gtup, gcons, gnil, sret, sfl, sdrop, saug, mtest, mnot, mand, mor, mandV, morV, mnotV, mife, mcallQ, mcallH, mcall, mcallL, mcallS, mcallSL, mcons, mnil, mv, mc, mop, mopL, mun, misi, mfrz, mP, pv', pop, mchain, mtrue, mrevL, mit, mitems, mcallScr, mscr, scrOf, mlcomp, oAdd, oSub, oMul, oDiv, oMod, oPow, oLt, oLe, oGt, oGe, o2I, o2IC, oNeg, oIsN, oNotN, oIsB, oNotB, oLst, oTup, oTupS, oLenS, asInt2, spar, spar3, sput, smut, oApp, mixS, slotL, ownL, SV.fz, oItems, oItemsT, oIxT, oIxL, oTupOf, oListOf, oEnumT, oLen, on1, oInt, oAbs, oMax2, oMin2, gput, unwipe, wipeS, oldS, mcallS, oExt, sappL, sapp2, sput2, pix2, pixS, oCatT, oCat, mslT, mpart, mnopart, List.getElem?_cons_zero, List.getElem?_cons_succ, List.set_cons_zero, List.set_cons_succ, ownLL_0, ownLL_1, ownLL_2, ownLL_3, ownLL_4, Rs.bind_ok, toRs_some, lift_some, asInt_int, asList_list, asTup_tup, noErr_ok, obind_some, asBool_bool, Bool.not_true, Bool.not_false, isT, isNone_none, isNone_int, isNone_bool, isNone_tup, isNone_list, ifT, ifF, enum_len, ws_len, hl5]
        rw [mlc_eq (v := restV g) _ (fun d hd => ?_)]
        · cases hz : fz n (rest W g) with
          | true =>
            rw [hz, if_pos rfl] at hr
            unfold matL at hr
            simp -implicitDefEqProofs only [nr_seq, after_app, nr_nx, nr_rt, br_ok, nr_ite, Int.cast_ofNat_Int, Int.reduceEq, ne_eq, not_true_eq_false, not_false_eq_true, Bool.false_eq_true, if_false, Int.reduceLE, Int.reduceLT, Int.reduceNeg, Int.reduceSub, Int.reduceAdd, decide_eq_true_eq, Bool.or_false, Bool.or_true, true_or, or_true, or_false, false_or, decide_not, bne_self_eq_false, Option.some.injEq, startS, startH, startScr, List.map, List.cons_append, List.nil_append, List.append_nil, List.length_cons, List.length_nil, List.length_set, List.replicate_zero, List.replicate_succ, Nat.reduceAdd, Nat.reduceSub, Nat.reduceLT, Nat.reduceLeDiff, Nat.zero_add, Nat.reduceMul, and_self, and_true, true_and, if_true, reduceIte, decide_true, decide_false, Nat.lt_irrefl, sif, sset, mD, mL, mLL, mLL0, stg, gset, gtup, gcons, gnil, sret, sfl, sdrop, saug, mtest, mnot, mand, mor, mandV, morV, mnotV, mife, mcallQ, mcallH, mcall, mcallL, mcallS, mcallSL, mcons, mnil, mv, mc, mop, mopL, mun, misi, mfrz, mP, pv', pop, mchain, mtrue, mrevL, mit, mitems, mcallScr, mscr, scrOf, mlcomp, oAdd, oSub, oMul, oDiv, oMod, oPow, oLt, oLe, oGt, oGe, o2I, o2IC, oNeg, oIsN, oNotN, oIsB, oNotB, oLst, oTup, oTupS, oLenS, asInt2, spar, spar3, sput, smut, oApp, mixS, slotL, ownL, SV.fz, oItems, oItemsT, oIxT, oIxL, oTupOf, oListOf, oEnumT, oLen, on1, oInt, oAbs, oMax2, oMin2, gput, unwipe, wipeS, oldS, mcallS, oExt, sappL, sapp2, sput2, pix2, pixS, oCatT, oCat, mslT, mpart, mnopart, List.getElem?_cons_zero, List.getElem?_cons_succ, List.set_cons_zero, List.set_cons_succ, ownLL_0, ownLL_1, ownLL_2, ownLL_3, ownLL_4, Rs.bind_ok, toRs_some, lift_some, asInt_int, asList_list, asTup_tup, noErr_ok, obind_some, asBool_bool, Bool.not_true, Bool.not_false, isT, isNone_none, isNone_int, isNone_bool, isNone_tup, isNone_list, ifT, ifF, rest_D, hr]
          | false =>
            rw [hz, if_neg Bool.false_ne_true] at hr
            simp -implicitDefEqProofs only [nr_seq, after_app, nr_nx, nr_rt, br_ok, nr_ite, Int.cast_ofNat_Int, Int.reduceEq, ne_eq, not_true_eq_false, not_false_eq_true, Bool.false_eq_true, if_false, Int.reduceLE, Int.reduceLT, Int.reduceNeg, Int.reduceSub, Int.reduceAdd, decide_eq_true_eq, Bool.or_false, Bool.or_true, true_or, or_true, or_false, false_or, decide_not, bne_self_eq_false, Option.some.injEq, startS, startH, startScr, List.map, List.cons_append, List.nil_append, List.append_nil, List.length_cons, List.length_nil, List.length_set, List.replicate_zero, List.replicate_succ, Nat.reduceAdd, Nat.reduceSub, Nat.reduceLT, Nat.reduceLeDiff, Nat.zero_add, Nat.reduceMul, and_self, and_true, true_and, if_true, reduceIte, decide_true, decide_false, Nat.lt_irrefl, sif, sset, mD, mL, mLL, mLL0, stg, gset, gtup, gcons, gnil, sret, sfl, sdrop, saug, mtest, mnot, mand, mor, mandV, morV, mnotV, mife, mcallQ, mcallH, mcall, mcallL, mcallS, mcallSL, mcons, mnil, mv, mc, mop, mopL, mun, misi, mfrz, mP, pv', pop, mchain, mtrue, mrevL, mit, mitems, mcallScr, mscr, scrOf, mlcomp, oAdd, oSub, oMul, oDiv, oMod, oPow, oLt, oLe, oGt, oGe, o2I, o2IC, oNeg, oIsN, oNotN, oIsB, oNotB, oLst, oTup, oTupS, oLenS, asInt2, spar, spar3, sput, smut, oApp, mixS, slotL, ownL, SV.fz, oItems, oItemsT, oIxT, oIxL, oTupOf, oListOf, oEnumT, oLen, on1, oInt, oAbs, oMax2, oMin2, gput, unwipe, wipeS, oldS, mcallS, oExt, sappL, sapp2, sput2, pix2, pixS, oCatT, oCat, mslT, mpart, mnopart, List.getElem?_cons_zero, List.getElem?_cons_succ, List.set_cons_zero, List.set_cons_succ, ownLL_0, ownLL_1, ownLL_2, ownLL_3, ownLL_4, Rs.bind_ok, toRs_some, lift_some, asInt_int, asList_list, asTup_tup, noErr_ok, obind_some, asBool_bool, Bool.not_true, Bool.not_false, isT, isNone_none, isNone_int, isNone_bool, isNone_tup, isNone_list, ifT, ifF, rest_D, hr]
            exact ⟨_, _, _, _, _, _, rfl⟩
        · obtain ⟨i, hi⟩ := List.getElem?_of_mem hd
          obtain ⟨a, b, m, hw, rfl⟩ := enum_get hi
          unfold restV
          simp -implicitDefEqProofs only [nr_seq, after_app, nr_nx, nr_rt, br_ok, nr_ite, Int.cast_ofNat_Int, Int.reduceEq, ne_eq, not_true_eq_false, not_false_eq_true, Bool.false_eq_true, if_false, Int.reduceLE, Int.reduceLT, Int.reduceNeg, Int.reduceSub, Int.reduceAdd, decide_eq_true_eq, Bool.or_false, Bool.or_true, true_or, or_true, or_false, false_or, decide_not, bne_self_eq_false, Option.some.injEq, startS, startH, startScr, List.map, List.cons_append, List.nil_append, List.append_nil, List.length_cons, List.length_nil, List.length_set, List.replicate_zero, List.replicate_succ, Nat.reduceAdd, Nat.reduceSub, Nat.reduceLT, Nat.reduceLeDiff, Nat.zero_add, Nat.reduceMul, and_self, and_true, true_and, if_true, reduceIte, decide_true, decide_false, Nat.lt_irrefl, sif, sset, mD, mL, mLL, mLL0, stg, gset, gtup, gcons, gnil, sret, sfl, sdrop, saug, mtest, mnot, mand, mor, mandV, morV, mnotV, mife, mcallQ, mcallH, mcall, mcallL, mcallS, mcallSL, mcons, mnil, mv, mc, mop, mopL, mun, misi, mfrz, mP, pv', pop, mchain, mtrue, mrevL, mit, mitems, mcallScr, mscr, scrOf, mlcomp, oAdd, oSub, oMul, oDiv, oMod, oPow, oLt, oLe, oGt, oGe, o2I, o2IC, oNeg, oIsN, oNotN, oIsB, oNotB, oLst, oTup, oTupS, oLenS, asInt2, spar, spar3, sput, smut, oApp, mixS, slotL, ownL, SV.fz, oItems, oItemsT, oIxT, oIxL, oTupOf, oListOf, oEnumT, oLen, on1, oInt, oAbs, oMax2, oMin2, gput, unwipe, wipeS, oldS, mcallS, oExt, sappL, sapp2, sput2, pix2, pixS, oCatT, oCat, mslT, mpart, mnopart, List.getElem?_cons_zero, List.getElem?_cons_succ, List.set_cons_zero, List.set_cons_succ, ownLL_0, ownLL_1, ownLL_2, ownLL_3, ownLL_4, Rs.bind_ok, toRs_some, lift_some, asInt_int, asList_list, asTup_tup, noErr_ok, obind_some, asBool_bool, Bool.not_true, Bool.not_false, isT, isNone_none, isNone_int, isNone_bool, isNone_tup, isNone_list, ifT, ifF, oIn_lot, Int.toNat_natCast]
          cases g.contains i with
          | true => simp -implicitDefEqProofs only [nr_seq, after_app, nr_nx, nr_rt, br_ok, nr_ite, Int.cast_ofNat_Int, Int.reduceEq, ne_eq, not_true_eq_false, not_false_eq_true, Bool.false_eq_true, if_false, Int.reduceLE, Int.reduceLT, Int.reduceNeg, Int.reduceSub, Int.reduceAdd, decide_eq_true_eq, Bool.or_false, Bool.or_true, true_or, or_true, or_false, false_or, decide_not, bne_self_eq_false, Option.some.injEq, startS, startH, startScr, List.map, List.cons_append, List.nil_append, List.append_nil, List.length_cons, List.length_nil, List.length_set, List.replicate_zero, List.replicate_succ, Nat.reduceAdd, Nat.reduceSub, Nat.reduceLT, Nat.reduceLeDiff, Nat.zero_add, Nat.reduceMul, and_self, and_true, true_and, if_true, reduceIte, decide_true, decide_false, Nat.lt_irrefl, sif, sset, mD, mL, mLL, mLL0, stg, gset, gtup, gcons, gnil, sret, sfl, sdrop, saug, mtest, mnot, mand, mor, mandV, morV, mnotV, mife, mcallQ, mcallH, mcall, mcallL, mcallS, mcallSL, mcons, mnil, mv, mc, mop, mopL, mun, misi, mfrz, mP, pv', pop, mchain, mtrue, mrevL, mit, mitems, mcallScr, mscr, scrOf, mlcomp, oAdd, oSub, oMul, oDiv, oMod, oPow, oLt, oLe, oGt, oGe, o2I, o2IC, oNeg, oIsN, oNotN, oIsB, oNotB, oLst, oTup, oTupS, oLenS, asInt2, spar, spar3, sput, smut, oApp, mixS, slotL, ownL, SV.fz, oItems, oItemsT, oIxT, oIxL, oTupOf, oListOf, oEnumT, oLen, on1, oInt, oAbs, oMax2, oMin2, gput, unwipe, wipeS, oldS, mcallS, oExt, sappL, sapp2, sput2, pix2, pixS, oCatT, oCat, mslT, mpart, mnopart, List.getElem?_cons_zero, List.getElem?_cons_succ, List.set_cons_zero, List.set_cons_succ, ownLL_0, ownLL_1, ownLL_2, ownLL_3, ownLL_4, Rs.bind_ok, toRs_some, lift_some, asInt_int, asList_list, asTup_tup, noErr_ok, obind_some, asBool_bool, Bool.not_true, Bool.not_false, isT, isNone_none, isNone_int, isNone_bool, isNone_tup, isNone_list, ifT, ifF]
          | false => simp -implicitDefEqProofs only [nr_seq, after_app, nr_nx, nr_rt, br_ok, nr_ite, Int.cast_ofNat_Int, Int.reduceEq, ne_eq, not_true_eq_false, not_false_eq_true, Bool.false_eq_true, if_false, Int.reduceLE, Int.reduceLT, Int.reduceNeg, Int.reduceSub, Int.reduceAdd, decide_eq_true_eq, Bool.or_false, Bool.or_true, true_or, or_true, or_false, false_or, decide_not, bne_self_eq_false, Option.some.injEq, startS, startH, startScr, List.map, List.cons_append, List.nil_append, List.append_nil, List.length_cons, List.length_nil, List.length_set, List.replicate_zero, List.replicate_succ, Nat.reduceAdd, Nat.reduceSub, Nat.reduceLT, Nat.reduceLeDiff, Nat.zero_add, Nat.reduceMul, and_self, and_true, true_and, if_true, reduceIte, decide_true, decide_false, Nat.lt_irrefl, sif, sset, mD, mL, mLL, mLL0, stg, gset, gtup, gcons, gnil, sret, sfl, sdrop, saug, mtest, mnot, mand, mor, mandV, morV, mnotV, mife, mcallQ, mcallH, mcall, mcallL, mcallS, mcallSL, mcons, mnil, mv, mc, mop, mopL, mun, misi, mfrz, mP, pv', pop, mchain, mtrue, mrevL, mit, mitems, mcallScr, mscr, scrOf, mlcomp, oAdd, oSub, oMul, oDiv, oMod, oPow, oLt, oLe, oGt, oGe, o2I, o2IC, oNeg, oIsN, oNotN, oIsB, oNotB, oLst, oTup, oTupS, oLenS, asInt2, spar, spar3, sput, smut, oApp, mixS, slotL, ownL, SV.fz, oItems, oItemsT, oIxT, oIxL, oTupOf, oListOf, oEnumT, oLen, on1, oInt, oAbs, oMax2, oMin2, gput, unwipe, wipeS, oldS, mcallS, oExt, sappL, sapp2, sput2, pix2, pixS, oCatT, oCat, mslT, mpart, mnopart, List.getElem?_cons_zero, List.getElem?_cons_succ, List.set_cons_zero, List.set_cons_succ, ownLL_0, ownLL_1, ownLL_2, ownLL_3, ownLL_4, Rs.bind_ok, toRs_some, lift_some, asInt_int, asList_list, asTup_tup, noErr_ok, obind_some, asBool_bool, Bool.not_true, Bool.not_false, isT, isNone_none, isNone_int, isNone_bool, isNone_tup, isNone_list, ifT, ifF]
      constructor
      · intro hz
        exact key.mono (fun s hs => by rw [hz] at hs; cases hs.1) (fun d s hs => hs.2)
      · intro hz
        exact key.mono (fun s hs => hs.2) (fun d s hs => by rw [hz] at hs; cases hs.1)
    · intro hf st hst
      rw [find_map (q := fun g => fz n (rest W g)) (fun g => by rw [asLot_lot])] at hf
      obtain ⟨x3, x4, x5, x6, x7, x8, rfl⟩ := hst
      have hf2 : (level W.length i).find? (fun g => fz n (rest W g)) = none := by
        cases e : (level W.length i).find? (fun g => fz n (rest W g)) with
        | some g => rw [e] at hf; cases hf
        | none => rfl
      rw [hf2, Option.none_or] at hF
      simp -implicitDefEqProofs only [nr_seq, after_app, nr_nx, nr_rt, br_ok, nr_ite, Int.cast_ofNat_Int, Int.reduceEq, ne_eq, not_true_eq_false, not_false_eq_true, Bool.false_eq_true, if_false, Int.reduceLE, Int.reduceLT, Int.reduceNeg, Int.reduceSub, Int.reduceAdd, decide_eq_true_eq, Bool.or_false, Bool.or_true, true_or, or_true, or_false, false_or, decide_not, bne_self_eq_false, Option.some.injEq, startS, startH, startScr, List.map, List.cons_append, List.nil_append, List.append_nil, List.length_cons, List.length_nil, List.length_set, List.replicate_zero, List.replicate_succ, Nat.reduceAdd, Nat.reduceSub, Nat.reduceLT, Nat.reduceLeDiff, Nat.zero_add, Nat.reduceMul, and_self, and_true, true_and, if_true, reduceIte, decide_true, decide_false, Nat.lt_irrefl, sif, sset, mD, mL, mLL, mLL0, stg, gset, gtup, gcons, gnil, sret, sfl, sdrop, saug, mtest, mnot, mand, mor, mandV, morV, mnotV, mife, mcallQ, mcallH, mcall, mcallL, mcallS, mcallSL, mcons, mnil, mv, mc, mop, mopL, mun, misi, mfrz, mP, pv', pop, mchain, mtrue, mrevL, mit, mitems, mcallScr, mscr, scrOf, mlcomp, oAdd, oSub, oMul, oDiv, oMod, oPow, oLt, oLe, oGt, oGe, o2I, o2IC, oNeg, oIsN, oNotN, oIsB, oNotB, oLst, oTup, oTupS, oLenS, asInt2, spar, spar3, sput, smut, oApp, mixS, slotL, ownL, SV.fz, oItems, oItemsT, oIxT, oIxL, oTupOf, oListOf, oEnumT, oLen, on1, oInt, oAbs, oMax2, oMin2, gput, unwipe, wipeS, oldS, mcallS, oExt, sappL, sapp2, sput2, pix2, pixS, oCatT, oCat, mslT, mpart, mnopart, List.getElem?_cons_zero, List.getElem?_cons_succ, List.set_cons_zero, List.set_cons_succ, ownLL_0, ownLL_1, ownLL_2, ownLL_3, ownLL_4, Rs.bind_ok, toRs_some, lift_some, asInt_int, asList_list, asTup_tup, noErr_ok, obind_some, asBool_bool, Bool.not_true, Bool.not_false, isT, isNone_none, isNone_int, isNone_bool, isNone_tup, isNone_list, ifT, ifF]
      refine nr_fors (P := fun j st => ∃ x3 x4 x5 x7 x8, st = some (.d (.int n)) :: some (.d (wsD W)) :: some (.d (.list ((level W.length i).map lotD))) :: x3 :: x4 :: x5 :: some (.ol ((((level W.length i).take j).flatMap (ext W.length)).map lotD)) :: x7 :: x8 :: []) (ds := (level W.length i).map lotD) ?_ ⟨_, _, _, _, _, rfl⟩ ?_ ?_
      · simp -implicitDefEqProofs only [nr_seq, after_app, nr_nx, nr_rt, br_ok, nr_ite, Int.cast_ofNat_Int, Int.reduceEq, ne_eq, not_true_eq_false, not_false_eq_true, Bool.false_eq_true, if_false, Int.reduceLE, Int.reduceLT, Int.reduceNeg, Int.reduceSub, Int.reduceAdd, decide_eq_true_eq, Bool.or_false, Bool.or_true, true_or, or_true, or_false, false_or, decide_not, bne_self_eq_false, Option.some.injEq, startS, startH, startScr, List.map, List.cons_append, List.nil_append, List.append_nil, List.length_cons, List.length_nil, List.length_set, List.replicate_zero, List.replicate_succ, Nat.reduceAdd, Nat.reduceSub, Nat.reduceLT, Nat.reduceLeDiff, Nat.zero_add, Nat.reduceMul, and_self, and_true, true_and, if_true, reduceIte, decide_true, decide_false, Nat.lt_irrefl, sif, sset, mD, mL, mLL, mLL0, stg, gset, gtup, gcons, gnil, sret, sfl, sdrop, saug, mtest, mnot, mand, mor, mandV, morV, mnotV, mife, mcallQ, mcallH, mcall, mcallL, mcallS, mcallSL, mcons, mnil, mv, mc, mop, mopL, mun, misi, mfrz, mP, pv', pop, mchain, mtrue, mrevL, mit, mitems, mcallScr, mscr, scrOf, mlcomp, oAdd, oSub, oMul, oDiv, oMod, oPow, oLt, oLe, oGt, oGe, o2I, o2IC, oNeg, oIsN, oNotN, oIsB, oNotB, oLst, oTup, oTupS, oLenS, asInt2, spar, spar3, sput, smut, oApp, mixS, slotL, ownL, SV.fz, oItems, oItemsT, oIxT, oIxL, oTupOf, oListOf, oEnumT, oLen, on1, oInt, oAbs, oMax2, oMin2, gput, unwipe, wipeS, oldS, mcallS, oExt, sappL, sapp2, sput2, pix2, pixS, oCatT, oCat, mslT, mpart, mnopart, List.getElem?_cons_zero, List.getElem?_cons_succ, List.set_cons_zero, List.set_cons_succ, ownLL_0, ownLL_1, ownLL_2, ownLL_3, ownLL_4, Rs.bind_ok, toRs_some, lift_some, asInt_int, asList_list, asTup_tup, noErr_ok, obind_some, asBool_bool, Bool.not_true, Bool.not_false, isT, isNone_none, isNone_int, isNone_bool, isNone_tup, isNone_list, ifT, ifF]
      · rintro j d st hd ⟨x3, x4, x5, x7, x8, rfl⟩
        rw [List.getElem?_map] at hd
        cases hg : (level W.length i)[j]? with
        | none => rw [hg] at hd; cases hd
        | some g =>
        rw [hg] at hd
        cases hd
        rw [flat_take hg]
        have hsm := flat_small (L := W.length) (s := i) (j := j + 1) hl (by omega)
        rw [flat_take hg, List.length_append] at hsm
        obtain ⟨hg1, hg2⟩ := level_mem (List.mem_of_getElem? hg)
        have hr2 := range2_nat (a := lowest g) (b := W.length) hl5 (by omega)
        have hrl : (List.range' (lowest g) (W.length - lowest g)).length ≤ 100000 := by
          rw [List.length_range']; omega
        have h20 : (((level W.length i).take j).flatMap (ext W.length)).length + (ext W.length g).length < 100000 := by omega
        have h20' : ((((level W.length i).take j).flatMap (ext W.length)).map lotD).length + ((ext W.length g).map lotD).length < 100000 := by
          rw [List.length_map, List.length_map]; exact h20
        have gl5 : g.length + 1 ≤ 100000 := by omega
        have elem : ∀ d, d ∈ ((List.range' (lowest g) (W.length - lowest g)).map fun i => PyData.int (i : Nat)) → ∀ s : SD, True → True := fun _ _ _ _ => trivial
        rcases List.eq_nil_or_concat g with hgn | ⟨g', x, hgn⟩
        · have hlo : ((lowest g : Nat) : Int) = 0 := by rw [hgn]; rfl
          rw [hlo] at hr2
          have hg0 : ¬ (0 : Int) < (g.length : Int) := by rw [hgn]; simp
          unfold turn
          simp -implicitDefEqProofs only [nr_seq, after_app, nr_nx, nr_rt, br_ok, nr_ite, Int.cast_ofNat_Int, Int.reduceEq, ne_eq, not_true_eq_false, not_false_eq_true, Bool.false_eq_true, if_false, Int.reduceLE, Int.reduceLT, Int.reduceNeg, Int.reduceSub, Int.reduceAdd, decide_eq_true_eq, Bool.or_false, Bool.or_true, true_or, or_true, or_false, false_or, decide_not, bne_self_eq_false, Option.some.injEq, startS, startH, startScr, List.map, List.cons_append, List.nil_append, List.append_nil, List.length_cons, List.length_nil, List.length_set, List.replicate_zero, List.replicate_succ, Nat.reduceAdd, Nat.reduceSub, Nat.reduceLT, Nat.reduceLeDiff, Nat.zero_add, Nat.reduceMul, and_self, and_true, true_and, if_true, reduceIte, decide_true, decide_false, Nat.lt_irrefl, sif, sset, mD, mL, mLL, mLL0, stg, gset, gtup, gcons, gnil, sret, sfl, sdrop, saug, mtest, mnot, mand, mor, mandV, morV, mnotV, mife, mcallQ, mcallH, mcall, mcallL, mcallS, mcallSL, mcons, mnil, mv, mc, mop, mopL, mun, misi, mfrz, mP, pv', pop, mchain, mtrue, mrevL, mit, mitems, mcallScr, mscr, scrOf, mlcomp, oAdd, oSub, oMul, oDiv, oMod, oPow, oLt, oLe, oGt, oGe, o2I, o2IC, oNeg, oIsN, oNotN, oIsB, oNotB, oLst, oTup, oTupS, oLenS, asInt2, spar, spar3, sput, smut, oApp, mixS, slotL, ownL, SV.fz, oItems, oItemsT, oIxT, oIxL, oTupOf, oListOf, oEnumT, oLen, on1, oInt, oAbs, oMax2, oMin2, gput, unwipe, wipeS, oldS, mcallS, oExt, sappL, sapp2, sput2, pix2, pixS, oCatT, oCat, mslT, mpart, mnopart, List.getElem?_cons_zero, List.getElem?_cons_succ, List.set_cons_zero, List.set_cons_succ, ownLL_0, ownLL_1, ownLL_2, ownLL_3, ownLL_4, Rs.bind_ok, toRs_some, lift_some, asInt_int, asList_list, asTup_tup, noErr_ok, obind_some, asBool_bool, Bool.not_true, Bool.not_false, isT, isNone_none, isNone_int, isNone_bool, isNone_tup, isNone_list, ifT, ifF, lotD_len, hg0, ws_len, hr2, hrl]
          rw [mlc_all (v := extD W.length g) _ (fun d hd => ?_)]
          · simp -implicitDefEqProofs only [nr_seq, after_app, nr_nx, nr_rt, br_ok, nr_ite, Int.cast_ofNat_Int, Int.reduceEq, ne_eq, not_true_eq_false, not_false_eq_true, Bool.false_eq_true, if_false, Int.reduceLE, Int.reduceLT, Int.reduceNeg, Int.reduceSub, Int.reduceAdd, decide_eq_true_eq, Bool.or_false, Bool.or_true, true_or, or_true, or_false, false_or, decide_not, bne_self_eq_false, Option.some.injEq, startS, startH, startScr, List.map, List.cons_append, List.nil_append, List.append_nil, List.length_cons, List.length_nil, List.length_set, List.replicate_zero, List.replicate_succ, Nat.reduceAdd, Nat.reduceSub, Nat.reduceLT, Nat.reduceLeDiff, Nat.zero_add, Nat.reduceMul, and_self, and_true, true_and, if_true, reduceIte, decide_true, decide_false, Nat.lt_irrefl, sif, sset, mD, mL, mLL, mLL0, stg, gset, gtup, gcons, gnil, sret, sfl, sdrop, saug, mtest, mnot, mand, mor, mandV, morV, mnotV, mife, mcallQ, mcallH, mcall, mcallL, mcallS, mcallSL, mcons, mnil, mv, mc, mop, mopL, mun, misi, mfrz, mP, pv', pop, mchain, mtrue, mrevL, mit, mitems, mcallScr, mscr, scrOf, mlcomp, oAdd, oSub, oMul, oDiv, oMod, oPow, oLt, oLe, oGt, oGe, o2I, o2IC, oNeg, oIsN, oNotN, oIsB, oNotB, oLst, oTup, oTupS, oLenS, asInt2, spar, spar3, sput, smut, oApp, mixS, slotL, ownL, SV.fz, oItems, oItemsT, oIxT, oIxL, oTupOf, oListOf, oEnumT, oLen, on1, oInt, oAbs, oMax2, oMin2, gput, unwipe, wipeS, oldS, mcallS, oExt, sappL, sapp2, sput2, pix2, pixS, oCatT, oCat, mslT, mpart, mnopart, List.getElem?_cons_zero, List.getElem?_cons_succ, List.set_cons_zero, List.set_cons_succ, ownLL_0, ownLL_1, ownLL_2, ownLL_3, ownLL_4, Rs.bind_ok, toRs_some, lift_some, asInt_int, asList_list, asTup_tup, noErr_ok, obind_some, asBool_bool, Bool.not_true, Bool.not_false, isT, isNone_none, isNone_int, isNone_bool, isNone_tup, isNone_list, ifT, ifF, ext_D, h20']
            rw [← List.map_append]
            exact ⟨_, _, _, _, _, rfl⟩
          · unfold extD
            simp -implicitDefEqProofs only [nr_seq, after_app, nr_nx, nr_rt, br_ok, nr_ite, Int.cast_ofNat_Int, Int.reduceEq, ne_eq, not_true_eq_false, not_false_eq_true, Bool.false_eq_true, if_false, Int.reduceLE, Int.reduceLT, Int.reduceNeg, Int.reduceSub, Int.reduceAdd, decide_eq_true_eq, Bool.or_false, Bool.or_true, true_or, or_true, or_false, false_or, decide_not, bne_self_eq_false, Option.some.injEq, startS, startH, startScr, List.map, List.cons_append, List.nil_append, List.append_nil, List.length_cons, List.length_nil, List.length_set, List.replicate_zero, List.replicate_succ, Nat.reduceAdd, Nat.reduceSub, Nat.reduceLT, Nat.reduceLeDiff, Nat.zero_add, Nat.reduceMul, and_self, and_true, true_and, if_true, reduceIte, decide_true, decide_false, Nat.lt_irrefl, sif, sset, mD, mL, mLL, mLL0, stg, gset, gtup, gcons, gnil, sret, sfl, sdrop, saug, mtest, mnot, mand, mor, mandV, morV, mnotV, mife, mcallQ, mcallH, mcall, mcallL, mcallS, mcallSL, mcons, mnil, mv, mc, mop, mopL, mun, misi, mfrz, mP, pv', pop, mchain, mtrue, mrevL, mit, mitems, mcallScr, mscr, scrOf, mlcomp, oAdd, oSub, oMul, oDiv, oMod, oPow, oLt, oLe, oGt, oGe, o2I, o2IC, oNeg, oIsN, oNotN, oIsB, oNotB, oLst, oTup, oTupS, oLenS, asInt2, spar, spar3, sput, smut, oApp, mixS, slotL, ownL, SV.fz, oItems, oItemsT, oIxT, oIxL, oTupOf, oListOf, oEnumT, oLen, on1, oInt, oAbs, oMax2, oMin2, gput, unwipe, wipeS, oldS, mcallS, oExt, sappL, sapp2, sput2, pix2, pixS, oCatT, oCat, mslT, mpart, mnopart, List.getElem?_cons_zero, List.getElem?_cons_succ, List.set_cons_zero, List.set_cons_succ, ownLL_0, ownLL_1, ownLL_2, ownLL_3, ownLL_4, Rs.bind_ok, toRs_some, lift_some, asInt_int, asList_list, asTup_tup, noErr_ok, obind_some, asBool_bool, Bool.not_true, Bool.not_false, isT, isNone_none, isNone_int, isNone_bool, isNone_tup, isNone_list, ifT, ifF, lotD_len, gl5]
        · have hlo : ((lowest g : Nat) : Int) = (x : Int) + 1 := by
            rw [hgn, List.concat_eq_append]
            unfold lowest
            rw [List.getLast?_concat]
            rfl
          rw [hlo] at hr2
          have hg0 : (0 : Int) < (g.length : Int) := by rw [hgn]; simp
          have hla : atI (g.map fun i => PyData.int (i : Nat)) (-1) = some (.int x) := by rw [hgn, List.concat_eq_append]; exact last_eq
          unfold turn
          simp -implicitDefEqProofs only [nr_seq, after_app, nr_nx, nr_rt, br_ok, nr_ite, Int.cast_ofNat_Int, Int.reduceEq, ne_eq, not_true_eq_false, not_false_eq_true, Bool.false_eq_true, if_false, Int.reduceLE, Int.reduceLT, Int.reduceNeg, Int.reduceSub, Int.reduceAdd, decide_eq_true_eq, Bool.or_false, Bool.or_true, true_or, or_true, or_false, false_or, decide_not, bne_self_eq_false, Option.some.injEq, startS, startH, startScr, List.map, List.cons_append, List.nil_append, List.append_nil, List.length_cons, List.length_nil, List.length_set, List.replicate_zero, List.replicate_succ, Nat.reduceAdd, Nat.reduceSub, Nat.reduceLT, Nat.reduceLeDiff, Nat.zero_add, Nat.reduceMul, and_self, and_true, true_and, if_true, reduceIte, decide_true, decide_false, Nat.lt_irrefl, sif, sset, mD, mL, mLL, mLL0, stg, gset, gtup, gcons, gnil, sret, sfl, sdrop, saug, mtest, mnot, mand, mor, mandV, morV, mnotV, mife, mcallQ, mcallH, mcall, mcallL, mcallS, mcallSL, mcons, mnil, mv, mc, mop, mopL, mun, misi, mfrz, mP, pv', pop, mchain, mtrue, mrevL, mit, mitems, mcallScr, mscr, scrOf, mlcomp, oAdd, oSub, oMul, oDiv, oMod, oPow, oLt, oLe, oGt, oGe, o2I, o2IC, oNeg, oIsN, oNotN, oIsB, oNotB, oLst, oTup, oTupS, oLenS, asInt2, spar, spar3, sput, smut, oApp, mixS, slotL, ownL, SV.fz, oItems, oItemsT, oIxT, oIxL, oTupOf, oListOf, oEnumT, oLen, on1, oInt, oAbs, oMax2, oMin2, gput, unwipe, wipeS, oldS, mcallS, oExt, sappL, sapp2, sput2, pix2, pixS, oCatT, oCat, mslT, mpart, mnopart, List.getElem?_cons_zero, List.getElem?_cons_succ, List.set_cons_zero, List.set_cons_succ, ownLL_0, ownLL_1, ownLL_2, ownLL_3, ownLL_4, Rs.bind_ok, toRs_some, lift_some, asInt_int, asList_list, asTup_tup, noErr_ok, obind_some, asBool_bool, Bool.not_true, Bool.not_false, isT, isNone_none, isNone_int, isNone_bool, isNone_tup, isNone_list, ifT, ifF, lotD_len, hg0, hla, ws_len, hr2, hrl]
          rw [mlc_all (v := extD W.length g) _ (fun d hd => ?_)]
          · simp -implicitDefEqProofs only [nr_seq, after_app, nr_nx, nr_rt, br_ok, nr_ite, Int.cast_ofNat_Int, Int.reduceEq, ne_eq, not_true_eq_false, not_false_eq_true, Bool.false_eq_true, if_false, Int.reduceLE, Int.reduceLT, Int.reduceNeg, Int.reduceSub, Int.reduceAdd, decide_eq_true_eq, Bool.or_false, Bool.or_true, true_or, or_true, or_false, false_or, decide_not, bne_self_eq_false, Option.some.injEq, startS, startH, startScr, List.map, List.cons_append, List.nil_append, List.append_nil, List.length_cons, List.length_nil, List.length_set, List.replicate_zero, List.replicate_succ, Nat.reduceAdd, Nat.reduceSub, Nat.reduceLT, Nat.reduceLeDiff, Nat.zero_add, Nat.reduceMul, and_self, and_true, true_and, if_true, reduceIte, decide_true, decide_false, Nat.lt_irrefl, sif, sset, mD, mL, mLL, mLL0, stg, gset, gtup, gcons, gnil, sret, sfl, sdrop, saug, mtest, mnot, mand, mor, mandV, morV, mnotV, mife, mcallQ, mcallH, mcall, mcallL, mcallS, mcallSL, mcons, mnil, mv, mc, mop, mopL, mun, misi, mfrz, mP, pv', pop, mchain, mtrue, mrevL, mit, mitems, mcallScr, mscr, scrOf, mlcomp, oAdd, oSub, oMul, oDiv, oMod, oPow, oLt, oLe, oGt, oGe, o2I, o2IC, oNeg, oIsN, oNotN, oIsB, oNotB, oLst, oTup, oTupS, oLenS, asInt2, spar, spar3, sput, smut, oApp, mixS, slotL, ownL, SV.fz, oItems, oItemsT, oIxT, oIxL, oTupOf, oListOf, oEnumT, oLen, on1, oInt, oAbs, oMax2, oMin2, gput, unwipe, wipeS, oldS, mcallS, oExt, sappL, sapp2, sput2, pix2, pixS, oCatT, oCat, mslT, mpart, mnopart, List.getElem?_cons_zero, List.getElem?_cons_succ, List.set_cons_zero, List.set_cons_succ, ownLL_0, ownLL_1, ownLL_2, ownLL_3, ownLL_4, Rs.bind_ok, toRs_some, lift_some, asInt_int, asList_list, asTup_tup, noErr_ok, obind_some, asBool_bool, Bool.not_true, Bool.not_false, isT, isNone_none, isNone_int, isNone_bool, isNone_tup, isNone_list, ifT, ifF, ext_D, h20']
            rw [← List.map_append]
            exact ⟨_, _, _, _, _, rfl⟩
          · unfold extD
            simp -implicitDefEqProofs only [nr_seq, after_app, nr_nx, nr_rt, br_ok, nr_ite, Int.cast_ofNat_Int, Int.reduceEq, ne_eq, not_true_eq_false, not_false_eq_true, Bool.false_eq_true, if_false, Int.reduceLE, Int.reduceLT, Int.reduceNeg, Int.reduceSub, Int.reduceAdd, decide_eq_true_eq, Bool.or_false, Bool.or_true, true_or, or_true, or_false, false_or, decide_not, bne_self_eq_false, Option.some.injEq, startS, startH, startScr, List.map, List.cons_append, List.nil_append, List.append_nil, List.length_cons, List.length_nil, List.length_set, List.replicate_zero, List.replicate_succ, Nat.reduceAdd, Nat.reduceSub, Nat.reduceLT, Nat.reduceLeDiff, Nat.zero_add, Nat.reduceMul, and_self, and_true, true_and, if_true, reduceIte, decide_true, decide_false, Nat.lt_irrefl, sif, sset, mD, mL, mLL, mLL0, stg, gset, gtup, gcons, gnil, sret, sfl, sdrop, saug, mtest, mnot, mand, mor, mandV, morV, mnotV, mife, mcallQ, mcallH, mcall, mcallL, mcallS, mcallSL, mcons, mnil, mv, mc, mop, mopL, mun, misi, mfrz, mP, pv', pop, mchain, mtrue, mrevL, mit, mitems, mcallScr, mscr, scrOf, mlcomp, oAdd, oSub, oMul, oDiv, oMod, oPow, oLt, oLe, oGt, oGe, o2I, o2IC, oNeg, oIsN, oNotN, oIsB, oNotB, oLst, oTup, oTupS, oLenS, asInt2, spar, spar3, sput, smut, oApp, mixS, slotL, ownL, SV.fz, oItems, oItemsT, oIxT, oIxL, oTupOf, oListOf, oEnumT, oLen, on1, oInt, oAbs, oMax2, oMin2, gput, unwipe, wipeS, oldS, mcallS, oExt, sappL, sapp2, sput2, pix2, pixS, oCatT, oCat, mslT, mpart, mnopart, List.getElem?_cons_zero, List.getElem?_cons_succ, List.set_cons_zero, List.set_cons_succ, ownLL_0, ownLL_1, ownLL_2, ownLL_3, ownLL_4, Rs.bind_ok, toRs_some, lift_some, asInt_int, asList_list, asTup_tup, noErr_ok, obind_some, asBool_bool, Bool.not_true, Bool.not_false, isT, isNone_none, isNone_int, isNone_bool, isNone_tup, isNone_list, ifT, ifF, lotD_len, gl5]
      · rintro st ⟨x3, x4, x5, x7, x8, rfl⟩
        rw [List.length_map, List.take_length]
        simp -implicitDefEqProofs only [nr_seq, after_app, nr_nx, nr_rt, br_ok, nr_ite, Int.cast_ofNat_Int, Int.reduceEq, ne_eq, not_true_eq_false, not_false_eq_true, Bool.false_eq_true, if_false, Int.reduceLE, Int.reduceLT, Int.reduceNeg, Int.reduceSub, Int.reduceAdd, decide_eq_true_eq, Bool.or_false, Bool.or_true, true_or, or_true, or_false, false_or, decide_not, bne_self_eq_false, Option.some.injEq, startS, startH, startScr, List.map, List.cons_append, List.nil_append, List.append_nil, List.length_cons, List.length_nil, List.length_set, List.replicate_zero, List.replicate_succ, Nat.reduceAdd, Nat.reduceSub, Nat.reduceLT, Nat.reduceLeDiff, Nat.zero_add, Nat.reduceMul, and_self, and_true, true_and, if_true, reduceIte, decide_true, decide_false, Nat.lt_irrefl, sif, sset, mD, mL, mLL, mLL0, stg, gset, gtup, gcons, gnil, sret, sfl, sdrop, saug, mtest, mnot, mand, mor, mandV, morV, mnotV, mife, mcallQ, mcallH, mcall, mcallL, mcallS, mcallSL, mcons, mnil, mv, mc, mop, mopL, mun, misi, mfrz, mP, pv', pop, mchain, mtrue, mrevL, mit, mitems, mcallScr, mscr, scrOf, mlcomp, oAdd, oSub, oMul, oDiv, oMod, oPow, oLt, oLe, oGt, oGe, o2I, o2IC, oNeg, oIsN, oNotN, oIsB, oNotB, oLst, oTup, oTupS, oLenS, asInt2, spar, spar3, sput, smut, oApp, mixS, slotL, ownL, SV.fz, oItems, oItemsT, oIxT, oIxL, oTupOf, oListOf, oEnumT, oLen, on1, oInt, oAbs, oMax2, oMin2, gput, unwipe, wipeS, oldS, mcallS, oExt, sappL, sapp2, sput2, pix2, pixS, oCatT, oCat, mslT, mpart, mnopart, List.getElem?_cons_zero, List.getElem?_cons_succ, List.set_cons_zero, List.set_cons_succ, ownLL_0, ownLL_1, ownLL_2, ownLL_3, ownLL_4, Rs.bind_ok, toRs_some, lift_some, asInt_int, asList_list, asTup_tup, noErr_ok, obind_some, asBool_bool, Bool.not_true, Bool.not_false, isT, isNone_none, isNone_int, isNone_bool, isNone_tup, isNone_list, ifT, ifF]
        exact ⟨_, _, _, _, _, _, _, by omega, .inr rfl, hF, rfl⟩
    · intro d hf st
      rw [find_map (q := fun g => fz n (rest W g)) (fun g => by rw [asLot_lot])] at hf
      cases hf2 : (level W.length i).find? (fun g => fz n (rest W g)) with
      | none => rw [hf2] at hf; cases hf
      | some g =>
        rw [hf2] at hf
        cases hf
        rw [hf2] at hF
        rw [← hF]
        rfl
  · rintro st ⟨X, x3, x4, x5, x6, x7, x8, hi, hX, hF, rfl⟩
    rw [rangeD_len, Nat.sub_self] at hF
    have hF : (allLv W.length).find? (fun g => fz n (rest W g)) = none := by rw [← hF]; rfl
    rw [hF]
    simp -implicitDefEqProofs only [nr_seq, after_app, nr_nx, nr_rt, br_ok, nr_ite, Int.cast_ofNat_Int, Int.reduceEq, ne_eq, not_true_eq_false, not_false_eq_true, Bool.false_eq_true, if_false, Int.reduceLE, Int.reduceLT, Int.reduceNeg, Int.reduceSub, Int.reduceAdd, decide_eq_true_eq, Bool.or_false, Bool.or_true, true_or, or_true, or_false, false_or, decide_not, bne_self_eq_false, Option.some.injEq, startS, startH, startScr, List.map, List.cons_append, List.nil_append, List.append_nil, List.length_cons, List.length_nil, List.length_set, List.replicate_zero, List.replicate_succ, Nat.reduceAdd, Nat.reduceSub, Nat.reduceLT, Nat.reduceLeDiff, Nat.zero_add, Nat.reduceMul, and_self, and_true, true_and, if_true, reduceIte, decide_true, decide_false, Nat.lt_irrefl, sif, sset, mD, mL, mLL, mLL0, stg, gset, gtup, gcons, gnil, sret, sfl, sdrop, saug, mtest, mnot, mand, mor, mandV, morV, mnotV, mife, mcallQ, mcallH, mcall, mcallL, mcallS, mcallSL, mcons, mnil, mv, mc, mop, mopL, mun, misi, mfrz, mP, pv', pop, mchain, mtrue, mrevL, mit, mitems, mcallScr, mscr, scrOf, mlcomp, oAdd, oSub, oMul, oDiv, oMod, oPow, oLt, oLe, oGt, oGe, o2I, o2IC, oNeg, oIsN, oNotN, oIsB, oNotB, oLst, oTup, oTupS, oLenS, asInt2, spar, spar3, sput, smut, oApp, mixS, slotL, ownL, SV.fz, oItems, oItemsT, oIxT, oIxL, oTupOf, oListOf, oEnumT, oLen, on1, oInt, oAbs, oMax2, oMin2, gput, unwipe, wipeS, oldS, mcallS, oExt, sappL, sapp2, sput2, pix2, pixS, oCatT, oCat, mslT, mpart, mnopart, List.getElem?_cons_zero, List.getElem?_cons_succ, List.set_cons_zero, List.set_cons_succ, ownLL_0, ownLL_1, ownLL_2, ownLL_3, ownLL_4, Rs.bind_ok, toRs_some, lift_some, asInt_int, asList_list, asTup_tup, noErr_ok, obind_some, asBool_bool, Bool.not_true, Bool.not_false, isT, isNone_none, isNone_int, isNone_bool, isNone_tup, isNone_list, ifT, ifF]
    rfl
end K39
namespace K39
open PySem L2 Evl Mir Wsh
abbrev handL (cells : List Int) (pos left mix cnt : Int) : List D := [.list (cells.map .int), .int pos, .int left, .int mix, .int cnt]
def HandOk (l : List D) : Prop := ∃ cells pos left mix cnt, l = handL cells pos left mix cnt ∧ 0 ≤ pos
theorem at3 {a b c d : D} {l : List D} : atI (a :: b :: c :: d :: l) 3 = some d := by
  unfold atI ixN
  rw [if_pos (by omega), if_pos (by simp only [List.length_cons]; omega)]
  rfl
theorem at4 {a b c d e : D} {l : List D} : atI (a :: b :: c :: d :: e :: l) 4 = some e := by
  unfold atI ixN
  rw [if_pos (by omega), if_pos (by simp only [List.length_cons]; omega)]
  rfl
theorem ix51 : ixN 5 1 = some 1 := by rfl
theorem ix52 : ixN 5 2 = some 2 := by rfl
theorem ix53 : ixN 5 3 = some 3 := by rfl
theorem ix54 : ixN 5 4 = some 4 := by rfl
theorem cMul_r {i j : Int} (h : -18446744073709551616 < j ∧ j < 18446744073709551616) : cMul i j = true := by
  unfold cMul
  exact decide_eq_true (.inr ⟨h.1, h.2⟩)
theorem cMul_l {i j : Int} (h : -18446744073709551616 < i ∧ i < 18446744073709551616) : cMul i j = true := by
  unfold cMul
  exact decide_eq_true (.inl ⟨h.1, h.2⟩)
theorem cMul_mod {a j : Int} : cMul (a % 2147483647) j = true := cMul_l (by omega)
theorem cPow_ten : cPow 10 18 = true := by decide +kernel
theorem cell_at {cells : List Int} {pos : Int} (h0 : 0 ≤ pos) (h : pos < (cells.length : Int)) : ∃ c : Int, atI (cells.map PyData.int) pos = some (.int c) := by
  obtain ⟨k, rfl⟩ : ∃ k : Nat, pos = k := ⟨pos.toNat, by omega⟩
  have hk : k < cells.length := by omega
  exact ⟨cells[k], atI_get (by rw [List.getElem?_map, List.getElem?_eq_getElem hk]; rfl)⟩
theorem mod_nat (z : Int) {m : Nat} (h : 0 < m) : ∃ r : Nat, PyData.int (z % (m : Int)) = PyData.int (r : Nat) ∧ r < m := by
  have h1 := Int.emod_nonneg z (b := (m : Int)) (by omega)
  have h2 := Int.emod_lt_of_pos z (b := (m : Int)) (by omega)
  exact ⟨(z % (m : Int)).toNat, by rw [Int.toNat_of_nonneg h1], by omega⟩
theorem draw_ok {l : List D} (h : HandOk l) {many : Nat} (hm : 0 < many) (hm2 : many < 1000000) : ∃ d l', m__law_draw l [.int many] = .ok (d, l') ∧ ∃ r : Nat, d = .int r ∧ r < many ∧ HandOk l' := by
  obtain ⟨cells, pos, left, mix, cnt, rfl, h0⟩ := h
  have hm1 : (0 : Int) < (many : Int) := by omega
  have hm3 : (many : Int) < 1073741824 := by omega
  unfold m__law_draw b__law_draw
  refine mdefH_of (Z := fun d l' => ∃ r : Nat, d = .int r ∧ r < many ∧ HandOk l') ?_
  refine nr_cut (fun st => ∃ pos left mix x2, 0 ≤ pos ∧ st = [some (.ol (handL cells pos left mix cnt)), some (.d (.int many)), x2, none, none]) ?_ ?_
  · by_cases c1 : left = 0
    · by_cases c2 : pos < (cells.length : Int)
      · obtain ⟨c, hc⟩ := cell_at h0 c2
        by_cases c3 : (10 : Int) ^ (Int.toNat 18) ≤ c
        · simp -implicitDefEqProofs only [nr_seq, after_app, nr_nx, nr_rt, br_ok, nr_ite, Int.cast_ofNat_Int, Int.reduceEq, ne_eq, not_true_eq_false, not_false_eq_true, Bool.false_eq_true, if_false, Int.reduceLE, Int.reduceLT, Int.reduceNeg, Int.reduceSub, Int.reduceAdd, decide_eq_true_eq, Bool.or_false, Bool.or_true, true_or, or_true, or_false, false_or, decide_not, bne_self_eq_false, Option.some.injEq, startS, startH, startScr, List.map, List.cons_append, List.nil_append, List.append_nil, List.length_cons, List.length_nil, List.length_set, List.replicate_zero, List.replicate_succ, Nat.reduceAdd, Nat.reduceSub, Nat.reduceLT, Nat.reduceLeDiff, Nat.zero_add, Nat.reduceMul, and_self, and_true, true_and, if_true, reduceIte, decide_true, decide_false, Nat.lt_irrefl, sif, sset, mD, mL, mLL, mLL0, stg, gset, gtup, gcons, gnil, sret, sfl, sdrop, saug, mtest, mnot, mand, mor, mandV, morV, mnotV, mife, mcallQ, mcallH, mcall, mcallL, mcallS, mcallSL, mcons, mnil, mv, mc, mop, mopL, mun, misi, mfrz, mP, pv', pop, mchain, mtrue, mrevL, mit, mitems, mcallScr, mscr, scrOf, mlcomp, oAdd, oSub, oMul, oDiv, oMod, oPow, oLt, oLe, oGt, oGe, o2I, o2IC, oNeg, oIsN, oNotN, oIsB, oNotB, oLst, oTup, oTupS, oLenS, asInt2, spar, spar3, sput, smut, oApp, mixS, slotL, ownL, SV.fz, oItems, oItemsT, oIxT, oIxL, oTupOf, oListOf, oEnumT, oLen, on1, oInt, oAbs, oMax2, oMin2, gput, unwipe, wipeS, oldS, mcallS, oExt, sappL, sapp2, sput2, pix2, pixS, oCatT, oCat, mslT, mpart, mnopart, List.getElem?_cons_zero, List.getElem?_cons_succ, List.set_cons_zero, List.set_cons_succ, ownLL_0, ownLL_1, ownLL_2, ownLL_3, ownLL_4, Rs.bind_ok, toRs_some, lift_some, asInt_int, asList_list, asTup_tup, noErr_ok, obind_some, asBool_bool, Bool.not_true, Bool.not_false, isT, isNone_none, isNone_int, isNone_bool, isNone_tup, isNone_list, ifT, ifF, at0, at1, at2, at3, at4, oEq_int, c1, c2, List.length_map, hc, ix51, ix52, ix53, ix54, cMul_r, cMod, cPow_ten, c3]
          exact ⟨_, _, _, _, by omega, rfl⟩
        · simp -implicitDefEqProofs only [nr_seq, after_app, nr_nx, nr_rt, br_ok, nr_ite, Int.cast_ofNat_Int, Int.reduceEq, ne_eq, not_true_eq_false, not_false_eq_true, Bool.false_eq_true, if_false, Int.reduceLE, Int.reduceLT, Int.reduceNeg, Int.reduceSub, Int.reduceAdd, decide_eq_true_eq, Bool.or_false, Bool.or_true, true_or, or_true, or_false, false_or, decide_not, bne_self_eq_false, Option.some.injEq, startS, startH, startScr, List.map, List.cons_append, List.nil_append, List.append_nil, List.length_cons, List.length_nil, List.length_set, List.replicate_zero, List.replicate_succ, Nat.reduceAdd, Nat.reduceSub, Nat.reduceLT, Nat.reduceLeDiff, Nat.zero_add, Nat.reduceMul, and_self, and_true, true_and, if_true, reduceIte, decide_true, decide_false, Nat.lt_irrefl, sif, sset, mD, mL, mLL, mLL0, stg, gset, gtup, gcons, gnil, sret, sfl, sdrop, saug, mtest, mnot, mand, mor, mandV, morV, mnotV, mife, mcallQ, mcallH, mcall, mcallL, mcallS, mcallSL, mcons, mnil, mv, mc, mop, mopL, mun, misi, mfrz, mP, pv', pop, mchain, mtrue, mrevL, mit, mitems, mcallScr, mscr, scrOf, mlcomp, oAdd, oSub, oMul, oDiv, oMod, oPow, oLt, oLe, oGt, oGe, o2I, o2IC, oNeg, oIsN, oNotN, oIsB, oNotB, oLst, oTup, oTupS, oLenS, asInt2, spar, spar3, sput, smut, oApp, mixS, slotL, ownL, SV.fz, oItems, oItemsT, oIxT, oIxL, oTupOf, oListOf, oEnumT, oLen, on1, oInt, oAbs, oMax2, oMin2, gput, unwipe, wipeS, oldS, mcallS, oExt, sappL, sapp2, sput2, pix2, pixS, oCatT, oCat, mslT, mpart, mnopart, List.getElem?_cons_zero, List.getElem?_cons_succ, List.set_cons_zero, List.set_cons_succ, ownLL_0, ownLL_1, ownLL_2, ownLL_3, ownLL_4, Rs.bind_ok, toRs_some, lift_some, asInt_int, asList_list, asTup_tup, noErr_ok, obind_some, asBool_bool, Bool.not_true, Bool.not_false, isT, isNone_none, isNone_int, isNone_bool, isNone_tup, isNone_list, ifT, ifF, at0, at1, at2, at3, at4, oEq_int, c1, c2, List.length_map, hc, ix51, ix52, ix53, ix54, cMul_r, cMod, cPow_ten, c3]
          exact ⟨_, _, _, _, by omega, rfl⟩
      · simp -implicitDefEqProofs only [nr_seq, after_app, nr_nx, nr_rt, br_ok, nr_ite, Int.cast_ofNat_Int, Int.reduceEq, ne_eq, not_true_eq_false, not_false_eq_true, Bool.false_eq_true, if_false, Int.reduceLE, Int.reduceLT, Int.reduceNeg, Int.reduceSub, Int.reduceAdd, decide_eq_true_eq, Bool.or_false, Bool.or_true, true_or, or_true, or_false, false_or, decide_not, bne_self_eq_false, Option.some.injEq, startS, startH, startScr, List.map, List.cons_append, List.nil_append, List.append_nil, List.length_cons, List.length_nil, List.length_set, List.replicate_zero, List.replicate_succ, Nat.reduceAdd, Nat.reduceSub, Nat.reduceLT, Nat.reduceLeDiff, Nat.zero_add, Nat.reduceMul, and_self, and_true, true_and, if_true, reduceIte, decide_true, decide_false, Nat.lt_irrefl, sif, sset, mD, mL, mLL, mLL0, stg, gset, gtup, gcons, gnil, sret, sfl, sdrop, saug, mtest, mnot, mand, mor, mandV, morV, mnotV, mife, mcallQ, mcallH, mcall, mcallL, mcallS, mcallSL, mcons, mnil, mv, mc, mop, mopL, mun, misi, mfrz, mP, pv', pop, mchain, mtrue, mrevL, mit, mitems, mcallScr, mscr, scrOf, mlcomp, oAdd, oSub, oMul, oDiv, oMod, oPow, oLt, oLe, oGt, oGe, o2I, o2IC, oNeg, oIsN, oNotN, oIsB, oNotB, oLst, oTup, oTupS, oLenS, asInt2, spar, spar3, sput, smut, oApp, mixS, slotL, ownL, SV.fz, oItems, oItemsT, oIxT, oIxL, oTupOf, oListOf, oEnumT, oLen, on1, oInt, oAbs, oMax2, oMin2, gput, unwipe, wipeS, oldS, mcallS, oExt, sappL, sapp2, sput2, pix2, pixS, oCatT, oCat, mslT, mpart, mnopart, List.getElem?_cons_zero, List.getElem?_cons_succ, List.set_cons_zero, List.set_cons_succ, ownLL_0, ownLL_1, ownLL_2, ownLL_3, ownLL_4, Rs.bind_ok, toRs_some, lift_some, asInt_int, asList_list, asTup_tup, noErr_ok, obind_some, asBool_bool, Bool.not_true, Bool.not_false, isT, isNone_none, isNone_int, isNone_bool, isNone_tup, isNone_list, ifT, ifF, at0, at1, at2, at3, at4, oEq_int, c1, c2, List.length_map]
        exact ⟨_, _, _, _, h0, rfl⟩
    · simp -implicitDefEqProofs only [nr_seq, after_app, nr_nx, nr_rt, br_ok, nr_ite, Int.cast_ofNat_Int, Int.reduceEq, ne_eq, not_true_eq_false, not_false_eq_true, Bool.false_eq_true, if_false, Int.reduceLE, Int.reduceLT, Int.reduceNeg, Int.reduceSub, Int.reduceAdd, decide_eq_true_eq, Bool.or_false, Bool.or_true, true_or, or_true, or_false, false_or, decide_not, bne_self_eq_false, Option.some.injEq, startS, startH, startScr, List.map, List.cons_append, List.nil_append, List.append_nil, List.length_cons, List.length_nil, List.length_set, List.replicate_zero, List.replicate_succ, Nat.reduceAdd, Nat.reduceSub, Nat.reduceLT, Nat.reduceLeDiff, Nat.zero_add, Nat.reduceMul, and_self, and_true, true_and, if_true, reduceIte, decide_true, decide_false, Nat.lt_irrefl, sif, sset, mD, mL, mLL, mLL0, stg, gset, gtup, gcons, gnil, sret, sfl, sdrop, saug, mtest, mnot, mand, mor, mandV, morV, mnotV, mife, mcallQ, mcallH, mcall, mcallL, mcallS, mcallSL, mcons, mnil, mv, mc, mop, mopL, mun, misi, mfrz, mP, pv', pop, mchain, mtrue, mrevL, mit, mitems, mcallScr, mscr, scrOf, mlcomp, oAdd, oSub, oMul, oDiv, oMod, oPow, oLt, oLe, oGt, oGe, o2I, o2IC, oNeg, oIsN, oNotN, oIsB, oNotB, oLst, oTup, oTupS, oLenS, asInt2, spar, spar3, sput, smut, oApp, mixS, slotL, ownL, SV.fz, oItems, oItemsT, oIxT, oIxL, oTupOf, oListOf, oEnumT, oLen, on1, oInt, oAbs, oMax2, oMin2, gput, unwipe, wipeS, oldS, mcallS, oExt, sappL, sapp2, sput2, pix2, pixS, oCatT, oCat, mslT, mpart, mnopart, List.getElem?_cons_zero, List.getElem?_cons_succ, List.set_cons_zero, List.set_cons_succ, ownLL_0, ownLL_1, ownLL_2, ownLL_3, ownLL_4, Rs.bind_ok, toRs_some, lift_some, asInt_int, asList_list, asTup_tup, noErr_ok, obind_some, asBool_bool, Bool.not_true, Bool.not_false, isT, isNone_none, isNone_int, isNone_bool, isNone_tup, isNone_list, ifT, ifF, at0, at1, at2, at3, at4, oEq_int, c1]
      exact ⟨_, _, _, _, h0, rfl⟩
  · rintro st ⟨pos, left, mix, x2, h0, rfl⟩
    by_cases c1 : 0 < left
    · simp -implicitDefEqProofs only [nr_seq, after_app, nr_nx, nr_rt, br_ok, nr_ite, Int.cast_ofNat_Int, Int.reduceEq, ne_eq, not_true_eq_false, not_false_eq_true, Bool.false_eq_true, if_false, Int.reduceLE, Int.reduceLT, Int.reduceNeg, Int.reduceSub, Int.reduceAdd, decide_eq_true_eq, Bool.or_false, Bool.or_true, true_or, or_true, or_false, false_or, decide_not, bne_self_eq_false, Option.some.injEq, startS, startH, startScr, List.map, List.cons_append, List.nil_append, List.append_nil, List.length_cons, List.length_nil, List.length_set, List.replicate_zero, List.replicate_succ, Nat.reduceAdd, Nat.reduceSub, Nat.reduceLT, Nat.reduceLeDiff, Nat.zero_add, Nat.reduceMul, and_self, and_true, true_and, if_true, reduceIte, decide_true, decide_false, Nat.lt_irrefl, sif, sset, mD, mL, mLL, mLL0, stg, gset, gtup, gcons, gnil, sret, sfl, sdrop, saug, mtest, mnot, mand, mor, mandV, morV, mnotV, mife, mcallQ, mcallH, mcall, mcallL, mcallS, mcallSL, mcons, mnil, mv, mc, mop, mopL, mun, misi, mfrz, mP, pv', pop, mchain, mtrue, mrevL, mit, mitems, mcallScr, mscr, scrOf, mlcomp, oAdd, oSub, oMul, oDiv, oMod, oPow, oLt, oLe, oGt, oGe, o2I, o2IC, oNeg, oIsN, oNotN, oIsB, oNotB, oLst, oTup, oTupS, oLenS, asInt2, spar, spar3, sput, smut, oApp, mixS, slotL, ownL, SV.fz, oItems, oItemsT, oIxT, oIxL, oTupOf, oListOf, oEnumT, oLen, on1, oInt, oAbs, oMax2, oMin2, gput, unwipe, wipeS, oldS, mcallS, oExt, sappL, sapp2, sput2, pix2, pixS, oCatT, oCat, mslT, mpart, mnopart, List.getElem?_cons_zero, List.getElem?_cons_succ, List.set_cons_zero, List.set_cons_succ, ownLL_0, ownLL_1, ownLL_2, ownLL_3, ownLL_4, Rs.bind_ok, toRs_some, lift_some, asInt_int, asList_list, asTup_tup, noErr_ok, obind_some, asBool_bool, Bool.not_true, Bool.not_false, isT, isNone_none, isNone_int, isNone_bool, isNone_tup, isNone_list, ifT, ifF, at0, at1, at2, at3, at4, c1, cMod, cDiv, hm1, hm3, ix51, ix52, ix53, ix54]
      obtain ⟨r, e1, e2⟩ := mod_nat left hm
      exact ⟨_, rfl, r, e1, e2, _, _, _, _, _, rfl, h0⟩
    · simp -implicitDefEqProofs only [nr_seq, after_app, nr_nx, nr_rt, br_ok, nr_ite, Int.cast_ofNat_Int, Int.reduceEq, ne_eq, not_true_eq_false, not_false_eq_true, Bool.false_eq_true, if_false, Int.reduceLE, Int.reduceLT, Int.reduceNeg, Int.reduceSub, Int.reduceAdd, decide_eq_true_eq, Bool.or_false, Bool.or_true, true_or, or_true, or_false, false_or, decide_not, bne_self_eq_false, Option.some.injEq, startS, startH, startScr, List.map, List.cons_append, List.nil_append, List.append_nil, List.length_cons, List.length_nil, List.length_set, List.replicate_zero, List.replicate_succ, Nat.reduceAdd, Nat.reduceSub, Nat.reduceLT, Nat.reduceLeDiff, Nat.zero_add, Nat.reduceMul, and_self, and_true, true_and, if_true, reduceIte, decide_true, decide_false, Nat.lt_irrefl, sif, sset, mD, mL, mLL, mLL0, stg, gset, gtup, gcons, gnil, sret, sfl, sdrop, saug, mtest, mnot, mand, mor, mandV, morV, mnotV, mife, mcallQ, mcallH, mcall, mcallL, mcallS, mcallSL, mcons, mnil, mv, mc, mop, mopL, mun, misi, mfrz, mP, pv', pop, mchain, mtrue, mrevL, mit, mitems, mcallScr, mscr, scrOf, mlcomp, oAdd, oSub, oMul, oDiv, oMod, oPow, oLt, oLe, oGt, oGe, o2I, o2IC, oNeg, oIsN, oNotN, oIsB, oNotB, oLst, oTup, oTupS, oLenS, asInt2, spar, spar3, sput, smut, oApp, mixS, slotL, ownL, SV.fz, oItems, oItemsT, oIxT, oIxL, oTupOf, oListOf, oEnumT, oLen, on1, oInt, oAbs, oMax2, oMin2, gput, unwipe, wipeS, oldS, mcallS, oExt, sappL, sapp2, sput2, pix2, pixS, oCatT, oCat, mslT, mpart, mnopart, List.getElem?_cons_zero, List.getElem?_cons_succ, List.set_cons_zero, List.set_cons_succ, ownLL_0, ownLL_1, ownLL_2, ownLL_3, ownLL_4, Rs.bind_ok, toRs_some, lift_some, asInt_int, asList_list, asTup_tup, noErr_ok, obind_some, asBool_bool, Bool.not_true, Bool.not_false, isT, isNone_none, isNone_int, isNone_bool, isNone_tup, isNone_list, ifT, ifF, at0, at1, at2, at3, at4, c1, cMod, cDiv, hm1, hm3, ix51, ix52, ix53, ix54, cMul_r, cMul_l, cMul_mod]
      obtain ⟨r, e1, e2⟩ := mod_nat _ hm
      exact ⟨_, rfl, r, e1, e2, _, _, _, _, _, rfl, h0⟩
theorem draw_I {l : List D} (h : HandOk l) {z : Int} {many : Nat} (e : z = many) (hm : 0 < many) (hm2 : many < 1000000) : ∃ (r : Nat) (l' : List D), m__law_draw l [.int z] = .ok (.int r, l') ∧ r < many ∧ HandOk l' := by
  subst e
  obtain ⟨d, l', h1, r, rfl, h2, h3⟩ := draw_ok h hm hm2
  exact ⟨r, l', h1, h2, h3⟩
theorem turn_ne {a d n : Nat} (ha : a < n) (hd : d < n - 1) : (a + 1 + d) % n ≠ a := by
  by_cases h : a + 1 + d < n
  · rw [Nat.mod_eq_of_lt h]; omega
  · rw [Nat.mod_eq_sub_mod (by omega), Nat.mod_eq_of_lt (by omega)]; omega
theorem turn_int {a d n : Nat} : ((a : Int) + 1 + (d : Int)) % (n : Int) = (((a + 1 + d) % n : Nat) : Int) := by
  rw [Int.natCast_emod]
  congr 1
def Small (n : Nat) (W : List Wi) : Prop := Ok n W ∧ ∀ a b m, (a, b, m) ∈ W → -20 ≤ m ∧ m ≤ 20
theorem Small.snoc {n a b : Nat} {W : List Wi} {m : Int} (h : Small n W) (ha : a < n) (hb : b < n) (hab : a ≠ b) (hm : -20 ≤ m ∧ m ≤ 20) : Small n (W ++ [(a, b, m)]) := by
  constructor
  · intro a' b' m' hm'
    rcases List.mem_append.mp hm' with h1 | h1
    · exact h.1 a' b' m' h1
    · rw [List.mem_singleton] at h1; cases h1; exact ⟨ha, hb, hab⟩
  · intro a' b' m' hm'
    rcases List.mem_append.mp hm' with h1 | h1
    · exact h.2 a' b' m' h1
    · rw [List.mem_singleton] at h1; cases h1; exact hm
theorem Small.va {n : Nat} {W : List Wi} (h : Small n W) (h1 : 1 ≤ n) (h2 : n ≤ 30) (h3 : W.length ≤ 200) : Va n W := ⟨h1, h2, h3, h.1, fun a b m hm => by have := h.2 a b m hm; omega⟩
theorem law_wishes_ok {l : List D} (h : HandOk l) {many : Nat} (h2 : 2 ≤ many) (h30 : many ≤ 30) : ∃ (d : D) (l' : List D), m__law_wishes l [.int many, .int 6] = .ok (d, l') ∧ ∃ W, d = wsD W ∧ HandOk l' ∧ Small many W ∧ W.length ≤ 6 := by
  have hm1 : (0 : Int) < (many : Int) := by omega
  unfold m__law_wishes b__law_wishes
  refine mdefH_of (Z := fun d l' => ∃ W, d = wsD W ∧ HandOk l' ∧ Small many W ∧ W.length ≤ 6) ?_
  obtain ⟨r, l1, hd1, hr, h1⟩ := draw_I h (z := 6 + 1) (many := 7) (by omega) (by omega) (by omega)
  simp -implicitDefEqProofs only [nr_seq, after_app, nr_nx, nr_rt, br_ok, nr_ite, Int.cast_ofNat_Int, Int.reduceEq, ne_eq, not_true_eq_false, not_false_eq_true, Bool.false_eq_true, if_false, Int.reduceLE, Int.reduceLT, Int.reduceNeg, Int.reduceSub, Int.reduceAdd, decide_eq_true_eq, Bool.or_false, Bool.or_true, true_or, or_true, or_false, false_or, decide_not, bne_self_eq_false, Option.some.injEq, startS, startH, startScr, List.map, List.cons_append, List.nil_append, List.append_nil, List.length_cons, List.length_nil, List.length_set, List.replicate_zero, List.replicate_succ, Nat.reduceAdd, Nat.reduceSub, Nat.reduceLT, Nat.reduceLeDiff, Nat.zero_add, Nat.reduceMul, and_self, and_true, true_and, if_true, reduceIte, decide_true, decide_false, Nat.lt_irrefl, sif, sset, mD, mL, mLL, mLL0, stg, gset, gtup, gcons, gnil, sret, sfl, sdrop, saug, mtest, mnot, mand, mor, mandV, morV, mnotV, mife, mcallQ, mcallH, mcall, mcallL, mcallS, mcallSL, mcons, mnil, mv, mc, mop, mopL, mun, misi, mfrz, mP, pv', pop, mchain, mtrue, mrevL, mit, mitems, mcallScr, mscr, scrOf, mlcomp, oAdd, oSub, oMul, oDiv, oMod, oPow, oLt, oLe, oGt, oGe, o2I, o2IC, oNeg, oIsN, oNotN, oIsB, oNotB, oLst, oTup, oTupS, oLenS, asInt2, spar, spar3, sput, smut, oApp, mixS, slotL, ownL, SV.fz, oItems, oItemsT, oIxT, oIxL, oTupOf, oListOf, oEnumT, oLen, on1, oInt, oAbs, oMax2, oMin2, gput, unwipe, wipeS, oldS, mcallS, oExt, sappL, sapp2, sput2, pix2, pixS, oCatT, oCat, mslT, mpart, mnopart, List.getElem?_cons_zero, List.getElem?_cons_succ, List.set_cons_zero, List.set_cons_succ, ownLL_0, ownLL_1, ownLL_2, ownLL_3, ownLL_4, Rs.bind_ok, toRs_some, lift_some, asInt_int, asList_list, asTup_tup, noErr_ok, obind_some, asBool_bool, Bool.not_true, Bool.not_false, isT, isNone_none, isNone_int, isNone_bool, isNone_tup, isNone_list, ifT, ifF]
  refine nr_for (P := fun i st => ∃ l W x4 x5 x6, HandOk l ∧ W.length = i ∧ i ≤ r ∧ Small many W ∧ st = [some (.ol l), some (.d (.int many)), some (.d (.int 6)), some (.ol (W.map wD)), x4, x5, x6]) (ds := rangeD 0 r) (s1 := [some (.ol l1), some (.d (.int many)), some (.d (.int 6)), some (.ol []), none, none, none]) ?_ ?_ ?_ ?_
  · have hd1' : m__law_draw l [.int 7] = .ok (.int r, l1) := hd1
    simp -implicitDefEqProofs only [nr_seq, after_app, nr_nx, nr_rt, br_ok, nr_ite, Int.cast_ofNat_Int, Int.reduceEq, ne_eq, not_true_eq_false, not_false_eq_true, Bool.false_eq_true, if_false, Int.reduceLE, Int.reduceLT, Int.reduceNeg, Int.reduceSub, Int.reduceAdd, decide_eq_true_eq, Bool.or_false, Bool.or_true, true_or, or_true, or_false, false_or, decide_not, bne_self_eq_false, Option.some.injEq, startS, startH, startScr, List.map, List.cons_append, List.nil_append, List.append_nil, List.length_cons, List.length_nil, List.length_set, List.replicate_zero, List.replicate_succ, Nat.reduceAdd, Nat.reduceSub, Nat.reduceLT, Nat.reduceLeDiff, Nat.zero_add, Nat.reduceMul, and_self, and_true, true_and, if_true, reduceIte, decide_true, decide_false, Nat.lt_irrefl, sif, sset, mD, mL, mLL, mLL0, stg, gset, gtup, gcons, gnil, sret, sfl, sdrop, saug, mtest, mnot, mand, mor, mandV, morV, mnotV, mife, mcallQ, mcallH, mcall, mcallL, mcallS, mcallSL, mcons, mnil, mv, mc, mop, mopL, mun, misi, mfrz, mP, pv', pop, mchain, mtrue, mrevL, mit, mitems, mcallScr, mscr, scrOf, mlcomp, oAdd, oSub, oMul, oDiv, oMod, oPow, oLt, oLe, oGt, oGe, o2I, o2IC, oNeg, oIsN, oNotN, oIsB, oNotB, oLst, oTup, oTupS, oLenS, asInt2, spar, spar3, sput, smut, oApp, mixS, slotL, ownL, SV.fz, oItems, oItemsT, oIxT, oIxL, oTupOf, oListOf, oEnumT, oLen, on1, oInt, oAbs, oMax2, oMin2, gput, unwipe, wipeS, oldS, mcallS, oExt, sappL, sapp2, sput2, pix2, pixS, oCatT, oCat, mslT, mpart, mnopart, List.getElem?_cons_zero, List.getElem?_cons_succ, List.set_cons_zero, List.set_cons_succ, ownLL_0, ownLL_1, ownLL_2, ownLL_3, ownLL_4, Rs.bind_ok, toRs_some, lift_some, asInt_int, asList_list, asTup_tup, noErr_ok, obind_some, asBool_bool, Bool.not_true, Bool.not_false, isT, isNone_none, isNone_int, isNone_bool, isNone_tup, isNone_list, ifT, ifF, hd1', range1_nat (n := r) (by omega)]
  · exact ⟨l1, [], _, _, _, h1, rfl, Nat.zero_le _, ⟨fun a b m hm => (by cases hm), fun a b m hm => (by cases hm)⟩, rfl⟩
  · rintro i d st hd ⟨l, W, x4, x5, x6, hl, hW, hir, hS, rfl⟩
    obtain ⟨hi, rfl⟩ := rangeD_get hd
    obtain ⟨a, la, da, ha, hla⟩ := draw_I hl (z := many) rfl (by omega) (by omega)
    obtain ⟨b, lb, db, hb, hlb⟩ := draw_I hla (z := (many : Int) - 1) (many := many - 1) (by omega) (by omega) (by omega)
    obtain ⟨c, lc, dc, hc, hlc⟩ := draw_I hlb (z := 12) (many := 12) (by omega) (by omega) (by omega)
    have hWl : W.length < 100000 := by omega
    unfold turn
    simp -implicitDefEqProofs only [nr_seq, after_app, nr_nx, nr_rt, br_ok, nr_ite, Int.cast_ofNat_Int, Int.reduceEq, ne_eq, not_true_eq_false, not_false_eq_true, Bool.false_eq_true, if_false, Int.reduceLE, Int.reduceLT, Int.reduceNeg, Int.reduceSub, Int.reduceAdd, decide_eq_true_eq, Bool.or_false, Bool.or_true, true_or, or_true, or_false, false_or, decide_not, bne_self_eq_false, Option.some.injEq, startS, startH, startScr, List.map, List.cons_append, List.nil_append, List.append_nil, List.length_cons, List.length_nil, List.length_set, List.replicate_zero, List.replicate_succ, Nat.reduceAdd, Nat.reduceSub, Nat.reduceLT, Nat.reduceLeDiff, Nat.zero_add, Nat.reduceMul, and_self, and_true, true_and, if_true, reduceIte, decide_true, decide_false, Nat.lt_irrefl, sif, sset, mD, mL, mLL, mLL0, stg, gset, gtup, gcons, gnil, sret, sfl, sdrop, saug, mtest, mnot, mand, mor, mandV, morV, mnotV, mife, mcallQ, mcallH, mcall, mcallL, mcallS, mcallSL, mcons, mnil, mv, mc, mop, mopL, mun, misi, mfrz, mP, pv', pop, mchain, mtrue, mrevL, mit, mitems, mcallScr, mscr, scrOf, mlcomp, oAdd, oSub, oMul, oDiv, oMod, oPow, oLt, oLe, oGt, oGe, o2I, o2IC, oNeg, oIsN, oNotN, oIsB, oNotB, oLst, oTup, oTupS, oLenS, asInt2, spar, spar3, sput, smut, oApp, mixS, slotL, ownL, SV.fz, oItems, oItemsT, oIxT, oIxL, oTupOf, oListOf, oEnumT, oLen, on1, oInt, oAbs, oMax2, oMin2, gput, unwipe, wipeS, oldS, mcallS, oExt, sappL, sapp2, sput2, pix2, pixS, oCatT, oCat, mslT, mpart, mnopart, List.getElem?_cons_zero, List.getElem?_cons_succ, List.set_cons_zero, List.set_cons_succ, ownLL_0, ownLL_1, ownLL_2, ownLL_3, ownLL_4, Rs.bind_ok, toRs_some, lift_some, asInt_int, asList_list, asTup_tup, noErr_ok, obind_some, asBool_bool, Bool.not_true, Bool.not_false, isT, isNone_none, isNone_int, isNone_bool, isNone_tup, isNone_list, ifT, ifF, da, db, dc, cMod, hm1, turn_int, ws_len, hWl]
    have eW : W.map wD ++ [PyData.tuple [.int (a : Nat), .int (((a + 1 + b) % many : Nat) : Int), .int ((c : Int) - 4)]] = (W ++ [(a, (a + 1 + b) % many, (c : Int) - 4)]).map wD := by
      rw [List.map_append]; rfl
    rw [eW]
    exact ⟨lc, W ++ [(a, (a + 1 + b) % many, (c : Int) - 4)], _, _, _, hlc, by rw [List.length_append, hW]; rfl, by omega, hS.snoc ha (Nat.mod_lt _ (by omega)) (fun e => turn_ne ha hb e.symm) (by omega), rfl⟩
  · rintro st ⟨l, W, x4, x5, x6, hl, hW, hir, hS, rfl⟩
    rw [rangeD_len] at hW
    simp -implicitDefEqProofs only [nr_seq, after_app, nr_nx, nr_rt, br_ok, nr_ite, Int.cast_ofNat_Int, Int.reduceEq, ne_eq, not_true_eq_false, not_false_eq_true, Bool.false_eq_true, if_false, Int.reduceLE, Int.reduceLT, Int.reduceNeg, Int.reduceSub, Int.reduceAdd, decide_eq_true_eq, Bool.or_false, Bool.or_true, true_or, or_true, or_false, false_or, decide_not, bne_self_eq_false, Option.some.injEq, startS, startH, startScr, List.map, List.cons_append, List.nil_append, List.append_nil, List.length_cons, List.length_nil, List.length_set, List.replicate_zero, List.replicate_succ, Nat.reduceAdd, Nat.reduceSub, Nat.reduceLT, Nat.reduceLeDiff, Nat.zero_add, Nat.reduceMul, and_self, and_true, true_and, if_true, reduceIte, decide_true, decide_false, Nat.lt_irrefl, sif, sset, mD, mL, mLL, mLL0, stg, gset, gtup, gcons, gnil, sret, sfl, sdrop, saug, mtest, mnot, mand, mor, mandV, morV, mnotV, mife, mcallQ, mcallH, mcall, mcallL, mcallS, mcallSL, mcons, mnil, mv, mc, mop, mopL, mun, misi, mfrz, mP, pv', pop, mchain, mtrue, mrevL, mit, mitems, mcallScr, mscr, scrOf, mlcomp, oAdd, oSub, oMul, oDiv, oMod, oPow, oLt, oLe, oGt, oGe, o2I, o2IC, oNeg, oIsN, oNotN, oIsB, oNotB, oLst, oTup, oTupS, oLenS, asInt2, spar, spar3, sput, smut, oApp, mixS, slotL, ownL, SV.fz, oItems, oItemsT, oIxT, oIxL, oTupOf, oListOf, oEnumT, oLen, on1, oInt, oAbs, oMax2, oMin2, gput, unwipe, wipeS, oldS, mcallS, oExt, sappL, sapp2, sput2, pix2, pixS, oCatT, oCat, mslT, mpart, mnopart, List.getElem?_cons_zero, List.getElem?_cons_succ, List.set_cons_zero, List.set_cons_succ, ownLL_0, ownLL_1, ownLL_2, ownLL_3, ownLL_4, Rs.bind_ok, toRs_some, lift_some, asInt_int, asList_list, asTup_tup, noErr_ok, obind_some, asBool_bool, Bool.not_true, Bool.not_false, isT, isNone_none, isNone_int, isNone_bool, isNone_tup, isNone_list, ifT, ifF]
    exact ⟨_, rfl, W, rfl, hl, hS, by omega⟩
end K39
namespace K39
open PySem L2 Evl Mir Wsh
theorem sh_oD {k : Nat} {o : Option Int} : Sh k (oD o) := by
  cases o with
  | none => exact sh_none
  | some i => exact sh_int
theorem sh_vec {k n : Nat} {f : Nat → D} (h : ∀ i, Sh k (f i)) : ∀ d, d ∈ vec n f → Sh k d := fun d hd => by
  obtain ⟨i, _, rfl⟩ := vec_mem hd
  exact h i
theorem sh_matT {n : Nat} {M : Mx} : Sh 2 (matT n M) := sh_tuple (sh_vec fun i => sh_tuple (sh_vec fun j => sh_oD))
theorem sh_matL {n : Nat} {M : Mx} : Sh 2 (matL n M) := sh_list (sh_vec fun i => sh_list (sh_vec fun j => sh_oD))
theorem sh_lot {k : Nat} {g : List Nat} : Sh (k + 1) (lotD g) := sh_tuple fun d hd => by
  obtain ⟨i, _, rfl⟩ := List.mem_map.mp hd
  exact sh_int
theorem sh_first {o : Option (List Nat)} : Sh 1 (firstD o) := by
  cases o with
  | none => exact sh_none
  | some g => exact sh_lot
def unT : D → D := fun d => match d with
  | .tuple l => .list l
  | d => d
theorem unT_row {n : Nat} {M : Mx} : (vec n fun i => rowT n (M i)).map unT = vec n fun i => PyData.list (vec n fun j => oD (M i j)) := by
  rw [vec_map]
  rfl
theorem filter_snoc {p : Nat → Bool} {k : Nat} : (List.range (k + 1)).filter p = (List.range k).filter p ++ (if p k = true then [k] else []) := by
  rw [List.range_succ, List.filter_append]
  cases h : p k <;> simp [h]
theorem wsD_snoc {W : List Wi} {a b : Nat} {m : Int} : wsD (W ++ [(a, b, m)]) = .tuple (W.map wD ++ [.tuple [.int a, .int b, .int m]]) := by
  unfold wsD
  rw [List.map_append]
  rfl
def restS : SD → Rs (Fl × SD) :=
  (sseq (sif (mtest (mop oNe (mfrz (mlcomp (mitems oItemsT (mv 4)) (gset 15) mtrue (mfrz (mcallL oListOf (mcons (mv 15) mnil))) [15])) (mv 3)))
 (sret (mc (.bool false)))
 (sfl .nx))
  (sseq (sset 7 (mL (mcallL oLst mnil)))
  (sseq (sfor (mit oRange1 (mcons (mcall oLen (mcons (mv 2) mnil)) mnil)) (gset 8)
 ((sseq (sset 9 (mD (mcallQ m__law_shortest (mcons (mv 1) (mcons (mop oCatT (mslT (mv 2) mnopart (mpart (mv 8))) (mslT (mv 2) (mpart (mop oAdd (mv 8) (mc (.int 1)))) mnopart)) mnil)))))
  (smut oExt 7 (mfrz (mife (mtest (mcallQ m__law_is_said (mcons (mv 9) (mcons (mop oIxT (mv 2) (mv 8)) mnil)))) (mcallL oLst (mcons (mv 8) mnil)) (mcallL oLst mnil)))))))
  (sseq (sif (mtest (mop oNe (mcallQ m_needless_wishes (mcons (mv 1) (mcons (mv 2) mnil))) (mcallS oTupS 7)))
 (sret (mc (.bool false)))
 (sfl .nx))
  (sseq (sfor (mit oRange1 (mcons (mc (.int 4)) mnil)) (gset 10)
 ((sseq (sset 11 (mD (mcallH m__law_draw 0 (mcons (mv 1) mnil))))
  (sseq (sset 12 (mD (mcall oTup (mcons (mv 11) (mcons (mop oMod (mcall oInt (mcons (mop oAdd (mop oAdd (mv 11) (mc (.int 1))) (mcallH m__law_draw 0 (mcons (mop oSub (mv 1) (mc (.int 1))) mnil))) mnil)) (mv 1)) (mcons (mop oSub (mcallH m__law_draw 0 (mcons (mc (.int 14)) mnil)) (mc (.int 5))) mnil))))))
  (sseq (sset 13 (mD (mcallQ m__law_is_said (mcons (mv 3) (mcons (mv 12) mnil)))))
  (sseq (sif (mtest (mop oNe (mcallQ m_is_said (mcons (mv 1) (mcons (mv 2) (mcons (mv 12) mnil)))) (mv 13)))
 (sret (mc (.bool false)))
 (sfl .nx))
  (sseq (sset 14 (mD (mcall oTup (mcons (mop oIxT (mv 12) (mc (.int 1))) (mcons (mop oIxT (mv 12) (mc (.int 0))) (mcons (mop oSub (mop oSub (mc (.int 0)) (mop oIxT (mv 12) (mc (.int 2)))) (mc (.int 1))) mnil))))))
  (sif (mtest (mop oNe (mop oEq (mop oIxT (mcallQ m_wishes_told (mcons (mv 1) (mcons (mop oCatT (mv 2) (mcall oTup (mcons (mv 14) mnil))) mnil))) (mc (.int 0))) (mc (.str (PySem.Str.ofString "ring")))) (mv 13)))
 (sret (mc (.bool false)))
 (sfl .nx)))))))))
  (sret (mc (.bool true))))))))
theorem is_right_split : b__law_is_right =
 (sseq (sset 3 (mD (mcallQ m__law_shortest (mcons (mv 1) (mcons (mv 2) mnil)))))
  (sseq (sset 4 (mD (mcallQ m_bounds (mcons (mv 1) (mcons (mv 2) mnil)))))
  (sseq (sif (mor (mtest (mop oNe (mv 4) (mcallQ m_bounds (mcons (mv 1) (mcons (mv 2) mnil))))) (mtest (mop oNe (mop oIsN (mv 4) (mc .none)) (mop oIsN (mv 3) (mc .none)))))
 (sret (mc (.bool false)))
 (sfl .nx))
  (sseq (sif (mtest (mop oNe (mcallQ m_can_keep (mcons (mv 1) (mcons (mv 2) mnil))) (mop oNotN (mv 3) (mc .none))))
 (sret (mc (.bool false)))
 (sfl .nx))
  (sseq (sset 5 (mD (mcallH m__law_draw 0 (mcons (mv 1) mnil))))
  (sseq (sset 6 (mD (mcallQ m_soonest_moments (mcons (mv 1) (mcons (mv 2) (mcons (mv 5) mnil))))))
  (sseq (sif (mtest (mop oNe (mife (mtest (mop oIsN (mv 6) (mc .none))) (mc .none) (mcall oTupOf (mcons (mv 6) mnil))) (mcallQ m__law_soonest (mcons (mv 1) (mcons (mv 2) (mcons (mv 5) mnil))))))
 (sret (mc (.bool false)))
 (sfl .nx))
  (sseq (sif (mtest (mop oNe (mcallQ m_fewest_left (mcons (mv 1) (mcons (mv 2) mnil))) (mcallQ m__law_fewest (mcons (mv 1) (mcons (mv 2) mnil)))))
 (sret (mc (.bool false)))
 (sfl .nx))
  (sseq (sif (mtest (mop oIsN (mv 3) (mc .none)))
 (sret (mc (.bool true)))
 (sfl .nx))
  restS))))))))) := by rfl
theorem rest_ok {l : List D} (h : HandOk l) {n : Nat} (h2 : 2 ≤ n) (h30 : n ≤ 30) {W : List Wi} (hS : Small n W) (hl : W.length ≤ 6) (hz : fz n W = true) {x5 x6 : Option SV} :
    NR (restS [some (.ol l), some (.d (.int n)), some (.d (wsD W)), some (.d (matL n (fw n W))), some (.d (matT n (fw n W))), x5, x6, none, none, none, none, none, none, none, none, none])
      (fun s => ∃ l', ownL s 0 = some l' ∧ PyData.none = PyData.bool true ∧ HandOk l') (fun d s => ∃ l', ownL s 0 = some l' ∧ d = .bool true ∧ HandOk l') := by
  have hv := hS.va (by omega) h30 (by omega)
  have hfeas := (fz_iff hv).mp hz
  have hn1 : (0 : Int) < (n : Int) := by omega
  have hn5 : n ≤ 100000 := by omega
  have hl5 : W.length ≤ 100000 := by omega
  have hml := oNe_self (sh_matL (n := n) (M := fw n W)) (by omega)
  unfold restS
  unfold matT
  simp -implicitDefEqProofs only [nr_seq, after_app, nr_nx, nr_rt, br_ok, nr_ite, Int.cast_ofNat_Int, Int.reduceEq, ne_eq, not_true_eq_false, not_false_eq_true, Bool.false_eq_true, if_false, Int.reduceLE, Int.reduceLT, Int.reduceNeg, Int.reduceSub, Int.reduceAdd, decide_eq_true_eq, Bool.or_false, Bool.or_true, true_or, or_true, or_false, false_or, decide_not, bne_self_eq_false, Option.some.injEq, startS, startH, startScr, List.map, List.cons_append, List.nil_append, List.append_nil, List.length_cons, List.length_nil, List.length_set, List.replicate_zero, List.replicate_succ, Nat.reduceAdd, Nat.reduceSub, Nat.reduceLT, Nat.reduceLeDiff, Nat.zero_add, Nat.reduceMul, and_self, and_true, true_and, if_true, reduceIte, decide_true, decide_false, Nat.lt_irrefl, sif, sset, mD, mL, mLL, mLL0, stg, gset, gtup, gcons, gnil, sret, sfl, sdrop, saug, mtest, mnot, mand, mor, mandV, morV, mnotV, mife, mcallQ, mcallH, mcall, mcallL, mcallS, mcallSL, mcons, mnil, mv, mc, mop, mopL, mun, misi, mfrz, mP, pv', pop, mchain, mtrue, mrevL, mit, mitems, mcallScr, mscr, scrOf, mlcomp, oAdd, oSub, oMul, oDiv, oMod, oPow, oLt, oLe, oGt, oGe, o2I, o2IC, oNeg, oIsN, oNotN, oIsB, oNotB, oLst, oTup, oTupS, oLenS, asInt2, spar, spar3, sput, smut, oApp, mixS, slotL, ownL, SV.fz, oItems, oItemsT, oIxT, oIxL, oTupOf, oListOf, oEnumT, oLen, on1, oInt, oAbs, oMax2, oMin2, gput, unwipe, wipeS, oldS, mcallS, oExt, sappL, sapp2, sput2, pix2, pixS, oCatT, oCat, mslT, mpart, mnopart, List.getElem?_cons_zero, List.getElem?_cons_succ, List.set_cons_zero, List.set_cons_succ, ownLL_0, ownLL_1, ownLL_2, ownLL_3, ownLL_4, Rs.bind_ok, toRs_some, lift_some, asInt_int, asList_list, asTup_tup, noErr_ok, obind_some, asBool_bool, Bool.not_true, Bool.not_false, isT, isNone_none, isNone_int, isNone_bool, isNone_tup, isNone_list, ifT, ifF, vec_len, hn5]
  rw [mlc_all (v := unT) _ (fun d hd => ?_)]
  · have e1 : PyData.list (vec n fun i => PyData.list (vec n fun j => oD (fw n W i j))) = matL n (fw n W) := rfl
    simp -implicitDefEqProofs only [nr_seq, after_app, nr_nx, nr_rt, br_ok, nr_ite, Int.cast_ofNat_Int, Int.reduceEq, ne_eq, not_true_eq_false, not_false_eq_true, Bool.false_eq_true, if_false, Int.reduceLE, Int.reduceLT, Int.reduceNeg, Int.reduceSub, Int.reduceAdd, decide_eq_true_eq, Bool.or_false, Bool.or_true, true_or, or_true, or_false, false_or, decide_not, bne_self_eq_false, Option.some.injEq, startS, startH, startScr, List.map, List.cons_append, List.nil_append, List.append_nil, List.length_cons, List.length_nil, List.length_set, List.replicate_zero, List.replicate_succ, Nat.reduceAdd, Nat.reduceSub, Nat.reduceLT, Nat.reduceLeDiff, Nat.zero_add, Nat.reduceMul, and_self, and_true, true_and, if_true, reduceIte, decide_true, decide_false, Nat.lt_irrefl, sif, sset, mD, mL, mLL, mLL0, stg, gset, gtup, gcons, gnil, sret, sfl, sdrop, saug, mtest, mnot, mand, mor, mandV, morV, mnotV, mife, mcallQ, mcallH, mcall, mcallL, mcallS, mcallSL, mcons, mnil, mv, mc, mop, mopL, mun, misi, mfrz, mP, pv', pop, mchain, mtrue, mrevL, mit, mitems, mcallScr, mscr, scrOf, mlcomp, oAdd, oSub, oMul, oDiv, oMod, oPow, oLt, oLe, oGt, oGe, o2I, o2IC, oNeg, oIsN, oNotN, oIsB, oNotB, oLst, oTup, oTupS, oLenS, asInt2, spar, spar3, sput, smut, oApp, mixS, slotL, ownL, SV.fz, oItems, oItemsT, oIxT, oIxL, oTupOf, oListOf, oEnumT, oLen, on1, oInt, oAbs, oMax2, oMin2, gput, unwipe, wipeS, oldS, mcallS, oExt, sappL, sapp2, sput2, pix2, pixS, oCatT, oCat, mslT, mpart, mnopart, List.getElem?_cons_zero, List.getElem?_cons_succ, List.set_cons_zero, List.set_cons_succ, ownLL_0, ownLL_1, ownLL_2, ownLL_3, ownLL_4, Rs.bind_ok, toRs_some, lift_some, asInt_int, asList_list, asTup_tup, noErr_ok, obind_some, asBool_bool, Bool.not_true, Bool.not_false, isT, isNone_none, isNone_int, isNone_bool, isNone_tup, isNone_list, ifT, ifF, unT_row, e1, hml]
    refine nr_fors (P := fun k st => ∃ x8 x9, k ≤ W.length ∧ st = [some (.ol l), some (.d (.int n)), some (.d (wsD W)), some (.d (matL n (fw n W))), some (.d (matT n (fw n W))), x5, x6, some (.ol (((List.range k).filter (sdB n W)).map fun i => .int (i : Nat))), x8, x9, none, none, none, none, none, none]) (ds := rangeD 0 W.length) ?_ ⟨_, _, Nat.zero_le _, rfl⟩ ?_ ?_
    · simp -implicitDefEqProofs only [nr_seq, after_app, nr_nx, nr_rt, br_ok, nr_ite, Int.cast_ofNat_Int, Int.reduceEq, ne_eq, not_true_eq_false, not_false_eq_true, Bool.false_eq_true, if_false, Int.reduceLE, Int.reduceLT, Int.reduceNeg, Int.reduceSub, Int.reduceAdd, decide_eq_true_eq, Bool.or_false, Bool.or_true, true_or, or_true, or_false, false_or, decide_not, bne_self_eq_false, Option.some.injEq, startS, startH, startScr, List.map, List.cons_append, List.nil_append, List.append_nil, List.length_cons, List.length_nil, List.length_set, List.replicate_zero, List.replicate_succ, Nat.reduceAdd, Nat.reduceSub, Nat.reduceLT, Nat.reduceLeDiff, Nat.zero_add, Nat.reduceMul, and_self, and_true, true_and, if_true, reduceIte, decide_true, decide_false, Nat.lt_irrefl, sif, sset, mD, mL, mLL, mLL0, stg, gset, gtup, gcons, gnil, sret, sfl, sdrop, saug, mtest, mnot, mand, mor, mandV, morV, mnotV, mife, mcallQ, mcallH, mcall, mcallL, mcallS, mcallSL, mcons, mnil, mv, mc, mop, mopL, mun, misi, mfrz, mP, pv', pop, mchain, mtrue, mrevL, mit, mitems, mcallScr, mscr, scrOf, mlcomp, oAdd, oSub, oMul, oDiv, oMod, oPow, oLt, oLe, oGt, oGe, o2I, o2IC, oNeg, oIsN, oNotN, oIsB, oNotB, oLst, oTup, oTupS, oLenS, asInt2, spar, spar3, sput, smut, oApp, mixS, slotL, ownL, SV.fz, oItems, oItemsT, oIxT, oIxL, oTupOf, oListOf, oEnumT, oLen, on1, oInt, oAbs, oMax2, oMin2, gput, unwipe, wipeS, oldS, mcallS, oExt, sappL, sapp2, sput2, pix2, pixS, oCatT, oCat, mslT, mpart, mnopart, List.getElem?_cons_zero, List.getElem?_cons_succ, List.set_cons_zero, List.set_cons_succ, ownLL_0, ownLL_1, ownLL_2, ownLL_3, ownLL_4, Rs.bind_ok, toRs_some, lift_some, asInt_int, asList_list, asTup_tup, noErr_ok, obind_some, asBool_bool, Bool.not_true, Bool.not_false, isT, isNone_none, isNone_int, isNone_bool, isNone_tup, isNone_list, ifT, ifF, ws_len, range1_nat hl5]
    · rintro k d st hd ⟨x8, x9, hk, rfl⟩
      obtain ⟨hk, rfl⟩ := rangeD_get hd
      obtain ⟨w, hw⟩ : ∃ w, W[k]? = some w := ⟨W[k], List.getElem?_eq_getElem hk⟩
      obtain ⟨a, b, m⟩ := w
      obtain ⟨ha, hb, _⟩ := hv.ok.get hw
      have e1 : cutD (W.map wD) none (some (k : Int)) = (W.take k).map wD := by rw [cut_take (by rw [ws_len]; omega), List.map_take]
      have e2 : cutD (W.map wD) (some ((k : Int) + 1)) none = (W.drop (k + 1)).map wD := by
        have := cut_drop (α := W.map wD) (i := k + 1) (by rw [ws_len]; omega)
        rw [List.map_drop]
        exact this
      have e3 : (W.take k).map wD ++ (W.drop (k + 1)).map wD = (without W k).map wD := by unfold without; rw [List.map_append]
      have e4 : ((W.take k).map wD).length + ((W.drop (k + 1)).map wD).length ≤ 100000 := by
        rw [List.length_map, List.length_map, List.length_take, List.length_drop]; omega
      have hfk : fz n (without W k) = true := (fz_iff (hv.without k)).mpr (by
        obtain ⟨g, hg⟩ := hfeas
        exact ⟨g, fun a b m hm => hg a b m (without_mem hm)⟩)
      have e5 := shortest_eq (hv.without k)
      rw [hfk, if_pos rfl] at e5
      have e6 := law_said_eq (M := fw n (without W k)) (m := m) ha hb
      have e7 : decide (Lq (fw n (without W k) a b) m) = sdB n W k := by
        unfold sdB
        rw [hw]
        dsimp only
        rw [if_pos hfk]
      rw [e7] at e6
      have e8 := oIxT_w hw
      have e9 : ((List.range k).filter (sdB n W)).length ≤ k := by
        have := List.length_filter_le (sdB n W) (List.range k)
        rw [List.length_range] at this
        exact this
      rw [filter_snoc]
      have e11 : (((List.range k).filter (sdB n W)).map fun i => PyData.int (i : Nat)).length < 100000 := by rw [List.length_map]; omega
      have e12 : (((List.range k).filter (sdB n W)).map fun i => PyData.int (i : Nat)).length + 1 < 100000 := by rw [List.length_map]; omega
      unfold turn
      cases hsd : sdB n W k with
      | true =>
        rw [hsd] at e6
        simp -implicitDefEqProofs only [nr_seq, after_app, nr_nx, nr_rt, br_ok, nr_ite, Int.cast_ofNat_Int, Int.reduceEq, ne_eq, not_true_eq_false, not_false_eq_true, Bool.false_eq_true, if_false, Int.reduceLE, Int.reduceLT, Int.reduceNeg, Int.reduceSub, Int.reduceAdd, decide_eq_true_eq, Bool.or_false, Bool.or_true, true_or, or_true, or_false, false_or, decide_not, bne_self_eq_false, Option.some.injEq, startS, startH, startScr, List.map, List.cons_append, List.nil_append, List.append_nil, List.length_cons, List.length_nil, List.length_set, List.replicate_zero, List.replicate_succ, Nat.reduceAdd, Nat.reduceSub, Nat.reduceLT, Nat.reduceLeDiff, Nat.zero_add, Nat.reduceMul, and_self, and_true, true_and, if_true, reduceIte, decide_true, decide_false, Nat.lt_irrefl, sif, sset, mD, mL, mLL, mLL0, stg, gset, gtup, gcons, gnil, sret, sfl, sdrop, saug, mtest, mnot, mand, mor, mandV, morV, mnotV, mife, mcallQ, mcallH, mcall, mcallL, mcallS, mcallSL, mcons, mnil, mv, mc, mop, mopL, mun, misi, mfrz, mP, pv', pop, mchain, mtrue, mrevL, mit, mitems, mcallScr, mscr, scrOf, mlcomp, oAdd, oSub, oMul, oDiv, oMod, oPow, oLt, oLe, oGt, oGe, o2I, o2IC, oNeg, oIsN, oNotN, oIsB, oNotB, oLst, oTup, oTupS, oLenS, asInt2, spar, spar3, sput, smut, oApp, mixS, slotL, ownL, SV.fz, oItems, oItemsT, oIxT, oIxL, oTupOf, oListOf, oEnumT, oLen, on1, oInt, oAbs, oMax2, oMin2, gput, unwipe, wipeS, oldS, mcallS, oExt, sappL, sapp2, sput2, pix2, pixS, oCatT, oCat, mslT, mpart, mnopart, List.getElem?_cons_zero, List.getElem?_cons_succ, List.set_cons_zero, List.set_cons_succ, ownLL_0, ownLL_1, ownLL_2, ownLL_3, ownLL_4, Rs.bind_ok, toRs_some, lift_some, asInt_int, asList_list, asTup_tup, noErr_ok, obind_some, asBool_bool, Bool.not_true, Bool.not_false, isT, isNone_none, isNone_int, isNone_bool, isNone_tup, isNone_list, ifT, ifF, e1, e2, e3, e4, e5, e6, e8, e12, Nat.add_zero]
        rw [List.map_append]
        exact ⟨_, _, by omega, rfl⟩
      | false =>
        rw [hsd] at e6
        simp -implicitDefEqProofs only [nr_seq, after_app, nr_nx, nr_rt, br_ok, nr_ite, Int.cast_ofNat_Int, Int.reduceEq, ne_eq, not_true_eq_false, not_false_eq_true, Bool.false_eq_true, if_false, Int.reduceLE, Int.reduceLT, Int.reduceNeg, Int.reduceSub, Int.reduceAdd, decide_eq_true_eq, Bool.or_false, Bool.or_true, true_or, or_true, or_false, false_or, decide_not, bne_self_eq_false, Option.some.injEq, startS, startH, startScr, List.map, List.cons_append, List.nil_append, List.append_nil, List.length_cons, List.length_nil, List.length_set, List.replicate_zero, List.replicate_succ, Nat.reduceAdd, Nat.reduceSub, Nat.reduceLT, Nat.reduceLeDiff, Nat.zero_add, Nat.reduceMul, and_self, and_true, true_and, if_true, reduceIte, decide_true, decide_false, Nat.lt_irrefl, sif, sset, mD, mL, mLL, mLL0, stg, gset, gtup, gcons, gnil, sret, sfl, sdrop, saug, mtest, mnot, mand, mor, mandV, morV, mnotV, mife, mcallQ, mcallH, mcall, mcallL, mcallS, mcallSL, mcons, mnil, mv, mc, mop, mopL, mun, misi, mfrz, mP, pv', pop, mchain, mtrue, mrevL, mit, mitems, mcallScr, mscr, scrOf, mlcomp, oAdd, oSub, oMul, oDiv, oMod, oPow, oLt, oLe, oGt, oGe, o2I, o2IC, oNeg, oIsN, oNotN, oIsB, oNotB, oLst, oTup, oTupS, oLenS, asInt2, spar, spar3, sput, smut, oApp, mixS, slotL, ownL, SV.fz, oItems, oItemsT, oIxT, oIxL, oTupOf, oListOf, oEnumT, oLen, on1, oInt, oAbs, oMax2, oMin2, gput, unwipe, wipeS, oldS, mcallS, oExt, sappL, sapp2, sput2, pix2, pixS, oCatT, oCat, mslT, mpart, mnopart, List.getElem?_cons_zero, List.getElem?_cons_succ, List.set_cons_zero, List.set_cons_succ, ownLL_0, ownLL_1, ownLL_2, ownLL_3, ownLL_4, Rs.bind_ok, toRs_some, lift_some, asInt_int, asList_list, asTup_tup, noErr_ok, obind_some, asBool_bool, Bool.not_true, Bool.not_false, isT, isNone_none, isNone_int, isNone_bool, isNone_tup, isNone_list, ifT, ifF, e1, e2, e3, e4, e5, e6, e8, e11, Nat.add_zero]
        exact ⟨_, _, by omega, rfl⟩
    · rintro st ⟨x8, x9, _, rfl⟩
      rw [rangeD_len]
      have hne := needless_eq hv
      have hsh := oNe_self (k := 1) (d := .tuple (((List.range W.length).filter (sdB n W)).map fun i => .int (i : Nat))) (sh_tuple fun d hd => by
        obtain ⟨i, _, rfl⟩ := List.mem_map.mp hd
        exact sh_int) (by omega)
      simp -implicitDefEqProofs only [nr_seq, after_app, nr_nx, nr_rt, br_ok, nr_ite, Int.cast_ofNat_Int, Int.reduceEq, ne_eq, not_true_eq_false, not_false_eq_true, Bool.false_eq_true, if_false, Int.reduceLE, Int.reduceLT, Int.reduceNeg, Int.reduceSub, Int.reduceAdd, decide_eq_true_eq, Bool.or_false, Bool.or_true, true_or, or_true, or_false, false_or, decide_not, bne_self_eq_false, Option.some.injEq, startS, startH, startScr, List.map, List.cons_append, List.nil_append, List.append_nil, List.length_cons, List.length_nil, List.length_set, List.replicate_zero, List.replicate_succ, Nat.reduceAdd, Nat.reduceSub, Nat.reduceLT, Nat.reduceLeDiff, Nat.zero_add, Nat.reduceMul, and_self, and_true, true_and, if_true, reduceIte, decide_true, decide_false, Nat.lt_irrefl, sif, sset, mD, mL, mLL, mLL0, stg, gset, gtup, gcons, gnil, sret, sfl, sdrop, saug, mtest, mnot, mand, mor, mandV, morV, mnotV, mife, mcallQ, mcallH, mcall, mcallL, mcallS, mcallSL, mcons, mnil, mv, mc, mop, mopL, mun, misi, mfrz, mP, pv', pop, mchain, mtrue, mrevL, mit, mitems, mcallScr, mscr, scrOf, mlcomp, oAdd, oSub, oMul, oDiv, oMod, oPow, oLt, oLe, oGt, oGe, o2I, o2IC, oNeg, oIsN, oNotN, oIsB, oNotB, oLst, oTup, oTupS, oLenS, asInt2, spar, spar3, sput, smut, oApp, mixS, slotL, ownL, SV.fz, oItems, oItemsT, oIxT, oIxL, oTupOf, oListOf, oEnumT, oLen, on1, oInt, oAbs, oMax2, oMin2, gput, unwipe, wipeS, oldS, mcallS, oExt, sappL, sapp2, sput2, pix2, pixS, oCatT, oCat, mslT, mpart, mnopart, List.getElem?_cons_zero, List.getElem?_cons_succ, List.set_cons_zero, List.set_cons_succ, ownLL_0, ownLL_1, ownLL_2, ownLL_3, ownLL_4, Rs.bind_ok, toRs_some, lift_some, asInt_int, asList_list, asTup_tup, noErr_ok, obind_some, asBool_bool, Bool.not_true, Bool.not_false, isT, isNone_none, isNone_int, isNone_bool, isNone_tup, isNone_list, ifT, ifF, hne, hsh]
      refine nr_fors (P := fun k st => ∃ l x8 x9 x10 x11 x12 x13 x14, HandOk l ∧ st = [some (.ol l), some (.d (.int n)), some (.d (wsD W)), some (.d (matL n (fw n W))), some (.d (matT n (fw n W))), x5, x6, some (.ol (((List.range W.length).filter (sdB n W)).map fun i => .int (i : Nat))), x8, x9, x10, x11, x12, x13, x14, none]) (ds := rangeD 0 4) ?_ ⟨_, _, _, _, _, _, _, _, h, rfl⟩ ?_ ?_
      · have h4 : oRange1 [PyData.int 4] = some (rangeD 0 4) := range1_nat (n := 4) (by omega)
        simp -implicitDefEqProofs only [nr_seq, after_app, nr_nx, nr_rt, br_ok, nr_ite, Int.cast_ofNat_Int, Int.reduceEq, ne_eq, not_true_eq_false, not_false_eq_true, Bool.false_eq_true, if_false, Int.reduceLE, Int.reduceLT, Int.reduceNeg, Int.reduceSub, Int.reduceAdd, decide_eq_true_eq, Bool.or_false, Bool.or_true, true_or, or_true, or_false, false_or, decide_not, bne_self_eq_false, Option.some.injEq, startS, startH, startScr, List.map, List.cons_append, List.nil_append, List.append_nil, List.length_cons, List.length_nil, List.length_set, List.replicate_zero, List.replicate_succ, Nat.reduceAdd, Nat.reduceSub, Nat.reduceLT, Nat.reduceLeDiff, Nat.zero_add, Nat.reduceMul, and_self, and_true, true_and, if_true, reduceIte, decide_true, decide_false, Nat.lt_irrefl, sif, sset, mD, mL, mLL, mLL0, stg, gset, gtup, gcons, gnil, sret, sfl, sdrop, saug, mtest, mnot, mand, mor, mandV, morV, mnotV, mife, mcallQ, mcallH, mcall, mcallL, mcallS, mcallSL, mcons, mnil, mv, mc, mop, mopL, mun, misi, mfrz, mP, pv', pop, mchain, mtrue, mrevL, mit, mitems, mcallScr, mscr, scrOf, mlcomp, oAdd, oSub, oMul, oDiv, oMod, oPow, oLt, oLe, oGt, oGe, o2I, o2IC, oNeg, oIsN, oNotN, oIsB, oNotB, oLst, oTup, oTupS, oLenS, asInt2, spar, spar3, sput, smut, oApp, mixS, slotL, ownL, SV.fz, oItems, oItemsT, oIxT, oIxL, oTupOf, oListOf, oEnumT, oLen, on1, oInt, oAbs, oMax2, oMin2, gput, unwipe, wipeS, oldS, mcallS, oExt, sappL, sapp2, sput2, pix2, pixS, oCatT, oCat, mslT, mpart, mnopart, List.getElem?_cons_zero, List.getElem?_cons_succ, List.set_cons_zero, List.set_cons_succ, ownLL_0, ownLL_1, ownLL_2, ownLL_3, ownLL_4, Rs.bind_ok, toRs_some, lift_some, asInt_int, asList_list, asTup_tup, noErr_ok, obind_some, asBool_bool, Bool.not_true, Bool.not_false, isT, isNone_none, isNone_int, isNone_bool, isNone_tup, isNone_list, ifT, ifF, h4]
      · rintro k d st hd ⟨l, x8, x9, x10, x11, x12, x13, x14, hh, rfl⟩
        obtain ⟨hk, rfl⟩ := rangeD_get hd
        obtain ⟨a, la, da, ha, hla⟩ := draw_I hh (z := n) rfl (by omega) (by omega)
        obtain ⟨b, lb, db, hb, hlb⟩ := draw_I hla (z := (n : Int) - 1) (many := n - 1) (by omega) (by omega) (by omega)
        obtain ⟨c, lc, dc, hc, hlc⟩ := draw_I hlb (z := 14) (many := 14) (by omega) (by omega) (by omega)
        have hbn : (a + 1 + b) % n < n := Nat.mod_lt _ (by omega)
        have hne2 := turn_ne ha hb
        have hw1 : Va n [(a, (a + 1 + b) % n, (c : Int) - 5)] := ⟨by omega, h30, by simp, fun a' b' m' hm' => by
          rw [List.mem_singleton] at hm'; cases hm'; exact ⟨ha, hbn, fun e => hne2 e.symm⟩, fun a' b' m' hm' => by
          rw [List.mem_singleton] at hm'; cases hm'; omega⟩
        have f1 := law_said_eq (M := fw n W) (m := (c : Int) - 5) ha hbn
        have f2 := is_said_eq hv hw1
        rw [hz, if_pos rfl] at f2
        have hsB : Va n (W ++ [((a + 1 + b) % n, a, - ((c : Int) - 5) - 1)]) := ⟨by omega, h30, by rw [List.length_append]; simp only [List.length_singleton]; omega, (hS.snoc hbn ha hne2 (by omega)).1, fun a' b' m' hm' => by
          have := (hS.snoc hbn ha hne2 (m := - ((c : Int) - 5) - 1) (by omega)).2 a' b' m' hm'
          omega⟩
        obtain ⟨X, f3, t, hX⟩ := told_eq hsB
        have f4 : decide (Lq (fw n W a ((a + 1 + b) % n)) ((c : Int) - 5)) = !fz n (W ++ [((a + 1 + b) % n, a, - ((c : Int) - 5) - 1)]) := by
          have g1 := said_iff hv.ok hfeas ha hbn (m := (c : Int) - 5)
          have g2 := fz_iff hsB
          cases hzz : fz n (W ++ [((a + 1 + b) % n, a, - ((c : Int) - 5) - 1)]) with
          | true => exact decide_eq_false fun e => g1.mp e (g2.mp hzz)
          | false => exact decide_eq_true (g1.mpr fun e => by rw [g2.mpr e] at hzz; cases hzz)
        subst hX
        rw [wsD_snoc] at f3
        rw [f4] at f1 f2
        revert f1 f2 f3
        generalize fz n (W ++ [((a + 1 + b) % n, a, - ((c : Int) - 5) - 1)]) = fb
        intro f1 f2 f3
        have f5 : (W.map wD).length + 1 ≤ 100000 := by rw [List.length_map]; omega
        unfold turn
        simp -implicitDefEqProofs only [nr_seq, after_app, nr_nx, nr_rt, br_ok, nr_ite, Int.cast_ofNat_Int, Int.reduceEq, ne_eq, not_true_eq_false, not_false_eq_true, Bool.false_eq_true, if_false, Int.reduceLE, Int.reduceLT, Int.reduceNeg, Int.reduceSub, Int.reduceAdd, decide_eq_true_eq, Bool.or_false, Bool.or_true, true_or, or_true, or_false, false_or, decide_not, bne_self_eq_false, Option.some.injEq, startS, startH, startScr, List.map, List.cons_append, List.nil_append, List.append_nil, List.length_cons, List.length_nil, List.length_set, List.replicate_zero, List.replicate_succ, Nat.reduceAdd, Nat.reduceSub, Nat.reduceLT, Nat.reduceLeDiff, Nat.zero_add, Nat.reduceMul, and_self, and_true, true_and, if_true, reduceIte, decide_true, decide_false, Nat.lt_irrefl, sif, sset, mD, mL, mLL, mLL0, stg, gset, gtup, gcons, gnil, sret, sfl, sdrop, saug, mtest, mnot, mand, mor, mandV, morV, mnotV, mife, mcallQ, mcallH, mcall, mcallL, mcallS, mcallSL, mcons, mnil, mv, mc, mop, mopL, mun, misi, mfrz, mP, pv', pop, mchain, mtrue, mrevL, mit, mitems, mcallScr, mscr, scrOf, mlcomp, oAdd, oSub, oMul, oDiv, oMod, oPow, oLt, oLe, oGt, oGe, o2I, o2IC, oNeg, oIsN, oNotN, oIsB, oNotB, oLst, oTup, oTupS, oLenS, asInt2, spar, spar3, sput, smut, oApp, mixS, slotL, ownL, SV.fz, oItems, oItemsT, oIxT, oIxL, oTupOf, oListOf, oEnumT, oLen, on1, oInt, oAbs, oMax2, oMin2, gput, unwipe, wipeS, oldS, mcallS, oExt, sappL, sapp2, sput2, pix2, pixS, oCatT, oCat, mslT, mpart, mnopart, List.getElem?_cons_zero, List.getElem?_cons_succ, List.set_cons_zero, List.set_cons_succ, ownLL_0, ownLL_1, ownLL_2, ownLL_3, ownLL_4, Rs.bind_ok, toRs_some, lift_some, asInt_int, asList_list, asTup_tup, noErr_ok, obind_some, asBool_bool, Bool.not_true, Bool.not_false, isT, isNone_none, isNone_int, isNone_bool, isNone_tup, isNone_list, ifT, ifF, da, db, dc, cMod, hn1, turn_int, f1, f2, at0, at1, at2, oNe_bool, f5, Int.zero_sub, f3, eq_ring]
        exact ⟨_, _, _, _, _, _, _, _, hlc, rfl⟩
      · rintro st ⟨l, x8, x9, x10, x11, x12, x13, x14, hh, rfl⟩
        simp -implicitDefEqProofs only [nr_seq, after_app, nr_nx, nr_rt, br_ok, nr_ite, Int.cast_ofNat_Int, Int.reduceEq, ne_eq, not_true_eq_false, not_false_eq_true, Bool.false_eq_true, if_false, Int.reduceLE, Int.reduceLT, Int.reduceNeg, Int.reduceSub, Int.reduceAdd, decide_eq_true_eq, Bool.or_false, Bool.or_true, true_or, or_true, or_false, false_or, decide_not, bne_self_eq_false, Option.some.injEq, startS, startH, startScr, List.map, List.cons_append, List.nil_append, List.append_nil, List.length_cons, List.length_nil, List.length_set, List.replicate_zero, List.replicate_succ, Nat.reduceAdd, Nat.reduceSub, Nat.reduceLT, Nat.reduceLeDiff, Nat.zero_add, Nat.reduceMul, and_self, and_true, true_and, if_true, reduceIte, decide_true, decide_false, Nat.lt_irrefl, sif, sset, mD, mL, mLL, mLL0, stg, gset, gtup, gcons, gnil, sret, sfl, sdrop, saug, mtest, mnot, mand, mor, mandV, morV, mnotV, mife, mcallQ, mcallH, mcall, mcallL, mcallS, mcallSL, mcons, mnil, mv, mc, mop, mopL, mun, misi, mfrz, mP, pv', pop, mchain, mtrue, mrevL, mit, mitems, mcallScr, mscr, scrOf, mlcomp, oAdd, oSub, oMul, oDiv, oMod, oPow, oLt, oLe, oGt, oGe, o2I, o2IC, oNeg, oIsN, oNotN, oIsB, oNotB, oLst, oTup, oTupS, oLenS, asInt2, spar, spar3, sput, smut, oApp, mixS, slotL, ownL, SV.fz, oItems, oItemsT, oIxT, oIxL, oTupOf, oListOf, oEnumT, oLen, on1, oInt, oAbs, oMax2, oMin2, gput, unwipe, wipeS, oldS, mcallS, oExt, sappL, sapp2, sput2, pix2, pixS, oCatT, oCat, mslT, mpart, mnopart, List.getElem?_cons_zero, List.getElem?_cons_succ, List.set_cons_zero, List.set_cons_succ, ownLL_0, ownLL_1, ownLL_2, ownLL_3, ownLL_4, Rs.bind_ok, toRs_some, lift_some, asInt_int, asList_list, asTup_tup, noErr_ok, obind_some, asBool_bool, Bool.not_true, Bool.not_false, isT, isNone_none, isNone_int, isNone_bool, isNone_tup, isNone_list, ifT, ifF]
        exact ⟨_, rfl, hh⟩
  · obtain ⟨i, hi, rfl⟩ := vec_mem hd
    unfold rowT
    simp -implicitDefEqProofs only [nr_seq, after_app, nr_nx, nr_rt, br_ok, nr_ite, Int.cast_ofNat_Int, Int.reduceEq, ne_eq, not_true_eq_false, not_false_eq_true, Bool.false_eq_true, if_false, Int.reduceLE, Int.reduceLT, Int.reduceNeg, Int.reduceSub, Int.reduceAdd, decide_eq_true_eq, Bool.or_false, Bool.or_true, true_or, or_true, or_false, false_or, decide_not, bne_self_eq_false, Option.some.injEq, startS, startH, startScr, List.map, List.cons_append, List.nil_append, List.append_nil, List.length_cons, List.length_nil, List.length_set, List.replicate_zero, List.replicate_succ, Nat.reduceAdd, Nat.reduceSub, Nat.reduceLT, Nat.reduceLeDiff, Nat.zero_add, Nat.reduceMul, and_self, and_true, true_and, if_true, reduceIte, decide_true, decide_false, Nat.lt_irrefl, sif, sset, mD, mL, mLL, mLL0, stg, gset, gtup, gcons, gnil, sret, sfl, sdrop, saug, mtest, mnot, mand, mor, mandV, morV, mnotV, mife, mcallQ, mcallH, mcall, mcallL, mcallS, mcallSL, mcons, mnil, mv, mc, mop, mopL, mun, misi, mfrz, mP, pv', pop, mchain, mtrue, mrevL, mit, mitems, mcallScr, mscr, scrOf, mlcomp, oAdd, oSub, oMul, oDiv, oMod, oPow, oLt, oLe, oGt, oGe, o2I, o2IC, oNeg, oIsN, oNotN, oIsB, oNotB, oLst, oTup, oTupS, oLenS, asInt2, spar, spar3, sput, smut, oApp, mixS, slotL, ownL, SV.fz, oItems, oItemsT, oIxT, oIxL, oTupOf, oListOf, oEnumT, oLen, on1, oInt, oAbs, oMax2, oMin2, gput, unwipe, wipeS, oldS, mcallS, oExt, sappL, sapp2, sput2, pix2, pixS, oCatT, oCat, mslT, mpart, mnopart, List.getElem?_cons_zero, List.getElem?_cons_succ, List.set_cons_zero, List.set_cons_succ, ownLL_0, ownLL_1, ownLL_2, ownLL_3, ownLL_4, Rs.bind_ok, toRs_some, lift_some, asInt_int, asList_list, asTup_tup, noErr_ok, obind_some, asBool_bool, Bool.not_true, Bool.not_false, isT, isNone_none, isNone_int, isNone_bool, isNone_tup, isNone_list, ifT, ifF, unT]
theorem is_right_ok {l : List D} (h : HandOk l) {n : Nat} (h2 : 2 ≤ n) (h30 : n ≤ 30) {W : List Wi} (hS : Small n W) (hl : W.length ≤ 6) : ∃ (d : D) (l' : List D), m__law_is_right l [.int n, wsD W] = .ok (d, l') ∧ d = .bool true ∧ HandOk l' := by
  have hv := hS.va (by omega) h30 (by omega)
  have hn1 : (0 : Int) < (n : Int) := by omega
  obtain ⟨s, l1, d1, hs, h1⟩ := draw_I h (z := n) rfl (by omega) (by omega)
  have hsh := shortest_eq hv
  have hbo := bounds_eq hv
  have hck := can_keep_eq hv
  have hso := soonest_moments_eq hv hs (by omega)
  have hls := law_soonest_eq hv hs (by omega)
  have hfl := fewest_left_eq hv hl
  have hlf := law_fewest_eq hv hl
  have hfe := oNe_self (sh_first (o := (allLv W.length).find? fun g => fz n (rest W g))) (by omega)
  revert hfl hlf hfe
  generalize firstD ((allLv W.length).find? fun g => fz n (rest W g)) = fe
  intro hfl hlf hfe
  have hmn : oNe (.none : D) .none = some (.bool false) := oNe_self (k := 0) sh_none (by omega)
  have hst : oNe (.tuple (vec n fun v => .int (soon W (n + 2) v))) (.tuple (vec n fun v => .int (soon W (n + 2) v))) = some (.bool false) := oNe_self (k := 1) (sh_tuple (sh_vec fun i => sh_int)) (by omega)
  have hmt := oNe_self (sh_matT (n := n) (M := fw n W)) (by omega)
  unfold m__law_is_right
  rw [is_right_split]
  refine mdefH_of (Z := fun d l' => d = .bool true ∧ HandOk l') ?_
  cases hz : fz n W with
  | false =>
    rw [hz, if_neg Bool.false_ne_true] at hsh hbo
    rw [hz] at hck
    cases hz2 : fz n (W ++ more n s) with
    | false =>
      rw [hz2, if_neg Bool.false_ne_true] at hso hls
      simp -implicitDefEqProofs only [nr_seq, after_app, nr_nx, nr_rt, br_ok, nr_ite, Int.cast_ofNat_Int, Int.reduceEq, ne_eq, not_true_eq_false, not_false_eq_true, Bool.false_eq_true, if_false, Int.reduceLE, Int.reduceLT, Int.reduceNeg, Int.reduceSub, Int.reduceAdd, decide_eq_true_eq, Bool.or_false, Bool.or_true, true_or, or_true, or_false, false_or, decide_not, bne_self_eq_false, Option.some.injEq, startS, startH, startScr, List.map, List.cons_append, List.nil_append, List.append_nil, List.length_cons, List.length_nil, List.length_set, List.replicate_zero, List.replicate_succ, Nat.reduceAdd, Nat.reduceSub, Nat.reduceLT, Nat.reduceLeDiff, Nat.zero_add, Nat.reduceMul, and_self, and_true, true_and, if_true, reduceIte, decide_true, decide_false, Nat.lt_irrefl, sif, sset, mD, mL, mLL, mLL0, stg, gset, gtup, gcons, gnil, sret, sfl, sdrop, saug, mtest, mnot, mand, mor, mandV, morV, mnotV, mife, mcallQ, mcallH, mcall, mcallL, mcallS, mcallSL, mcons, mnil, mv, mc, mop, mopL, mun, misi, mfrz, mP, pv', pop, mchain, mtrue, mrevL, mit, mitems, mcallScr, mscr, scrOf, mlcomp, oAdd, oSub, oMul, oDiv, oMod, oPow, oLt, oLe, oGt, oGe, o2I, o2IC, oNeg, oIsN, oNotN, oIsB, oNotB, oLst, oTup, oTupS, oLenS, asInt2, spar, spar3, sput, smut, oApp, mixS, slotL, ownL, SV.fz, oItems, oItemsT, oIxT, oIxL, oTupOf, oListOf, oEnumT, oLen, on1, oInt, oAbs, oMax2, oMin2, gput, unwipe, wipeS, oldS, mcallS, oExt, sappL, sapp2, sput2, pix2, pixS, oCatT, oCat, mslT, mpart, mnopart, List.getElem?_cons_zero, List.getElem?_cons_succ, List.set_cons_zero, List.set_cons_succ, ownLL_0, ownLL_1, ownLL_2, ownLL_3, ownLL_4, Rs.bind_ok, toRs_some, lift_some, asInt_int, asList_list, asTup_tup, noErr_ok, obind_some, asBool_bool, Bool.not_true, Bool.not_false, isT, isNone_none, isNone_int, isNone_bool, isNone_tup, isNone_list, ifT, ifF, hsh, hbo, hmn, oNe_bool, hck, d1, hso, hls, hfl, hlf, hfe]
      exact ⟨_, rfl, h1⟩
    | true =>
      rw [hz2, if_pos rfl] at hso hls
      simp -implicitDefEqProofs only [nr_seq, after_app, nr_nx, nr_rt, br_ok, nr_ite, Int.cast_ofNat_Int, Int.reduceEq, ne_eq, not_true_eq_false, not_false_eq_true, Bool.false_eq_true, if_false, Int.reduceLE, Int.reduceLT, Int.reduceNeg, Int.reduceSub, Int.reduceAdd, decide_eq_true_eq, Bool.or_false, Bool.or_true, true_or, or_true, or_false, false_or, decide_not, bne_self_eq_false, Option.some.injEq, startS, startH, startScr, List.map, List.cons_append, List.nil_append, List.append_nil, List.length_cons, List.length_nil, List.length_set, List.replicate_zero, List.replicate_succ, Nat.reduceAdd, Nat.reduceSub, Nat.reduceLT, Nat.reduceLeDiff, Nat.zero_add, Nat.reduceMul, and_self, and_true, true_and, if_true, reduceIte, decide_true, decide_false, Nat.lt_irrefl, sif, sset, mD, mL, mLL, mLL0, stg, gset, gtup, gcons, gnil, sret, sfl, sdrop, saug, mtest, mnot, mand, mor, mandV, morV, mnotV, mife, mcallQ, mcallH, mcall, mcallL, mcallS, mcallSL, mcons, mnil, mv, mc, mop, mopL, mun, misi, mfrz, mP, pv', pop, mchain, mtrue, mrevL, mit, mitems, mcallScr, mscr, scrOf, mlcomp, oAdd, oSub, oMul, oDiv, oMod, oPow, oLt, oLe, oGt, oGe, o2I, o2IC, oNeg, oIsN, oNotN, oIsB, oNotB, oLst, oTup, oTupS, oLenS, asInt2, spar, spar3, sput, smut, oApp, mixS, slotL, ownL, SV.fz, oItems, oItemsT, oIxT, oIxL, oTupOf, oListOf, oEnumT, oLen, on1, oInt, oAbs, oMax2, oMin2, gput, unwipe, wipeS, oldS, mcallS, oExt, sappL, sapp2, sput2, pix2, pixS, oCatT, oCat, mslT, mpart, mnopart, List.getElem?_cons_zero, List.getElem?_cons_succ, List.set_cons_zero, List.set_cons_succ, ownLL_0, ownLL_1, ownLL_2, ownLL_3, ownLL_4, Rs.bind_ok, toRs_some, lift_some, asInt_int, asList_list, asTup_tup, noErr_ok, obind_some, asBool_bool, Bool.not_true, Bool.not_false, isT, isNone_none, isNone_int, isNone_bool, isNone_tup, isNone_list, ifT, ifF, hsh, hbo, hmn, oNe_bool, hck, d1, hso, hls, hst, hfl, hlf, hfe]
      exact ⟨_, rfl, h1⟩
  | true =>
    have hfeas := (fz_iff hv).mp hz
    rw [hz, if_pos rfl] at hsh hbo
    rw [hz] at hck
    have hI1 : isNone (matL n (fw n W)) = false := by rfl
    have hI2 : isNone (matT n (fw n W)) = false := by rfl
    cases hz2 : fz n (W ++ more n s) with
    | false =>
      rw [hz2, if_neg Bool.false_ne_true] at hso hls
      simp -implicitDefEqProofs only [nr_seq, after_app, nr_nx, nr_rt, br_ok, nr_ite, Int.cast_ofNat_Int, Int.reduceEq, ne_eq, not_true_eq_false, not_false_eq_true, Bool.false_eq_true, if_false, Int.reduceLE, Int.reduceLT, Int.reduceNeg, Int.reduceSub, Int.reduceAdd, decide_eq_true_eq, Bool.or_false, Bool.or_true, true_or, or_true, or_false, false_or, decide_not, bne_self_eq_false, Option.some.injEq, startS, startH, startScr, List.map, List.cons_append, List.nil_append, List.append_nil, List.length_cons, List.length_nil, List.length_set, List.replicate_zero, List.replicate_succ, Nat.reduceAdd, Nat.reduceSub, Nat.reduceLT, Nat.reduceLeDiff, Nat.zero_add, Nat.reduceMul, and_self, and_true, true_and, if_true, reduceIte, decide_true, decide_false, Nat.lt_irrefl, sif, sset, mD, mL, mLL, mLL0, stg, gset, gtup, gcons, gnil, sret, sfl, sdrop, saug, mtest, mnot, mand, mor, mandV, morV, mnotV, mife, mcallQ, mcallH, mcall, mcallL, mcallS, mcallSL, mcons, mnil, mv, mc, mop, mopL, mun, misi, mfrz, mP, pv', pop, mchain, mtrue, mrevL, mit, mitems, mcallScr, mscr, scrOf, mlcomp, oAdd, oSub, oMul, oDiv, oMod, oPow, oLt, oLe, oGt, oGe, o2I, o2IC, oNeg, oIsN, oNotN, oIsB, oNotB, oLst, oTup, oTupS, oLenS, asInt2, spar, spar3, sput, smut, oApp, mixS, slotL, ownL, SV.fz, oItems, oItemsT, oIxT, oIxL, oTupOf, oListOf, oEnumT, oLen, on1, oInt, oAbs, oMax2, oMin2, gput, unwipe, wipeS, oldS, mcallS, oExt, sappL, sapp2, sput2, pix2, pixS, oCatT, oCat, mslT, mpart, mnopart, List.getElem?_cons_zero, List.getElem?_cons_succ, List.set_cons_zero, List.set_cons_succ, ownLL_0, ownLL_1, ownLL_2, ownLL_3, ownLL_4, Rs.bind_ok, toRs_some, lift_some, asInt_int, asList_list, asTup_tup, noErr_ok, obind_some, asBool_bool, Bool.not_true, Bool.not_false, isT, isNone_none, isNone_int, isNone_bool, isNone_tup, isNone_list, ifT, ifF, hsh, hbo, hmn, hmt, hI1, hI2, oNe_bool, hck, d1, hso, hls, hfl, hlf, hfe]
      exact rest_ok h1 h2 h30 hS hl hz
    | true =>
      rw [hz2, if_pos rfl] at hso hls
      simp -implicitDefEqProofs only [nr_seq, after_app, nr_nx, nr_rt, br_ok, nr_ite, Int.cast_ofNat_Int, Int.reduceEq, ne_eq, not_true_eq_false, not_false_eq_true, Bool.false_eq_true, if_false, Int.reduceLE, Int.reduceLT, Int.reduceNeg, Int.reduceSub, Int.reduceAdd, decide_eq_true_eq, Bool.or_false, Bool.or_true, true_or, or_true, or_false, false_or, decide_not, bne_self_eq_false, Option.some.injEq, startS, startH, startScr, List.map, List.cons_append, List.nil_append, List.append_nil, List.length_cons, List.length_nil, List.length_set, List.replicate_zero, List.replicate_succ, Nat.reduceAdd, Nat.reduceSub, Nat.reduceLT, Nat.reduceLeDiff, Nat.zero_add, Nat.reduceMul, and_self, and_true, true_and, if_true, reduceIte, decide_true, decide_false, Nat.lt_irrefl, sif, sset, mD, mL, mLL, mLL0, stg, gset, gtup, gcons, gnil, sret, sfl, sdrop, saug, mtest, mnot, mand, mor, mandV, morV, mnotV, mife, mcallQ, mcallH, mcall, mcallL, mcallS, mcallSL, mcons, mnil, mv, mc, mop, mopL, mun, misi, mfrz, mP, pv', pop, mchain, mtrue, mrevL, mit, mitems, mcallScr, mscr, scrOf, mlcomp, oAdd, oSub, oMul, oDiv, oMod, oPow, oLt, oLe, oGt, oGe, o2I, o2IC, oNeg, oIsN, oNotN, oIsB, oNotB, oLst, oTup, oTupS, oLenS, asInt2, spar, spar3, sput, smut, oApp, mixS, slotL, ownL, SV.fz, oItems, oItemsT, oIxT, oIxL, oTupOf, oListOf, oEnumT, oLen, on1, oInt, oAbs, oMax2, oMin2, gput, unwipe, wipeS, oldS, mcallS, oExt, sappL, sapp2, sput2, pix2, pixS, oCatT, oCat, mslT, mpart, mnopart, List.getElem?_cons_zero, List.getElem?_cons_succ, List.set_cons_zero, List.set_cons_succ, ownLL_0, ownLL_1, ownLL_2, ownLL_3, ownLL_4, Rs.bind_ok, toRs_some, lift_some, asInt_int, asList_list, asTup_tup, noErr_ok, obind_some, asBool_bool, Bool.not_true, Bool.not_false, isT, isNone_none, isNone_int, isNone_bool, isNone_tup, isNone_list, ifT, ifF, hsh, hbo, hmn, hmt, hI1, hI2, oNe_bool, hck, d1, hso, hls, hst, hfl, hlf, hfe]
      exact rest_ok h1 h2 h30 hS hl hz
end K39
namespace K39
open PySem L2 Evl Mir Wsh
theorem known1 : m_needless_wishes [.int 3, .tuple [.tuple [.int 0, .int 1, .int 3], .tuple [.int 1, .int 2, .int 2], .tuple [.int 0, .int 2, .int 5]]] = .ok (.tuple [.int 2]) := by kernel_rfl
theorem known2 : m_fewest_left [.int 2, .tuple [.tuple [.int 0, .int 1, .int 3], .tuple [.int 1, .int 0, .int (-4)]]] = .ok (.tuple [.int 0]) := by kernel_rfl
theorem known3 : m_is_said [.int 3, .tuple [.tuple [.int 0, .int 1, .int 3], .tuple [.int 1, .int 2, .int 2], .tuple [.int 0, .int 2, .int 5]], .tuple [.int 0, .int 2, .int 4]] = .ok (.bool false) := by kernel_rfl
def absI : D → D := fun d => match d with
  | .int i => .int (if i < 0 then -i else i)
  | d => d
theorem law_hand_ok {ns : List Int} (h : scriptOk ns) : ∃ l, m__law_hand ns = .ok l ∧ HandOk l := by
  have hl : (ns.take 63).length ≤ 100000 := by rw [List.length_take]; omega
  refine ⟨handL ((ns.take 63).map fun i => if i < 0 then -i else i) 0 0 (83 + 5 * ((ns.take 63).length : Int)) 0, ?_, _, _, _, _, _, rfl, Int.le_refl _⟩
  unfold m__law_hand b1__law_hand b2__law_hand mhand
  simp -implicitDefEqProofs only [nr_seq, after_app, nr_nx, nr_rt, br_ok, nr_ite, Int.cast_ofNat_Int, Int.reduceEq, ne_eq, not_true_eq_false, not_false_eq_true, Bool.false_eq_true, if_false, Int.reduceLE, Int.reduceLT, Int.reduceNeg, Int.reduceSub, Int.reduceAdd, decide_eq_true_eq, Bool.or_false, Bool.or_true, true_or, or_true, or_false, false_or, decide_not, bne_self_eq_false, Option.some.injEq, startS, startH, startScr, List.map, List.cons_append, List.nil_append, List.append_nil, List.length_cons, List.length_nil, List.length_set, List.replicate_zero, List.replicate_succ, Nat.reduceAdd, Nat.reduceSub, Nat.reduceLT, Nat.reduceLeDiff, Nat.zero_add, Nat.reduceMul, and_self, and_true, true_and, if_true, reduceIte, decide_true, decide_false, Nat.lt_irrefl, sif, sset, mD, mL, mLL, mLL0, stg, gset, gtup, gcons, gnil, sret, sfl, sdrop, saug, mtest, mnot, mand, mor, mandV, morV, mnotV, mife, mcallQ, mcallH, mcall, mcallL, mcallS, mcallSL, mcons, mnil, mv, mc, mop, mopL, mun, misi, mfrz, mP, pv', pop, mchain, mtrue, mrevL, mit, mitems, mcallScr, mscr, scrOf, mlcomp, oAdd, oSub, oMul, oDiv, oMod, oPow, oLt, oLe, oGt, oGe, o2I, o2IC, oNeg, oIsN, oNotN, oIsB, oNotB, oLst, oTup, oTupS, oLenS, asInt2, spar, spar3, sput, smut, oApp, mixS, slotL, ownL, SV.fz, oItems, oItemsT, oIxT, oIxL, oTupOf, oListOf, oEnumT, oLen, on1, oInt, oAbs, oMax2, oMin2, gput, unwipe, wipeS, oldS, mcallS, oExt, sappL, sapp2, sput2, pix2, pixS, oCatT, oCat, mslT, mpart, mnopart, List.getElem?_cons_zero, List.getElem?_cons_succ, List.set_cons_zero, List.set_cons_succ, ownLL_0, ownLL_1, ownLL_2, ownLL_3, ownLL_4, Rs.bind_ok, toRs_some, lift_some, asInt_int, asList_list, asTup_tup, noErr_ok, obind_some, asBool_bool, Bool.not_true, Bool.not_false, isT, isNone_none, isNone_int, isNone_bool, isNone_tup, isNone_list, ifT, ifF, List.length_map, hl]
  rw [mlc_all (v := absI) _ (fun d hd => ?_)]
  · have e1 : ((ns.take 63).map PyData.int).map absI = ((ns.take 63).map fun i => if i < 0 then -i else i).map PyData.int := by
      rw [List.map_map, List.map_map]; rfl
    simp -implicitDefEqProofs only [nr_seq, after_app, nr_nx, nr_rt, br_ok, nr_ite, Int.cast_ofNat_Int, Int.reduceEq, ne_eq, not_true_eq_false, not_false_eq_true, Bool.false_eq_true, if_false, Int.reduceLE, Int.reduceLT, Int.reduceNeg, Int.reduceSub, Int.reduceAdd, decide_eq_true_eq, Bool.or_false, Bool.or_true, true_or, or_true, or_false, false_or, decide_not, bne_self_eq_false, Option.some.injEq, startS, startH, startScr, List.map, List.cons_append, List.nil_append, List.append_nil, List.length_cons, List.length_nil, List.length_set, List.replicate_zero, List.replicate_succ, Nat.reduceAdd, Nat.reduceSub, Nat.reduceLT, Nat.reduceLeDiff, Nat.zero_add, Nat.reduceMul, and_self, and_true, true_and, if_true, reduceIte, decide_true, decide_false, Nat.lt_irrefl, sif, sset, mD, mL, mLL, mLL0, stg, gset, gtup, gcons, gnil, sret, sfl, sdrop, saug, mtest, mnot, mand, mor, mandV, morV, mnotV, mife, mcallQ, mcallH, mcall, mcallL, mcallS, mcallSL, mcons, mnil, mv, mc, mop, mopL, mun, misi, mfrz, mP, pv', pop, mchain, mtrue, mrevL, mit, mitems, mcallScr, mscr, scrOf, mlcomp, oAdd, oSub, oMul, oDiv, oMod, oPow, oLt, oLe, oGt, oGe, o2I, o2IC, oNeg, oIsN, oNotN, oIsB, oNotB, oLst, oTup, oTupS, oLenS, asInt2, spar, spar3, sput, smut, oApp, mixS, slotL, ownL, SV.fz, oItems, oItemsT, oIxT, oIxL, oTupOf, oListOf, oEnumT, oLen, on1, oInt, oAbs, oMax2, oMin2, gput, unwipe, wipeS, oldS, mcallS, oExt, sappL, sapp2, sput2, pix2, pixS, oCatT, oCat, mslT, mpart, mnopart, List.getElem?_cons_zero, List.getElem?_cons_succ, List.set_cons_zero, List.set_cons_succ, ownLL_0, ownLL_1, ownLL_2, ownLL_3, ownLL_4, Rs.bind_ok, toRs_some, lift_some, asInt_int, asList_list, asTup_tup, noErr_ok, obind_some, asBool_bool, Bool.not_true, Bool.not_false, isT, isNone_none, isNone_int, isNone_bool, isNone_tup, isNone_list, ifT, ifF, e1, cMul_l, List.length_map]
  · obtain ⟨i, hi, rfl⟩ := List.mem_map.mp hd
    unfold absI
    simp -implicitDefEqProofs only [nr_seq, after_app, nr_nx, nr_rt, br_ok, nr_ite, Int.cast_ofNat_Int, Int.reduceEq, ne_eq, not_true_eq_false, not_false_eq_true, Bool.false_eq_true, if_false, Int.reduceLE, Int.reduceLT, Int.reduceNeg, Int.reduceSub, Int.reduceAdd, decide_eq_true_eq, Bool.or_false, Bool.or_true, true_or, or_true, or_false, false_or, decide_not, bne_self_eq_false, Option.some.injEq, startS, startH, startScr, List.map, List.cons_append, List.nil_append, List.append_nil, List.length_cons, List.length_nil, List.length_set, List.replicate_zero, List.replicate_succ, Nat.reduceAdd, Nat.reduceSub, Nat.reduceLT, Nat.reduceLeDiff, Nat.zero_add, Nat.reduceMul, and_self, and_true, true_and, if_true, reduceIte, decide_true, decide_false, Nat.lt_irrefl, sif, sset, mD, mL, mLL, mLL0, stg, gset, gtup, gcons, gnil, sret, sfl, sdrop, saug, mtest, mnot, mand, mor, mandV, morV, mnotV, mife, mcallQ, mcallH, mcall, mcallL, mcallS, mcallSL, mcons, mnil, mv, mc, mop, mopL, mun, misi, mfrz, mP, pv', pop, mchain, mtrue, mrevL, mit, mitems, mcallScr, mscr, scrOf, mlcomp, oAdd, oSub, oMul, oDiv, oMod, oPow, oLt, oLe, oGt, oGe, o2I, o2IC, oNeg, oIsN, oNotN, oIsB, oNotB, oLst, oTup, oTupS, oLenS, asInt2, spar, spar3, sput, smut, oApp, mixS, slotL, ownL, SV.fz, oItems, oItemsT, oIxT, oIxL, oTupOf, oListOf, oEnumT, oLen, on1, oInt, oAbs, oMax2, oMin2, gput, unwipe, wipeS, oldS, mcallS, oExt, sappL, sapp2, sput2, pix2, pixS, oCatT, oCat, mslT, mpart, mnopart, List.getElem?_cons_zero, List.getElem?_cons_succ, List.set_cons_zero, List.set_cons_succ, ownLL_0, ownLL_1, ownLL_2, ownLL_3, ownLL_4, Rs.bind_ok, toRs_some, lift_some, asInt_int, asList_list, asTup_tup, noErr_ok, obind_some, asBool_bool, Bool.not_true, Bool.not_false, isT, isNone_none, isNone_int, isNone_bool, isNone_tup, isNone_list, ifT, ifF]
theorem law_true : ∀ ns, scriptOk ns → mlaw 5 b_law ns = .ok (.bool true) := by
  intro ns h
  obtain ⟨l, hl, hh⟩ := law_hand_ok h
  have e2 : oNe (.tuple [.int 2]) (.tuple [.int 2]) = some (.bool false) := oNe_self (k := 1) (sh_lot (g := [2])) (by omega)
  have e0 : oNe (.tuple [.int 0]) (.tuple [.int 0]) = some (.bool false) := oNe_self (k := 1) (sh_lot (g := [0])) (by omega)
  unfold b_law
  refine mlaw_of ?_
  simp -implicitDefEqProofs only [nr_seq, after_app, nr_nx, nr_rt, br_ok, nr_ite, Int.cast_ofNat_Int, Int.reduceEq, ne_eq, not_true_eq_false, not_false_eq_true, Bool.false_eq_true, if_false, Int.reduceLE, Int.reduceLT, Int.reduceNeg, Int.reduceSub, Int.reduceAdd, decide_eq_true_eq, Bool.or_false, Bool.or_true, true_or, or_true, or_false, false_or, decide_not, bne_self_eq_false, Option.some.injEq, startS, startH, startScr, List.map, List.cons_append, List.nil_append, List.append_nil, List.length_cons, List.length_nil, List.length_set, List.replicate_zero, List.replicate_succ, Nat.reduceAdd, Nat.reduceSub, Nat.reduceLT, Nat.reduceLeDiff, Nat.zero_add, Nat.reduceMul, and_self, and_true, true_and, if_true, reduceIte, decide_true, decide_false, Nat.lt_irrefl, sif, sset, mD, mL, mLL, mLL0, stg, gset, gtup, gcons, gnil, sret, sfl, sdrop, saug, mtest, mnot, mand, mor, mandV, morV, mnotV, mife, mcallQ, mcallH, mcall, mcallL, mcallS, mcallSL, mcons, mnil, mv, mc, mop, mopL, mun, misi, mfrz, mP, pv', pop, mchain, mtrue, mrevL, mit, mitems, mcallScr, mscr, scrOf, mlcomp, oAdd, oSub, oMul, oDiv, oMod, oPow, oLt, oLe, oGt, oGe, o2I, o2IC, oNeg, oIsN, oNotN, oIsB, oNotB, oLst, oTup, oTupS, oLenS, asInt2, spar, spar3, sput, smut, oApp, mixS, slotL, ownL, SV.fz, oItems, oItemsT, oIxT, oIxL, oTupOf, oListOf, oEnumT, oLen, on1, oInt, oAbs, oMax2, oMin2, gput, unwipe, wipeS, oldS, mcallS, oExt, sappL, sapp2, sput2, pix2, pixS, oCatT, oCat, mslT, mpart, mnopart, List.getElem?_cons_zero, List.getElem?_cons_succ, List.set_cons_zero, List.set_cons_succ, ownLL_0, ownLL_1, ownLL_2, ownLL_3, ownLL_4, Rs.bind_ok, toRs_some, lift_some, asInt_int, asList_list, asTup_tup, noErr_ok, obind_some, asBool_bool, Bool.not_true, Bool.not_false, isT, isNone_none, isNone_int, isNone_bool, isNone_tup, isNone_list, ifT, ifF, hl, known1, known2, known3, e2, e0]
  refine nr_fors (P := fun i st => ∃ l x3 x4, HandOk l ∧ st = [some (.scr ns), some (.ol l), some (.d (.tuple [.tuple [.int 0, .int 1, .int 3], .tuple [.int 1, .int 2, .int 2], .tuple [.int 0, .int 2, .int 5]])), x3, x4]) (ds := rangeD 0 5) ?_ ⟨_, _, _, hh, rfl⟩ ?_ ?_
  · have h5 : oRange1 [PyData.int 5] = some (rangeD 0 5) := range1_nat (n := 5) (by omega)
    simp -implicitDefEqProofs only [nr_seq, after_app, nr_nx, nr_rt, br_ok, nr_ite, Int.cast_ofNat_Int, Int.reduceEq, ne_eq, not_true_eq_false, not_false_eq_true, Bool.false_eq_true, if_false, Int.reduceLE, Int.reduceLT, Int.reduceNeg, Int.reduceSub, Int.reduceAdd, decide_eq_true_eq, Bool.or_false, Bool.or_true, true_or, or_true, or_false, false_or, decide_not, bne_self_eq_false, Option.some.injEq, startS, startH, startScr, List.map, List.cons_append, List.nil_append, List.append_nil, List.length_cons, List.length_nil, List.length_set, List.replicate_zero, List.replicate_succ, Nat.reduceAdd, Nat.reduceSub, Nat.reduceLT, Nat.reduceLeDiff, Nat.zero_add, Nat.reduceMul, and_self, and_true, true_and, if_true, reduceIte, decide_true, decide_false, Nat.lt_irrefl, sif, sset, mD, mL, mLL, mLL0, stg, gset, gtup, gcons, gnil, sret, sfl, sdrop, saug, mtest, mnot, mand, mor, mandV, morV, mnotV, mife, mcallQ, mcallH, mcall, mcallL, mcallS, mcallSL, mcons, mnil, mv, mc, mop, mopL, mun, misi, mfrz, mP, pv', pop, mchain, mtrue, mrevL, mit, mitems, mcallScr, mscr, scrOf, mlcomp, oAdd, oSub, oMul, oDiv, oMod, oPow, oLt, oLe, oGt, oGe, o2I, o2IC, oNeg, oIsN, oNotN, oIsB, oNotB, oLst, oTup, oTupS, oLenS, asInt2, spar, spar3, sput, smut, oApp, mixS, slotL, ownL, SV.fz, oItems, oItemsT, oIxT, oIxL, oTupOf, oListOf, oEnumT, oLen, on1, oInt, oAbs, oMax2, oMin2, gput, unwipe, wipeS, oldS, mcallS, oExt, sappL, sapp2, sput2, pix2, pixS, oCatT, oCat, mslT, mpart, mnopart, List.getElem?_cons_zero, List.getElem?_cons_succ, List.set_cons_zero, List.set_cons_succ, ownLL_0, ownLL_1, ownLL_2, ownLL_3, ownLL_4, Rs.bind_ok, toRs_some, lift_some, asInt_int, asList_list, asTup_tup, noErr_ok, obind_some, asBool_bool, Bool.not_true, Bool.not_false, isT, isNone_none, isNone_int, isNone_bool, isNone_tup, isNone_list, ifT, ifF, h5]
  · rintro i d st hd ⟨l, x3, x4, hh, rfl⟩
    obtain ⟨hi, rfl⟩ := rangeD_get hd
    obtain ⟨a, la, da, ha, hla⟩ := draw_I hh (z := 4) (many := 4) (by omega) (by omega) (by omega)
    obtain ⟨d2, lb, hw, W, rfl, hlb, hS, hWl⟩ := law_wishes_ok hla (many := 2 + a) (by omega) (by omega)
    obtain ⟨d3, lc, hr, rfl, hlc⟩ := is_right_ok hlb (n := 2 + a) (by omega) (by omega) hS hWl
    have e : (2 : Int) + (a : Int) = ((2 + a : Nat) : Int) := by omega
    unfold turn
    simp -implicitDefEqProofs only [nr_seq, after_app, nr_nx, nr_rt, br_ok, nr_ite, Int.cast_ofNat_Int, Int.reduceEq, ne_eq, not_true_eq_false, not_false_eq_true, Bool.false_eq_true, if_false, Int.reduceLE, Int.reduceLT, Int.reduceNeg, Int.reduceSub, Int.reduceAdd, decide_eq_true_eq, Bool.or_false, Bool.or_true, true_or, or_true, or_false, false_or, decide_not, bne_self_eq_false, Option.some.injEq, startS, startH, startScr, List.map, List.cons_append, List.nil_append, List.append_nil, List.length_cons, List.length_nil, List.length_set, List.replicate_zero, List.replicate_succ, Nat.reduceAdd, Nat.reduceSub, Nat.reduceLT, Nat.reduceLeDiff, Nat.zero_add, Nat.reduceMul, and_self, and_true, true_and, if_true, reduceIte, decide_true, decide_false, Nat.lt_irrefl, sif, sset, mD, mL, mLL, mLL0, stg, gset, gtup, gcons, gnil, sret, sfl, sdrop, saug, mtest, mnot, mand, mor, mandV, morV, mnotV, mife, mcallQ, mcallH, mcall, mcallL, mcallS, mcallSL, mcons, mnil, mv, mc, mop, mopL, mun, misi, mfrz, mP, pv', pop, mchain, mtrue, mrevL, mit, mitems, mcallScr, mscr, scrOf, mlcomp, oAdd, oSub, oMul, oDiv, oMod, oPow, oLt, oLe, oGt, oGe, o2I, o2IC, oNeg, oIsN, oNotN, oIsB, oNotB, oLst, oTup, oTupS, oLenS, asInt2, spar, spar3, sput, smut, oApp, mixS, slotL, ownL, SV.fz, oItems, oItemsT, oIxT, oIxL, oTupOf, oListOf, oEnumT, oLen, on1, oInt, oAbs, oMax2, oMin2, gput, unwipe, wipeS, oldS, mcallS, oExt, sappL, sapp2, sput2, pix2, pixS, oCatT, oCat, mslT, mpart, mnopart, List.getElem?_cons_zero, List.getElem?_cons_succ, List.set_cons_zero, List.set_cons_succ, ownLL_0, ownLL_1, ownLL_2, ownLL_3, ownLL_4, Rs.bind_ok, toRs_some, lift_some, asInt_int, asList_list, asTup_tup, noErr_ok, obind_some, asBool_bool, Bool.not_true, Bool.not_false, isT, isNone_none, isNone_int, isNone_bool, isNone_tup, isNone_list, ifT, ifF, da, e, hw, hr]
    exact ⟨_, _, _, hlc, rfl⟩
  · rintro st ⟨l, x3, x4, hh, rfl⟩
    simp -implicitDefEqProofs only [nr_seq, after_app, nr_nx, nr_rt, br_ok, nr_ite, Int.cast_ofNat_Int, Int.reduceEq, ne_eq, not_true_eq_false, not_false_eq_true, Bool.false_eq_true, if_false, Int.reduceLE, Int.reduceLT, Int.reduceNeg, Int.reduceSub, Int.reduceAdd, decide_eq_true_eq, Bool.or_false, Bool.or_true, true_or, or_true, or_false, false_or, decide_not, bne_self_eq_false, Option.some.injEq, startS, startH, startScr, List.map, List.cons_append, List.nil_append, List.append_nil, List.length_cons, List.length_nil, List.length_set, List.replicate_zero, List.replicate_succ, Nat.reduceAdd, Nat.reduceSub, Nat.reduceLT, Nat.reduceLeDiff, Nat.zero_add, Nat.reduceMul, and_self, and_true, true_and, if_true, reduceIte, decide_true, decide_false, Nat.lt_irrefl, sif, sset, mD, mL, mLL, mLL0, stg, gset, gtup, gcons, gnil, sret, sfl, sdrop, saug, mtest, mnot, mand, mor, mandV, morV, mnotV, mife, mcallQ, mcallH, mcall, mcallL, mcallS, mcallSL, mcons, mnil, mv, mc, mop, mopL, mun, misi, mfrz, mP, pv', pop, mchain, mtrue, mrevL, mit, mitems, mcallScr, mscr, scrOf, mlcomp, oAdd, oSub, oMul, oDiv, oMod, oPow, oLt, oLe, oGt, oGe, o2I, o2IC, oNeg, oIsN, oNotN, oIsB, oNotB, oLst, oTup, oTupS, oLenS, asInt2, spar, spar3, sput, smut, oApp, mixS, slotL, ownL, SV.fz, oItems, oItemsT, oIxT, oIxL, oTupOf, oListOf, oEnumT, oLen, on1, oInt, oAbs, oMax2, oMin2, gput, unwipe, wipeS, oldS, mcallS, oExt, sappL, sapp2, sput2, pix2, pixS, oCatT, oCat, mslT, mpart, mnopart, List.getElem?_cons_zero, List.getElem?_cons_succ, List.set_cons_zero, List.set_cons_succ, ownLL_0, ownLL_1, ownLL_2, ownLL_3, ownLL_4, Rs.bind_ok, toRs_some, lift_some, asInt_int, asList_list, asTup_tup, noErr_ok, obind_some, asBool_bool, Bool.not_true, Bool.not_false, isT, isNone_none, isNone_int, isNone_bool, isNone_tup, isNone_list, ifT, ifF]
end K39
namespace K39
open PySem PySem.Spec PyProof.Rows L2 Evl Mir
def d_is_integer : He.DefD := ⟨("is_integer", none), "is_integer", "is_integer", defArgs s_is_integer, defBody s_is_integer, defScope s_is_integer, [], []⟩
def d_is_within : He.DefD := ⟨("is_within", none), "is_within", "is_within", defArgs s_is_within, defBody s_is_within, defScope s_is_within, [], []⟩
def d_is_row : He.DefD := ⟨("is_row", none), "is_row", "is_row", defArgs s_is_row, defBody s_is_row, defScope s_is_row, [], []⟩
def d_is_wishes : He.DefD := ⟨("is_wishes", none), "is_wishes", "is_wishes", defArgs s_is_wishes, defBody s_is_wishes, defScope s_is_wishes, [], []⟩
def d_check_wishes : He.DefD := ⟨("check_wishes", none), "check_wishes", "check_wishes", defArgs s_check_wishes, defBody s_check_wishes, defScope s_check_wishes, [], []⟩
def d_settled : He.DefD := ⟨("settled", none), "settled", "settled", defArgs s_settled, defBody s_settled, defScope s_settled, [], []⟩
def d_wishes_told : He.DefD := ⟨("wishes_told", none), "wishes_told", "wishes_told", defArgs s_wishes_told, defBody s_wishes_told, defScope s_wishes_told, [], []⟩
def d_can_keep : He.DefD := ⟨("can_keep", none), "can_keep", "can_keep", defArgs s_can_keep, defBody s_can_keep, defScope s_can_keep, [], []⟩
def d_bounds : He.DefD := ⟨("bounds", none), "bounds", "bounds", defArgs s_bounds, defBody s_bounds, defScope s_bounds, [], []⟩
def d_is_said : He.DefD := ⟨("is_said", none), "is_said", "is_said", defArgs s_is_said, defBody s_is_said, defScope s_is_said, [], []⟩
def d_needless_wishes : He.DefD := ⟨("needless_wishes", none), "needless_wishes", "needless_wishes", defArgs s_needless_wishes, defBody s_needless_wishes, defScope s_needless_wishes, [], []⟩
def d_soonest_moments : He.DefD := ⟨("soonest_moments", none), "soonest_moments", "soonest_moments", defArgs s_soonest_moments, defBody s_soonest_moments, defScope s_soonest_moments, [], []⟩
def d_fewest_left : He.DefD := ⟨("fewest_left", none), "fewest_left", "fewest_left", defArgs s_fewest_left, defBody s_fewest_left, defScope s_fewest_left, [], []⟩
def d__law_hand : He.DefD := ⟨("_law_hand", none), "_law_hand", "_law_hand", defArgs s__law_hand, defBody s__law_hand, defScope s__law_hand, [], []⟩
def d__law_draw : He.DefD := ⟨("_law_draw", none), "_law_draw", "_law_draw", defArgs s__law_draw, defBody s__law_draw, defScope s__law_draw, [], []⟩
def d__law_shortest : He.DefD := ⟨("_law_shortest", none), "_law_shortest", "_law_shortest", defArgs s__law_shortest, defBody s__law_shortest, defScope s__law_shortest, [], []⟩
def d__law_wishes : He.DefD := ⟨("_law_wishes", none), "_law_wishes", "_law_wishes", defArgs s__law_wishes, defBody s__law_wishes, defScope s__law_wishes, [], []⟩
def d__law_are_kept : He.DefD := ⟨("_law_are_kept", none), "_law_are_kept", "_law_are_kept", defArgs s__law_are_kept, defBody s__law_are_kept, defScope s__law_are_kept, [], []⟩
def d__law_soonest : He.DefD := ⟨("_law_soonest", none), "_law_soonest", "_law_soonest", defArgs s__law_soonest, defBody s__law_soonest, defScope s__law_soonest, [], []⟩
def d__law_fewest : He.DefD := ⟨("_law_fewest", none), "_law_fewest", "_law_fewest", defArgs s__law_fewest, defBody s__law_fewest, defScope s__law_fewest, [], []⟩
def d__law_is_said : He.DefD := ⟨("_law_is_said", none), "_law_is_said", "_law_is_said", defArgs s__law_is_said, defBody s__law_is_said, defScope s__law_is_said, [], []⟩
def d__law_is_right : He.DefD := ⟨("_law_is_right", none), "_law_is_right", "_law_is_right", defArgs s__law_is_right, defBody s__law_is_right, defScope s__law_is_right, [], []⟩
def d_law : He.DefD := ⟨("law", none), "law", "law", defArgs s_law, defBody s_law, defScope s_law, [], []⟩
def fns : List He.DefD := [d_is_integer, d_is_within, d_is_row, d_is_wishes, d_check_wishes, d_settled, d_wishes_told, d_can_keep, d_bounds, d_is_said, d_needless_wishes, d_soonest_moments, d_fewest_left, d__law_hand, d__law_draw, d__law_shortest, d__law_wishes, d__law_are_kept, d__law_soonest, d__law_fewest, d__law_is_said, d__law_is_right, d_law]
def fas : List He.Fa := (bis.map .free) ++ [.glo "is_integer", .glo "is_within", .glo "is_row", .glo "is_wishes", .glo "check_wishes", .glo "settled", .glo "wishes_told", .glo "can_keep", .glo "bounds", .glo "is_said", .glo "needless_wishes", .glo "soonest_moments", .glo "fewest_left", .glo "_law_hand", .glo "_law_draw", .glo "_law_shortest", .glo "_law_wishes", .glo "_law_are_kept", .glo "_law_soonest", .glo "_law_fewest", .glo "_law_is_said", .glo "_law_is_right", .glo "law", .int "MOST_GAP" 10000]
abbrev R : PySem.W.OpenRow := PySem.W.OpenLaw.row PySem.Challenge.rw_pinnedtunes_k39_whole_wishes_say_bounds
abbrev hk : PySem.W.Hook := He.hookD 4 fas fns
def ob (s : PySem.W.SharedT) : He.AlD := He.obsDG 4 fas fns (HandSHeadRun.getT s)
theorem ob_eq (s : PySem.W.SharedT) : ob s = hk.obs s.abs := He.obsDG_eq (HandSHeadRun.getT_eq s)
def loose0 : List Str := ["is_integer", "is_within", "is_row", "TuneError", "NoNumber", "NoWishes", "MOST_GAP", "is_wishes", "check_wishes", "settled", "wishes_told", "can_keep", "bounds", "is_said", "needless_wishes", "soonest_moments", "fewest_left", "_law_hand", "_law_draw", "_law_shortest", "_law_wishes", "_law_are_kept", "_law_soonest", "_law_fewest", "_law_is_said", "_law_is_right"]
def looseA : List Str := loose0
theorem run (w : World) : HandSHeadRun.RunEq R (PySem.W.view R.prog [30]) hk ob 3000 looseA w := by
  intro os
  kernel_rfl
theorem facts {P : Program} {w : World} {K : PySem.W.Frag} {h : Heap} {mg : Str → Option Value} {f : Addr} (X : K.In h) (G : h.Ns mainGlobals mg) (hfa : mg ("law" : Str) = some (.ref f)) (c : He.SaysD fas fns K)
    (hlaw : ∀ ns, scriptOk ns → mlaw 5 b_law ns = .ok (.bool true)) :
    ∃ fd : FuncData, (∀ (s : Shared) (v : Value), BindsTo s fd ⟨[v], []⟩ [("script", v)]) ∧ ∀ base : Heap, K.In base → base.Ns mainGlobals mg → FnOk P w K mg base CX0 12 f fd ["script"] (spLaw K scriptOk) := by
  have hb : Bi mg := fun x hx => by
    obtain ⟨i, hi⟩ := List.mem_iff_getElem?.mp hx
    refine He.free_ok X G (c.fact i (f := .free x) ?_)
    unfold fas
    rw [List.getElem?_append_left (by rw [List.length_map]; exact (List.getElem?_eq_some_iff.mp hi).1), List.getElem?_map, hi]
    rfl
  have g0 := He.glo_ok X G (c.fact (bis.length + 0) (f := .glo "is_integer") rfl)
  have g1 := He.glo_ok X G (c.fact (bis.length + 1) (f := .glo "is_within") rfl)
  have g2 := He.glo_ok X G (c.fact (bis.length + 2) (f := .glo "is_row") rfl)
  have g3 := He.glo_ok X G (c.fact (bis.length + 3) (f := .glo "is_wishes") rfl)
  have g4 := He.glo_ok X G (c.fact (bis.length + 4) (f := .glo "check_wishes") rfl)
  have g5 := He.glo_ok X G (c.fact (bis.length + 5) (f := .glo "settled") rfl)
  have g6 := He.glo_ok X G (c.fact (bis.length + 6) (f := .glo "wishes_told") rfl)
  have g7 := He.glo_ok X G (c.fact (bis.length + 7) (f := .glo "can_keep") rfl)
  have g8 := He.glo_ok X G (c.fact (bis.length + 8) (f := .glo "bounds") rfl)
  have g9 := He.glo_ok X G (c.fact (bis.length + 9) (f := .glo "is_said") rfl)
  have g10 := He.glo_ok X G (c.fact (bis.length + 10) (f := .glo "needless_wishes") rfl)
  have g11 := He.glo_ok X G (c.fact (bis.length + 11) (f := .glo "soonest_moments") rfl)
  have g12 := He.glo_ok X G (c.fact (bis.length + 12) (f := .glo "fewest_left") rfl)
  have g13 := He.glo_ok X G (c.fact (bis.length + 13) (f := .glo "_law_hand") rfl)
  have g14 := He.glo_ok X G (c.fact (bis.length + 14) (f := .glo "_law_draw") rfl)
  have g15 := He.glo_ok X G (c.fact (bis.length + 15) (f := .glo "_law_shortest") rfl)
  have g16 := He.glo_ok X G (c.fact (bis.length + 16) (f := .glo "_law_wishes") rfl)
  have g17 := He.glo_ok X G (c.fact (bis.length + 17) (f := .glo "_law_are_kept") rfl)
  have g18 := He.glo_ok X G (c.fact (bis.length + 18) (f := .glo "_law_soonest") rfl)
  have g19 := He.glo_ok X G (c.fact (bis.length + 19) (f := .glo "_law_fewest") rfl)
  have g20 := He.glo_ok X G (c.fact (bis.length + 20) (f := .glo "_law_is_said") rfl)
  have g21 := He.glo_ok X G (c.fact (bis.length + 21) (f := .glo "_law_is_right") rfl)
  have g22 := He.glo_ok X G (c.fact (bis.length + 22) (f := .glo "law") rfl)
  obtain ⟨t_MOST_GAP, g_MOST_GAP⟩ := He.int_ok X G (c.fact (bis.length + 23) (f := .int "MOST_GAP" 10000) rfl)
  obtain ⟨fd0, F0⟩ := c.def_ 0 (d := d_is_integer) rfl
  obtain ⟨fd1, F1⟩ := c.def_ 1 (d := d_is_within) rfl
  obtain ⟨fd2, F2⟩ := c.def_ 2 (d := d_is_row) rfl
  obtain ⟨fd3, F3⟩ := c.def_ 3 (d := d_is_wishes) rfl
  obtain ⟨fd4, F4⟩ := c.def_ 4 (d := d_check_wishes) rfl
  obtain ⟨fd5, F5⟩ := c.def_ 5 (d := d_settled) rfl
  obtain ⟨fd6, F6⟩ := c.def_ 6 (d := d_wishes_told) rfl
  obtain ⟨fd7, F7⟩ := c.def_ 7 (d := d_can_keep) rfl
  obtain ⟨fd8, F8⟩ := c.def_ 8 (d := d_bounds) rfl
  obtain ⟨fd9, F9⟩ := c.def_ 9 (d := d_is_said) rfl
  obtain ⟨fd10, F10⟩ := c.def_ 10 (d := d_needless_wishes) rfl
  obtain ⟨fd11, F11⟩ := c.def_ 11 (d := d_soonest_moments) rfl
  obtain ⟨fd12, F12⟩ := c.def_ 12 (d := d_fewest_left) rfl
  obtain ⟨fd13, F13⟩ := c.def_ 13 (d := d__law_hand) rfl
  obtain ⟨fd14, F14⟩ := c.def_ 14 (d := d__law_draw) rfl
  obtain ⟨fd15, F15⟩ := c.def_ 15 (d := d__law_shortest) rfl
  obtain ⟨fd16, F16⟩ := c.def_ 16 (d := d__law_wishes) rfl
  obtain ⟨fd17, F17⟩ := c.def_ 17 (d := d__law_are_kept) rfl
  obtain ⟨fd18, F18⟩ := c.def_ 18 (d := d__law_soonest) rfl
  obtain ⟨fd19, F19⟩ := c.def_ 19 (d := d__law_fewest) rfl
  obtain ⟨fd20, F20⟩ := c.def_ 20 (d := d__law_is_said) rfl
  obtain ⟨fd21, F21⟩ := c.def_ 21 (d := d__law_is_right) rfl
  obtain ⟨fd22, F22⟩ := c.def_ 22 (d := d_law) rfl
  have h_is_integer : ∀ base, Callee P w K mg base 1 "is_integer" ["thing"] (spP K eo0 1 m_is_integer) := fun base => ⟨⟨_, fd0, ok_is_integer hb F0, g0, F0.kp, F0.bindsN fun _ _ _ _ _ _ us hl => match us, hl with | [_], _ => rfl⟩⟩
  have h_is_within : ∀ base, Callee P w K mg base 2 "is_within" ["thing", "least", "most"] (spP K eo0 3 m_is_within) := fun base => ⟨⟨_, fd1, ok_is_within hb (h_is_integer base) F1, g1, F1.kp, F1.bindsN fun _ _ _ _ _ _ us hl => match us, hl with | [_, _, _], _ => rfl⟩⟩
  have h_is_row : ∀ base, Callee P w K mg base 3 "is_row" ["thing", "many", "least", "most"] (spP K eo0 4 m_is_row) := fun base => ⟨⟨_, fd2, ok_is_row hb (h_is_within base) F2, g2, F2.kp, F2.bindsN fun _ _ _ _ _ _ us hl => match us, hl with | [_, _, _, _], _ => rfl⟩⟩
  have h_is_wishes : ∀ base, Callee P w K mg base 4 "is_wishes" ["many", "thing"] (spP K eo0 2 m_is_wishes) := fun base => ⟨⟨_, fd3, ok_is_wishes hb g_MOST_GAP (h_is_within base) (h_is_row base) F3, g3, F3.kp, F3.bindsN fun _ _ _ _ _ _ us hl => match us, hl with | [_, _], _ => rfl⟩⟩
  have h_check_wishes : ∀ base, Callee P w K mg base 5 "check_wishes" ["many", "wishes"] (spP K eo0 2 m_check_wishes) := fun base => ⟨⟨_, fd4, ok_check_wishes hb (h_is_wishes base) F4, g4, F4.kp, F4.bindsN fun _ _ _ _ _ _ us hl => match us, hl with | [_, _], _ => rfl⟩⟩
  have h_settled : ∀ base, Callee P w K mg base 1 "settled" ["many", "wishes"] (spP K eo0 2 m_settled) := fun base => ⟨⟨_, fd5, ok_settled hb F5, g5, F5.kp, F5.bindsN fun _ _ _ _ _ _ us hl => match us, hl with | [_, _], _ => rfl⟩⟩
  have h_wishes_told : ∀ base, Callee P w K mg base 6 "wishes_told" ["many", "wishes"] (spP K eo0 2 m_wishes_told) := fun base => ⟨⟨_, fd6, ok_wishes_told hb (h_check_wishes base) (h_settled base) F6, g6, F6.kp, F6.bindsN fun _ _ _ _ _ _ us hl => match us, hl with | [_, _], _ => rfl⟩⟩
  have h_can_keep : ∀ base, Callee P w K mg base 7 "can_keep" ["many", "wishes"] (spP K eo0 2 m_can_keep) := fun base => ⟨⟨_, fd7, ok_can_keep hb (h_wishes_told base) F7, g7, F7.kp, F7.bindsN fun _ _ _ _ _ _ us hl => match us, hl with | [_, _], _ => rfl⟩⟩
  have h_bounds : ∀ base, Callee P w K mg base 8 "bounds" ["many", "wishes"] (spP K eo0 2 m_bounds) := fun base => ⟨⟨_, fd8, ok_bounds hb (h_can_keep base) F8, g8, F8.kp, F8.bindsN fun _ _ _ _ _ _ us hl => match us, hl with | [_, _], _ => rfl⟩⟩
  have h_is_said : ∀ base, Callee P w K mg base 9 "is_said" ["many", "wishes", "wish"] (spP K eo0 3 m_is_said) := fun base => ⟨⟨_, fd9, ok_is_said hb (h_check_wishes base) (h_bounds base) F9, g9, F9.kp, F9.bindsN fun _ _ _ _ _ _ us hl => match us, hl with | [_, _, _], _ => rfl⟩⟩
  have h_needless_wishes : ∀ base, Callee P w K mg base 10 "needless_wishes" ["many", "wishes"] (spP K eo0 2 m_needless_wishes) := fun base => ⟨⟨_, fd10, ok_needless_wishes hb (h_check_wishes base) (h_is_said base) F10, g10, F10.kp, F10.bindsN fun _ _ _ _ _ _ us hl => match us, hl with | [_, _], _ => rfl⟩⟩
  have h_soonest_moments : ∀ base, Callee P w K mg base 9 "soonest_moments" ["many", "wishes", "begin"] (spP K eo0 3 m_soonest_moments) := fun base => ⟨⟨_, fd11, ok_soonest_moments hb (h_is_within base) (h_check_wishes base) (h_bounds base) F11, g11, F11.kp, F11.bindsN fun _ _ _ _ _ _ us hl => match us, hl with | [_, _, _], _ => rfl⟩⟩
  have h_fewest_left : ∀ base, Callee P w K mg base 8 "fewest_left" ["many", "wishes"] (spP K eo0 2 m_fewest_left) := fun base => ⟨⟨_, fd12, ok_fewest_left hb (h_check_wishes base) (h_can_keep base) F12, g12, F12.kp, F12.bindsN fun _ _ _ _ _ _ us hl => match us, hl with | [_, _], _ => rfl⟩⟩
  have h__law_hand : ∀ base, Callee P w K mg base 1 "_law_hand" ["script"] (spScr K m__law_hand) := fun base => ⟨⟨_, fd13, ok__law_hand hb F13, g13, F13.kp, F13.bindsN fun _ _ _ _ _ _ us hl => match us, hl with | [_], _ => rfl⟩⟩
  have h__law_draw : ∀ base, Callee P w K mg base 1 "_law_draw" ["hand", "many"] (spH K eo0 2 m__law_draw) := fun base => ⟨⟨_, fd14, ok__law_draw hb F14, g14, F14.kp, F14.bindsN fun _ _ _ _ _ _ us hl => match us, hl with | [_, _], _ => rfl⟩⟩
  have h__law_shortest : ∀ base, Callee P w K mg base 1 "_law_shortest" ["many", "wishes"] (spP K eo0 2 m__law_shortest) := fun base => ⟨⟨_, fd15, ok__law_shortest hb F15, g15, F15.kp, F15.bindsN fun _ _ _ _ _ _ us hl => match us, hl with | [_, _], _ => rfl⟩⟩
  have h__law_wishes : ∀ base, Callee P w K mg base 2 "_law_wishes" ["hand", "many", "most"] (spH K eo0 3 m__law_wishes) := fun base => ⟨⟨_, fd16, ok__law_wishes hb (h__law_draw base) F16, g16, F16.kp, F16.bindsN fun _ _ _ _ _ _ us hl => match us, hl with | [_, _, _], _ => rfl⟩⟩
  have h__law_are_kept : ∀ base, Callee P w K mg base 1 "_law_are_kept" ["wishes", "ends_told"] (spP K eo0 2 m__law_are_kept) := fun base => ⟨⟨_, fd17, ok__law_are_kept hb F17, g17, F17.kp, F17.bindsN fun _ _ _ _ _ _ us hl => match us, hl with | [_, _], _ => rfl⟩⟩
  have h__law_soonest : ∀ base, Callee P w K mg base 2 "_law_soonest" ["many", "wishes", "begin"] (spP K eo0 3 m__law_soonest) := fun base => ⟨⟨_, fd18, ok__law_soonest hb (h__law_are_kept base) F18, g18, F18.kp, F18.bindsN fun _ _ _ _ _ _ us hl => match us, hl with | [_, _, _], _ => rfl⟩⟩
  have h__law_fewest : ∀ base, Callee P w K mg base 2 "_law_fewest" ["many", "wishes"] (spP K eo0 2 m__law_fewest) := fun base => ⟨⟨_, fd19, ok__law_fewest hb (h__law_shortest base) F19, g19, F19.kp, F19.bindsN fun _ _ _ _ _ _ us hl => match us, hl with | [_, _], _ => rfl⟩⟩
  have h__law_is_said : ∀ base, Callee P w K mg base 1 "_law_is_said" ["far", "wish"] (spP K eo0 2 m__law_is_said) := fun base => ⟨⟨_, fd20, ok__law_is_said hb F20, g20, F20.kp, F20.bindsN fun _ _ _ _ _ _ us hl => match us, hl with | [_, _], _ => rfl⟩⟩
  have h__law_is_right : ∀ base, Callee P w K mg base 11 "_law_is_right" ["hand", "many", "wishes"] (spH K eo0 3 m__law_is_right) := fun base => ⟨⟨_, fd21, ok__law_is_right hb (h_wishes_told base) (h_can_keep base) (h_bounds base) (h_is_said base) (h_needless_wishes base) (h_soonest_moments base) (h_fewest_left base) (h__law_draw base) (h__law_shortest base) (h__law_soonest base) (h__law_fewest base) (h__law_is_said base) F21, g21, F21.kp, F21.bindsN fun _ _ _ _ _ _ us hl => match us, hl with | [_, _, _], _ => rfl⟩⟩
  have e := hfa.symm.trans g22
  cases e
  have b := FunD.bindsA (ps := ["script"]) F22 fun _ _ _ _ _ _ us hl => match us, hl with | [_], _ => rfl
  exact ⟨fd22, fun s v => b s [v] rfl, fun base _ _ => ok_law hb (h_is_said base) (h_needless_wishes base) (h_fewest_left base) (h__law_hand base) (h__law_draw base) (h__law_wishes base) (h__law_is_right base) hlaw F22⟩
end K39
open PySem PySem.W PySem.Calls PyProof.Rows
theorem PySem.Challenge.cw_pinnedtunes_k39_whole_wishes_say_bounds_holds : PySem.Challenge.rw_pinnedtunes_k39_whole_wishes_say_bounds.Holds := by
  w_on; o_law
  refine HandSHeadRun.head_any (r := OpenLaw.row PySem.Challenge.rw_pinnedtunes_k39_whole_wishes_say_bounds) (q := view (OpenLaw.row PySem.Challenge.rw_pinnedtunes_k39_whole_wishes_say_bounds).prog [30]) (H := K39.hk) (ob := K39.ob) (M := 3000) (loose := K39.looseA) (d := HandSHeadRun.topDef (OpenLaw.row PySem.Challenge.rw_pinnedtunes_k39_whole_wishes_say_bounds).prog 30) (kwd := []) K39.ob_eq
    (by kernel_rfl) (fun s => by kernel_rfl) K39.run (by kernel_rfl) (by kernel_rfl) (by kernel_rfl) (by rfl) (by first | assumption | decide +kernel) (by decide +kernel) ⟨rfl, rfl, rfl, rfl, rfl, by decide +kernel⟩ ?hw ?hc
  case hw => w_witness2
  case hc =>
    refine L2.walk_ofE (l := PySem.Challenge.rw_pinnedtunes_k39_whole_wishes_say_bounds) (n := 63) (k := 12) (x := "script") (CX := L2.CX0) rfl (by decide) (by kernel_rfl) ⟨rfl, by decide, by decide⟩ ?F (fun _ _ _ _ z => z)
    intro w mg fa h Y G hmg0
    obtain ⟨K, KX, c⟩ := Y
    have hmg : mg ("law" : PySem.Str) = some (.ref fa) := by
      have e : (HandSHeadRun.topDef (OpenLaw.row PySem.Challenge.rw_pinnedtunes_k39_whole_wishes_say_bounds).prog 30).name = ("law" : PySem.Str) := by kernel_rfl
      rw [← e]
      exact hmg0
    obtain ⟨fd, hb, hF⟩ := K39.facts (P := (PySem.Challenge.rw_pinnedtunes_k39_whole_wishes_say_bounds).prog) (w := w) KX G hmg c K39.law_true
    exact ⟨K, fd, Mir.spLaw K K39.scriptOk, KX, hb, fun H a ns hl _ hS => ⟨a, ns, rfl, hS, hl, fun _ => rfl⟩, hF⟩
