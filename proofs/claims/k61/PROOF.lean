import PyProof.Rows.All
import Wide.All
import OpenK.AllK
import Wide.FinOn
import HandS.ForMost
import HandS.Ends
import HandS.Walk
import HandS.Zip
import HandS.IsInst
import HandS.TupAny
import HandS.TupMul
import HandS.Deep
import HandS.Wide
import HandS.WideBits
import HandS.More
import HandS.Conv
import HandS.RaiseMore
import HandS.NoneIn
import HandS.Star
import HandS.Style
import PyProof.ReprRoads
import KE.KDictZip
import HandS.ListItems
import KE.KRevSl
import KE.KeyNested
import KE.KDictKeyed
import HandS.TupSets
import HandS.Strs
import HandS.Defaults
import HandS.HeadHook3
import HandS.HeadEnd
import HandS.Head0
import HandS.Head1
import HandS.Head2
import HandS.HeadHook1
import HandS.HeadHook2
import PySem.Challenge.RW_sealedweights_k61_things_as_certificates
set_option Elab.async false
set_option linter.all false
set_option maxRecDepth 100000
set_option maxHeartbeats 4000000
/-! DLCore: the data layer. Python data as a Lean type D; what a value represents in the frozen part F of the heap; judgements
that an expression, a statement computes a Lean function of the slots' data. -/
namespace DL
open PySem PySem.Spec PyProof.Rows L2

/-- data -/
inductive D where
  | non | bl (b : Bool) | int (i : Int) | str (x : Str)
  | lst (xs : List D) | tup (xs : List D) | dct (kvs : List (Key × D))
  /-- the law's script: a list that may stand in the written part -/
  | scr (ns : List Int)
  /-- a built-in class -/
  | typ (n : String)

/-- a slot's content: data that nothing changes any more, or an own list, an own dict -/
inductive Sl where
  | im (d : D) | ol (xs : List D) | od (kvs : List (Key × D))
def Sl.own : Sl → Bool
  | .im _ => false
  | _ => true
/-- the data as it is now -/
def Sl.d : Sl → D
  | .im d => d
  | .ol xs => .lst xs
  | .od kvs => .dct kvs
abbrev En := List (Option Sl)

mutual
/-- the value represents the data, by the objects of F alone -/
inductive Rp (K : PySem.W.Frag) (F : Hp) : V → D → Prop
  | non : Rp K F .non .non
  | bl (b : Bool) : Rp K F (.bl b) (.bl b)
  | int (i : Int) : Rp K F (.int i) (.int i)
  | str (x : Str) : Rp K F (.str x) (.str x)
  | lst {a : Addr} {vs : List V} {ds : List D} : F a = some (.lst vs) → RpL K F vs ds → Rp K F (.ref a) (.lst ds)
  | tup {a : Addr} {vs : List V} {ds : List D} : SqT K F a vs → RpL K F vs ds → Rp K F (.ref a) (.tup ds)
  | dct {a : Addr} {vs : List (Key × V)} {ds : List (Key × D)} : F a = some (.dK vs) → RpK K F vs ds → Rp K F (.ref a) (.dct ds)
  | scr {a : Addr} {ns : List Int} : SqL K F a (ns.map V.int) → Rp K F (.ref a) (.scr ns)
  | typ (n : String) : Rp K F (.ty n) (.typ n)
inductive RpL (K : PySem.W.Frag) (F : Hp) : List V → List D → Prop
  | nil : RpL K F [] []
  | cons {v : V} {vs : List V} {d : D} {ds : List D} : Rp K F v d → RpL K F vs ds → RpL K F (v :: vs) (d :: ds)
inductive RpK (K : PySem.W.Frag) (F : Hp) : List (Key × V) → List (Key × D) → Prop
  | nil : RpK K F [] []
  | cons {k : Key} {v : V} {vs : List (Key × V)} {d : D} {ds : List (Key × D)} : Rp K F v d → RpK K F vs ds → RpK K F ((k, v) :: vs) ((k, d) :: ds)
end

section rep
variable {K : PySem.W.Frag} {F F' H H' : Hp}
theorem sqL_ext {a : Addr} {xs : List V} (e : Same H H') (h : SqL K H a xs) : SqL K H' a xs := e.seq h
theorem sqT_ext {a : Addr} {xs : List V} (e : Same H H') (h : SqT K H a xs) : SqT K H' a xs := by
  rcases h with (h | ⟨o, h⟩) | h
  · exact .inl (.inl (e _ _ h))
  · exact .inl (.inr ⟨o, e _ _ h⟩)
  · exact .inr h
mutual
theorem Rp.ext (e : Same F F') : ∀ {v : V} {d : D}, Rp K F v d → Rp K F' v d
  | _, _, .non => .non
  | _, _, .bl b => .bl b
  | _, _, .int i => .int i
  | _, _, .str x => .str x
  | _, _, .lst h a => .lst (e _ _ h) (RpL.ext e a)
  | _, _, .scr h => .scr (sqL_ext e h)
  | _, _, .typ n => .typ n
  | _, _, .tup h a => .tup (sqT_ext e h) (RpL.ext e a)
  | _, _, .dct h a => .dct (e _ _ h) (RpK.ext e a)
theorem RpL.ext (e : Same F F') : ∀ {v : List V} {d : List D}, RpL K F v d → RpL K F' v d
  | _, _, .nil => .nil
  | _, _, .cons h t => .cons (Rp.ext e h) (RpL.ext e t)
theorem RpK.ext (e : Same F F') : ∀ {v : List (Key × V)} {d : List (Key × D)}, RpK K F v d → RpK K F' v d
  | _, _, .nil => .nil
  | _, _, .cons h t => .cons (Rp.ext e h) (RpK.ext e t)
end
theorem RpL.len : ∀ {v : List V} {d : List D}, RpL K F v d → v.length = d.length
  | _, _, .nil => rfl
  | _, _, .cons _ t => by simp [RpL.len t]
theorem RpL.app : ∀ {v v' : List V} {d d' : List D}, RpL K F v d → RpL K F v' d' → RpL K F (v ++ v') (d ++ d')
  | _, _, _, _, .nil, s => s
  | _, _, _, _, .cons h t, s => .cons h (RpL.app t s)
theorem RpL.get : ∀ {v : List V} {d : List D} {i : Nat} {x : V}, RpL K F v d → v[i]? = some x → ∃ y, d[i]? = some y ∧ Rp K F x y
  | _, _, _, _, .nil, e => by simp at e
  | _, _, 0, _, .cons h _, e => by
    simp at e
    subst e
    exact ⟨_, rfl, h⟩
  | _, _, i + 1, _, .cons _ t, e => by
    obtain ⟨y, h1, h2⟩ := RpL.get (i := i) t (by simpa using e)
    exact ⟨y, by simpa using h1, h2⟩
theorem RpL.get' : ∀ {v : List V} {d : List D} {i : Nat} {y : D}, RpL K F v d → d[i]? = some y → ∃ x, v[i]? = some x ∧ Rp K F x y
  | _, _, _, _, .nil, e => by simp at e
  | _, _, 0, _, .cons h _, e => by
    simp at e
    subst e
    exact ⟨_, rfl, h⟩
  | _, _, i + 1, _, .cons _ t, e => by
    obtain ⟨y, h1, h2⟩ := RpL.get' (i := i) t (by simpa using e)
    exact ⟨y, by simpa using h1, h2⟩
theorem RpL.set {x : V} {y : D} (r : Rp K F x y) : ∀ {v : List V} {d : List D} (i : Nat), RpL K F v d → RpL K F (v.set i x) (d.set i y)
  | _, _, _, .nil => .nil
  | _, _, 0, .cons _ t => .cons r t
  | _, _, i + 1, .cons h t => .cons h (RpL.set r i t)
theorem RpL.take : ∀ {v : List V} {d : List D} (n : Nat), RpL K F v d → RpL K F (v.take n) (d.take n)
  | _, _, 0, _ => .nil
  | _, _, _ + 1, .nil => .nil
  | _, _, n + 1, .cons h t => .cons h (RpL.take n t)
theorem RpL.drop : ∀ {v : List V} {d : List D} (n : Nat), RpL K F v d → RpL K F (v.drop n) (d.drop n)
  | _, _, 0, r => r
  | _, _, _ + 1, .nil => .nil
  | _, _, n + 1, .cons _ t => RpL.drop n t
theorem RpL.rev : ∀ {v : List V} {d : List D}, RpL K F v d → RpL K F v.reverse d.reverse
  | _, _, .nil => .nil
  | _, _, .cons h t => by
    rw [List.reverse_cons, List.reverse_cons]
    exact RpL.app (RpL.rev t) (.cons h .nil)
theorem RpL.join : ∀ {vs : List (List V)} {ds : List (List D)}, Paired (RpL K F) vs ds → RpL K F vs.flatten ds.flatten
  | _, _, .nil => .nil
  | _, _, .cons h t => by
    rw [List.flatten_cons, List.flatten_cons]
    exact h.app (RpL.join t)
theorem RpK.len : ∀ {v : List (Key × V)} {d : List (Key × D)}, RpK K F v d → v.length = d.length
  | _, _, .nil => rfl
  | _, _, .cons _ t => by simp [RpK.len t]
theorem Rp.int_inv {v : V} {i : Int} (h : Rp K F v (.int i)) : v = .int i := by cases h; rfl
theorem Rp.bl_inv {v : V} {i : Bool} (h : Rp K F v (.bl i)) : v = .bl i := by cases h; rfl
theorem Rp.str_inv {v : V} {i : Str} (h : Rp K F v (.str i)) : v = .str i := by cases h; rfl
theorem Rp.non_inv {v : V} (h : Rp K F v .non) : v = .non := by cases h; rfl
theorem Rp.lst_inv {v : V} {ds : List D} (h : Rp K F v (.lst ds)) : ∃ a vs, v = .ref a ∧ F a = some (.lst vs) ∧ RpL K F vs ds := by
  cases h with
  | lst h a => exact ⟨_, _, rfl, h, a⟩
theorem Rp.tup_inv {v : V} {ds : List D} (h : Rp K F v (.tup ds)) : ∃ a vs, v = .ref a ∧ SqT K F a vs ∧ RpL K F vs ds := by
  cases h with
  | tup h a => exact ⟨_, _, rfl, h, a⟩
theorem Rp.dct_inv {v : V} {ds : List (Key × D)} (h : Rp K F v (.dct ds)) : ∃ a vs, v = .ref a ∧ F a = some (.dK vs) ∧ RpK K F vs ds := by
  cases h with
  | dct h a => exact ⟨_, _, rfl, h, a⟩
theorem Rp.scr_inv {v : V} {ns : List Int} (h : Rp K F v (.scr ns)) : ∃ a, v = .ref a ∧ SqL K F a (ns.map V.int) := by
  cases h with
  | scr h => exact ⟨_, rfl, h⟩
end rep

/-! ### the heap's parts -/
abbrev Own := Addr → Prop
/-- F frozen, O own -/
structure SW (F H : Hp) (O : Own) : Prop where
  ex : Same F H
  off : ∀ a, O a → F a = none
  live : ∀ a, O a → H a ≠ none
/-- from one state to a later one -/
structure Tr (F H : Hp) (O : Own) (F' H' : Hp) (O' : Own) : Prop where
  ex : Same F F'
  keep : ∀ a o, H a = some o → ¬ O a → H' a = some o
  own : ∀ a, O' a → O a ∨ H a = none
  frz : ∀ a, F' a ≠ none → F a ≠ none ∨ O a ∨ H a = none
  live : ∀ a, H a ≠ none → H' a ≠ none
def O0 : Own := fun _ => False
section
variable {F H F1 H1 F2 H2 : Hp} {O O1 O2 : Own}
theorem Tr.refl : Tr F H O F H O := ⟨Same.refl _, fun _ _ h _ => h, fun _ h => .inl h, fun _ h => .inl h, fun _ h => h⟩
theorem Tr.trans (a : Tr F H O F1 H1 O1) (b : Tr F1 H1 O1 F2 H2 O2) : Tr F H O F2 H2 O2 where
  ex := a.ex.trans b.ex
  keep := fun x o e n => b.keep x o (a.keep x o e n) fun q => by
    rcases a.own x q with z | z
    · exact n z
    · rw [z] at e; cases e
  own := fun x q => by
    rcases b.own x q with z | z
    · exact a.own x z
    · right
      cases e : H x with
      | none => rfl
      | some o => exact absurd z (a.live x (by rw [e]; simp))
  frz := fun x q => by
    rcases b.frz x q with z | z | z
    · exact a.frz x z
    · right; exact a.own x z
    · right; right
      cases e : H x with
      | none => rfl
      | some o => exact absurd z (a.live x (by rw [e]; simp))
  live := fun x q => b.live x (a.live x q)
theorem ne_of_new {H : Hp} {a p : Addr} (hp : H p = none) (h : H a ≠ none) : a ≠ p := fun e => h (e ▸ hp)
theorem same_new {H : Hp} {p : Addr} {o : HO} (h : H p = none) : Same H (upd H p o) := fun a u e => by
  rw [upd_ne (ne_of_none e h)]
  exact e
theorem same_both {F H : Hp} {p : Addr} {o : HO} (e : Same F H) : Same (upd F p o) (upd H p o) := fun a u q => by
  by_cases ha : a = p
  · subst ha
    rw [upd_same] at q ⊢
    exact q
  · rw [upd_ne ha] at q ⊢
    exact e a u q
theorem same_none {F H : Hp} (e : Same F H) {p : Addr} (h : H p = none) : F p = none := e.free h
/-- a new object that nothing will change -/
theorem Tr.newF {p : Addr} {o : HO} (w : SW F H O) (h : H p = none) : Tr F H O (upd F p o) (upd H p o) O where
  ex := same_new (same_none w.ex h)
  keep := fun a u e _ => same_new h a u e
  own := fun _ q => .inl q
  frz := fun a q => by
    by_cases ha : a = p
    · subst ha
      exact .inr (.inr h)
    · rw [upd_ne ha] at q
      exact .inl q
  live := fun a q => by
    rw [upd_ne (ne_of_new h q)]
    exact q
theorem SW.newF {p : Addr} {o : HO} (w : SW F H O) (h : H p = none) : SW (upd F p o) (upd H p o) O where
  ex := same_both w.ex
  off := fun a q => by
    rw [upd_ne (ne_of_new h (w.live a q))]
    exact w.off a q
  live := fun a q => by
    rw [upd_ne (ne_of_new h (w.live a q))]
    exact w.live a q
/-- O and one more -/
def OA (O : Own) (p : Addr) : Own := fun a => O a ∨ a = p
/-- a new own object -/
theorem Tr.newO {p : Addr} {o : HO} (h : H p = none) : Tr F H O F (upd H p o) (OA O p) where
  ex := Same.refl _
  keep := fun a u e _ => same_new h a u e
  own := fun a q => by
    rcases q with z | z
    · exact .inl z
    · subst z
      exact .inr h
  frz := fun a q => .inl q
  live := fun a q => by
    rw [upd_ne (ne_of_new h q)]
    exact q
theorem SW.newO {p : Addr} {o : HO} (w : SW F H O) (h : H p = none) : SW F (upd H p o) (OA O p) where
  ex := w.ex.trans (same_new h)
  off := fun a q => by
    rcases q with z | z
    · exact w.off a z
    · subst z
      exact same_none w.ex h
  live := fun a q => by
    by_cases ha : a = p
    · subst ha
      rw [upd_same]
      simp
    · rw [upd_ne ha]
      rcases q with z | z
      · exact w.live a z
      · exact absurd z ha
/-- an own object written -/
theorem Tr.wr {p : Addr} {o : HO} (w : SW F H O) (h : O p) : Tr F H O F (upd H p o) O where
  ex := Same.refl _
  keep := fun a u e n => by
    rw [upd_ne (fun z => by subst z; exact n h)]
    exact e
  own := fun a q => .inl q
  frz := fun a q => .inl q
  live := fun a q => by
    by_cases ha : a = p
    · subst ha
      rw [upd_same]
      simp
    · rw [upd_ne ha]
      exact q
theorem SW.wr {p : Addr} {o : HO} (w : SW F H O) (h : O p) : SW F (upd H p o) O where
  ex := fun a u e => by
    have : a ≠ p := fun z => by
      subst z
      rw [w.off a h] at e
      cases e
    rw [upd_ne this]
    exact w.ex a u e
  off := w.off
  live := fun a q => by
    by_cases ha : a = p
    · subst ha
      rw [upd_same]
      simp
    · rw [upd_ne ha]
      exact w.live a q
/-- an own object frozen -/
def OD (O : Own) (p : Addr) : Own := fun a => O a ∧ a ≠ p
theorem Tr.fz {p : Addr} {o : HO} (w : SW F H O) (h : O p) (e : H p = some o) : Tr F H O (upd F p o) H (OD O p) where
  ex := same_new (w.off p h)
  keep := fun a u e _ => e
  own := fun a q => .inl q.1
  frz := fun a q => by
    by_cases ha : a = p
    · subst ha
      exact .inr (.inl h)
    · rw [upd_ne ha] at q
      exact .inl q
  live := fun a q => q
theorem SW.fz {p : Addr} {o : HO} (w : SW F H O) (h : O p) (e : H p = some o) : SW (upd F p o) H (OD O p) where
  ex := fun a u q => by
    by_cases ha : a = p
    · subst ha
      rw [upd_same] at q
      cases q
      exact e
    · rw [upd_ne ha] at q
      exact w.ex a u q
  off := fun a q => by
    rw [upd_ne q.2]
    exact w.off a q.1
  live := fun a q => w.live a q.1
end

/-- what stands in a slot -/
def SlR (K : PySem.W.Frag) (F H : Hp) (O : Own) : Sl → V → Prop
  | .im d, v => Rp K F v d
  | .ol xs, v => ∃ p vs, v = .ref p ∧ O p ∧ H p = some (.lst vs) ∧ RpL K F vs xs
  | .od kvs, v => ∃ p vs, v = .ref p ∧ O p ∧ H p = some (.dK vs) ∧ RpK K F vs kvs
/-- the state and the slots' data -/
structure ER (K : PySem.W.Frag) (F H : Hp) (O : Own) (σ : L2.St) (ρ : En) : Prop where
  sw : SW F H O
  len : σ.length = ρ.length
  sl : ∀ (i : Nat) (s : Sl), ρ[i]? = some (some s) → ∃ v, σ[i]? = some (some v) ∧ SlR K F H O s v
  dis : ∀ (i j : Nat) (s t : Sl) (v : V), i ≠ j → ρ[i]? = some (some s) → ρ[j]? = some (some t) → s.own = true → t.own = true → σ[i]? = some (some v) → σ[j]? = some (some v) → False

section
variable {K : PySem.W.Frag} {F H F' H' : Hp} {O O' : Own} {σ : L2.St} {ρ ρ' : En}
theorem SlR.own_at {s : Sl} {v : V} (h : SlR K F H O s v) (e : s.own = true) : ∃ p, v = .ref p ∧ O p := by
  cases s with
  | im d => cases e
  | ol xs => obtain ⟨p, vs, h1, h2, _⟩ := h; exact ⟨p, h1, h2⟩
  | od xs => obtain ⟨p, vs, h1, h2, _⟩ := h; exact ⟨p, h1, h2⟩
/-- what stands in a slot, later: the frozen part may have grown, the own objects of s stand as they stood -/
theorem SlR.mono {s : Sl} {v : V} (h : SlR K F H O s v) (e : Same F F') (k : ∀ p o, v = .ref p → O p → H p = some o → H' p = some o ∧ O' p) : SlR K F' H' O' s v := by
  cases s with
  | im d => exact Rp.ext e h
  | ol xs =>
    obtain ⟨p, vs, h1, h2, h3, h4⟩ := h
    obtain ⟨k1, k2⟩ := k p _ h1 h2 h3
    exact ⟨p, vs, h1, k2, k1, h4.ext e⟩
  | od xs =>
    obtain ⟨p, vs, h1, h2, h3, h4⟩ := h
    obtain ⟨k1, k2⟩ := k p _ h1 h2 h3
    exact ⟨p, vs, h1, k2, k1, h4.ext e⟩
/-- the own objects of the slots stand as they stood -/
theorem ER.later (h : ER K F H O σ ρ) (w : SW F' H' O') (e : Same F F') (k : ∀ p o, O p → H p = some o → H' p = some o ∧ O' p) : ER K F' H' O' σ ρ :=
  ⟨w, h.len, fun i s q => by
    obtain ⟨v, h1, h2⟩ := h.sl i s q
    exact ⟨v, h1, h2.mono e fun p o _ a b => k p o a b⟩, h.dis⟩
theorem ER.newF {p : Addr} {o : HO} (h : ER K F H O σ ρ) (n : H p = none) : ER K (upd F p o) (upd H p o) O σ ρ :=
  h.later (h.sw.newF n) (same_new (same_none h.sw.ex n)) fun q u a b => ⟨by rw [upd_ne (ne_of_none b n)]; exact b, a⟩
theorem ER.newO {p : Addr} {o : HO} (h : ER K F H O σ ρ) (n : H p = none) : ER K F (upd H p o) (OA O p) σ ρ :=
  h.later (h.sw.newO n) (Same.refl _) fun q u a b => ⟨by rw [upd_ne (ne_of_none b n)]; exact b, .inl a⟩
/-- a slot is stored -/
theorem ER.set {i : Nat} {s : Sl} {v : V} (h : ER K F H O σ ρ) (r : SlR K F H O s v) (fr : s.own = true → ∀ (j : Nat) (t : Sl), j ≠ i → ρ[j]? = some (some t) → t.own = true → σ[j]? ≠ some (some v)) : ER K F H O (σ.set i (some v)) (ρ.set i (some s)) := by
  refine ⟨h.sw, by simp [h.len], fun j t q => ?_, fun a b s1 t1 x hab ha hb hs ht hx hy => ?_⟩
  · by_cases hj : j = i
    · subst hj
      have hl : j < ρ.length := by
        have := List.getElem?_eq_some_iff.mp q
        obtain ⟨z, _⟩ := this
        simpa using z
      rw [List.getElem?_set_self hl] at q
      cases q
      exact ⟨v, by rw [List.getElem?_set_self (by rw [h.len]; exact hl)], r⟩
    · rw [List.getElem?_set_ne (Ne.symm hj)] at q
      obtain ⟨x, h1, h2⟩ := h.sl j t q
      exact ⟨x, by rw [List.getElem?_set_ne (Ne.symm hj)]; exact h1, h2⟩
  · by_cases hai : a = i
    · subst hai
      have hla : a < ρ.length := by obtain ⟨z, _⟩ := List.getElem?_eq_some_iff.mp ha; simpa using z
      rw [List.getElem?_set_self hla] at ha
      cases ha
      rw [List.getElem?_set_self (by rw [h.len]; exact hla)] at hx
      cases hx
      rw [List.getElem?_set_ne hab] at hb hy
      exact fr hs b t1 (Ne.symm hab) hb ht hy
    · rw [List.getElem?_set_ne (Ne.symm hai)] at ha hx
      by_cases hbi : b = i
      · subst hbi
        have hlb : b < ρ.length := by obtain ⟨z, _⟩ := List.getElem?_eq_some_iff.mp hb; simpa using z
        rw [List.getElem?_set_self hlb] at hb
        cases hb
        rw [List.getElem?_set_self (by rw [h.len]; exact hlb)] at hy
        cases hy
        exact fr ht a s1 hab ha hs hx
      · rw [List.getElem?_set_ne (Ne.symm hbi)] at hb hy
        exact h.dis a b s1 t1 x hab ha hb hs ht hx hy
theorem ER.setI {i : Nat} {d : D} {v : V} (h : ER K F H O σ ρ) (r : Rp K F v d) : ER K F H O (σ.set i (some v)) (ρ.set i (some (.im d))) := h.set r fun z => by cases z
/-- a slot forgotten in the data alone -/
theorem ER.drop {i : Nat} (h : ER K F H O σ ρ) : ER K F H O σ (ρ.set i none) := by
  have back : ∀ (j : Nat) (s : Sl), (ρ.set i none)[j]? = some (some s) → ρ[j]? = some (some s) := fun j s q => by
    by_cases hj : j = i
    · subst hj
      by_cases hl : j < ρ.length
      · rw [List.getElem?_set_self hl] at q
        cases q
      · rw [List.getElem?_eq_none (by simpa using hl)] at q
        cases q
    · rw [List.getElem?_set_ne (Ne.symm hj)] at q
      exact q
  exact ⟨h.sw, by simp [h.len], fun j s q => h.sl j s (back j s q), fun a b s t v n h1 h2 => h.dis a b s t v n (back _ _ h1) (back _ _ h2)⟩
/-- both forgotten -/
theorem ER.wipe1 {i : Nat} (h : ER K F H O σ ρ) : ER K F H O (σ.set i none) (ρ.set i none) := by
  have back : ∀ (j : Nat) (s : Sl), (ρ.set i none)[j]? = some (some s) → j ≠ i ∧ ρ[j]? = some (some s) := fun j s q => by
    by_cases hj : j = i
    · subst hj
      by_cases hl : j < ρ.length
      · rw [List.getElem?_set_self hl] at q
        cases q
      · rw [List.getElem?_eq_none (by simpa using hl)] at q
        cases q
    · rw [List.getElem?_set_ne (Ne.symm hj)] at q
      exact ⟨hj, q⟩
  refine ⟨h.sw, by simp [h.len], fun j s q => ?_, fun a b s t v n h1 h2 hs ht e1 e2 => ?_⟩
  · obtain ⟨hj, q⟩ := back j s q
    obtain ⟨v, h1, h2⟩ := h.sl j s q
    exact ⟨v, by rw [List.getElem?_set_ne (Ne.symm hj)]; exact h1, h2⟩
  · obtain ⟨n1, q1⟩ := back _ _ h1
    obtain ⟨n2, q2⟩ := back _ _ h2
    rw [List.getElem?_set_ne (Ne.symm n1)] at e1
    rw [List.getElem?_set_ne (Ne.symm n2)] at e2
    exact h.dis a b s t v n q1 q2 hs ht e1 e2
def wipeE (ρ : En) : List Nat → En
  | [] => ρ
  | v :: vs => (wipeE ρ vs).set v none
theorem ER.wipe : ∀ {vs : List Nat}, ER K F H O σ ρ → ER K F H O (wipe σ vs) (wipeE ρ vs)
  | [], h => h
  | v :: vs, h => (ER.wipe (vs := vs) h).wipe1
/-- the data of the slots alone are those of another state with the same slots -/
theorem ER.get {i : Nat} {s : Sl} (h : ER K F H O σ ρ) (e : ρ[i]? = some (some s)) : ∃ v, σ[i]? = some (some v) ∧ SlR K F H O s v := h.sl i s e
/-- an own list of a slot is written -/
theorem ER.wrL {i : Nat} {xs ys : List D} {p : Addr} {vs us : List V} (h : ER K F H O σ ρ) (e : ρ[i]? = some (some (.ol xs))) (ev : σ[i]? = some (some (.ref p))) (hp : H p = some (.lst vs)) (ho : O p) (r : RpL K F us ys) :
    ER K F (upd H p (.lst us)) O σ (ρ.set i (some (.ol ys))) := by
  have hl : i < ρ.length := by obtain ⟨z, _⟩ := List.getElem?_eq_some_iff.mp e; exact z
  refine ⟨h.sw.wr ho, by simp [h.len], fun j t q => ?_, fun a b s t v n h1 h2 hs ht e1 e2 => ?_⟩
  · by_cases hj : j = i
    · subst hj
      rw [List.getElem?_set_self hl] at q
      cases q
      exact ⟨.ref p, ev, p, us, rfl, ho, upd_same, r⟩
    · rw [List.getElem?_set_ne (Ne.symm hj)] at q
      obtain ⟨v, h1, h2⟩ := h.sl j t q
      refine ⟨v, h1, ?_⟩
      cases t with
      | im d => exact h2
      | ol zs =>
        obtain ⟨p2, vs2, h3, h4, h5, h6⟩ := h2
        have hne : p2 ≠ p := fun z => by
          subst z
          subst h3
          exact h.dis j i _ _ _ hj q e rfl rfl h1 ev
        exact ⟨p2, vs2, h3, h4, by rw [upd_ne hne]; exact h5, h6⟩
      | od zs =>
        obtain ⟨p2, vs2, h3, h4, h5, h6⟩ := h2
        have hne : p2 ≠ p := fun z => by
          subst z
          rw [hp] at h5
          cases h5
        exact ⟨p2, vs2, h3, h4, by rw [upd_ne hne]; exact h5, h6⟩
  · have back : ∀ (j : Nat) (s : Sl), (ρ.set i (some (.ol ys)))[j]? = some (some s) → s.own = true → ∃ s', ρ[j]? = some (some s') ∧ s'.own = true := fun j s q hs => by
      by_cases hj : j = i
      · subst hj
        exact ⟨_, e, rfl⟩
      · rw [List.getElem?_set_ne (Ne.symm hj)] at q
        exact ⟨s, q, hs⟩
    obtain ⟨s', q1, o1⟩ := back a s h1 hs
    obtain ⟨t', q2, o2⟩ := back b t h2 ht
    exact h.dis a b s' t' v n q1 q2 o1 o2 e1 e2
theorem ER.wrD {i : Nat} {xs ys : List (Key × D)} {p : Addr} {vs us : List (Key × V)} (h : ER K F H O σ ρ) (e : ρ[i]? = some (some (.od xs))) (ev : σ[i]? = some (some (.ref p))) (hp : H p = some (.dK vs)) (ho : O p) (r : RpK K F us ys) :
    ER K F (upd H p (.dK us)) O σ (ρ.set i (some (.od ys))) := by
  have hl : i < ρ.length := by obtain ⟨z, _⟩ := List.getElem?_eq_some_iff.mp e; exact z
  refine ⟨h.sw.wr ho, by simp [h.len], fun j t q => ?_, fun a b s t v n h1 h2 hs ht e1 e2 => ?_⟩
  · by_cases hj : j = i
    · subst hj
      rw [List.getElem?_set_self hl] at q
      cases q
      exact ⟨.ref p, ev, p, us, rfl, ho, upd_same, r⟩
    · rw [List.getElem?_set_ne (Ne.symm hj)] at q
      obtain ⟨v, h1, h2⟩ := h.sl j t q
      refine ⟨v, h1, ?_⟩
      cases t with
      | im d => exact h2
      | od zs =>
        obtain ⟨p2, vs2, h3, h4, h5, h6⟩ := h2
        have hne : p2 ≠ p := fun z => by
          subst z
          subst h3
          exact h.dis j i _ _ _ hj q e rfl rfl h1 ev
        exact ⟨p2, vs2, h3, h4, by rw [upd_ne hne]; exact h5, h6⟩
      | ol zs =>
        obtain ⟨p2, vs2, h3, h4, h5, h6⟩ := h2
        have hne : p2 ≠ p := fun z => by
          subst z
          rw [hp] at h5
          cases h5
        exact ⟨p2, vs2, h3, h4, by rw [upd_ne hne]; exact h5, h6⟩
  · have back : ∀ (j : Nat) (s : Sl), (ρ.set i (some (.od ys)))[j]? = some (some s) → s.own = true → ∃ s', ρ[j]? = some (some s') ∧ s'.own = true := fun j s q hs => by
      by_cases hj : j = i
      · subst hj
        exact ⟨_, e, rfl⟩
      · rw [List.getElem?_set_ne (Ne.symm hj)] at q
        exact ⟨s, q, hs⟩
    obtain ⟨s', q1, o1⟩ := back a s h1 hs
    obtain ⟨t', q2, o2⟩ := back b t h2 ht
    exact h.dis a b s' t' v n q1 q2 o1 o2 e1 e2
/-- an own object of a slot is frozen -/
theorem ER.fzS {i : Nat} {s : Sl} {v : V} (h : ER K F H O σ ρ) (e : ρ[i]? = some (some s)) (ev : σ[i]? = some (some v)) (ho : s.own = true) :
    ∃ F' O', Tr F H O F' H O' ∧ ER K F' H O' σ (ρ.set i (some (.im s.d))) ∧ Rp K F' v s.d := by
  obtain ⟨v', ev', r⟩ := h.sl i s e
  rw [ev] at ev'
  cases ev'
  have hl : i < ρ.length := by obtain ⟨z, _⟩ := List.getElem?_eq_some_iff.mp e; exact z
  obtain ⟨p, rfl, op⟩ := r.own_at ho
  obtain ⟨o, hp⟩ : ∃ o, H p = some o := by
    cases q : H p with
    | none => exact absurd q (h.sw.live p op)
    | some o => exact ⟨o, rfl⟩
  have ex : Same F (upd F p o) := same_new (h.sw.off p op)
  have rp : Rp K (upd F p o) (.ref p) s.d := by
    cases s with
    | im d => cases ho
    | ol xs =>
      obtain ⟨p2, vs2, h3, h4, h5, h6⟩ := r
      cases h3
      rw [hp] at h5
      cases h5
      exact .lst upd_same (h6.ext ex)
    | od xs =>
      obtain ⟨p2, vs2, h3, h4, h5, h6⟩ := r
      cases h3
      rw [hp] at h5
      cases h5
      exact .dct upd_same (h6.ext ex)
  refine ⟨upd F p o, OD O p, Tr.fz h.sw op hp, ⟨h.sw.fz op hp, by simp [h.len], fun j t q => ?_, fun a b s1 t1 x n h1 h2 hs ht e1 e2 => ?_⟩, rp⟩
  · by_cases hj : j = i
    · subst hj
      rw [List.getElem?_set_self hl] at q
      cases q
      exact ⟨_, ev, rp⟩
    · rw [List.getElem?_set_ne (Ne.symm hj)] at q
      obtain ⟨x, h1, h2⟩ := h.sl j t q
      refine ⟨x, h1, ?_⟩
      cases t with
      | im d => exact Rp.ext ex h2
      | ol zs =>
        obtain ⟨p2, vs2, h3, h4, h5, h6⟩ := h2
        have hne : p2 ≠ p := fun z => by
          subst z
          subst h3
          exact h.dis j i _ _ _ hj q e rfl ho h1 ev
        exact ⟨p2, vs2, h3, ⟨h4, hne⟩, h5, h6.ext ex⟩
      | od zs =>
        obtain ⟨p2, vs2, h3, h4, h5, h6⟩ := h2
        have hne : p2 ≠ p := fun z => by
          subst z
          subst h3
          exact h.dis j i _ _ _ hj q e rfl ho h1 ev
        exact ⟨p2, vs2, h3, ⟨h4, hne⟩, h5, h6.ext ex⟩
  · have back : ∀ (j : Nat) (s' : Sl), (ρ.set i (some (.im s.d)))[j]? = some (some s') → s'.own = true → ρ[j]? = some (some s') := fun j s' q hs => by
      by_cases hj : j = i
      · subst hj
        rw [List.getElem?_set_self hl] at q
        cases q
        cases hs
      · rw [List.getElem?_set_ne (Ne.symm hj)] at q
        exact q
    exact h.dis a b s1 t1 x n (back a s1 h1 hs) (back b t1 h2 ht) hs ht e1 e2
/-- an own object that no slot holds is frozen -/
theorem ER.fzN {s : Sl} {v : V} (h : ER K F H O σ ρ) (r : SlR K F H O s v) (fr : s.own = true → ∀ (j : Nat) (t : Sl), ρ[j]? = some (some t) → t.own = true → σ[j]? ≠ some (some v)) :
    ∃ F' O', Tr F H O F' H O' ∧ ER K F' H O' σ ρ ∧ Rp K F' v s.d := by
  cases hs : s.own with
  | false =>
    cases s with
    | im d => exact ⟨F, O, Tr.refl, h, r⟩
    | ol xs => cases hs
    | od xs => cases hs
  | true =>
    obtain ⟨p, rfl, op⟩ := r.own_at hs
    obtain ⟨o, hp⟩ : ∃ o, H p = some o := by
      cases q : H p with
      | none => exact absurd q (h.sw.live p op)
      | some o => exact ⟨o, rfl⟩
    have ex : Same F (upd F p o) := same_new (h.sw.off p op)
    have rp : Rp K (upd F p o) (.ref p) s.d := by
      cases s with
      | im d => cases hs
      | ol xs =>
        obtain ⟨p2, vs2, h3, h4, h5, h6⟩ := r
        cases h3
        rw [hp] at h5
        cases h5
        exact .lst upd_same (h6.ext ex)
      | od xs =>
        obtain ⟨p2, vs2, h3, h4, h5, h6⟩ := r
        cases h3
        rw [hp] at h5
        cases h5
        exact .dct upd_same (h6.ext ex)
    refine ⟨upd F p o, OD O p, Tr.fz h.sw op hp, ⟨h.sw.fz op hp, h.len, fun j t q => ?_, h.dis⟩, rp⟩
    obtain ⟨x, h1, h2⟩ := h.sl j t q
    refine ⟨x, h1, ?_⟩
    cases t with
    | im d => exact Rp.ext ex h2
    | ol zs =>
      obtain ⟨p2, vs2, h3, h4, h5, h6⟩ := h2
      have hne : p2 ≠ p := fun z => by
        subst z
        subst h3
        exact fr hs j _ q rfl h1
      exact ⟨p2, vs2, h3, ⟨h4, hne⟩, h5, h6.ext ex⟩
    | od zs =>
      obtain ⟨p2, vs2, h3, h4, h5, h6⟩ := h2
      have hne : p2 ≠ p := fun z => by
        subst z
        subst h3
        exact fr hs j _ q rfl h1
      exact ⟨p2, vs2, h3, ⟨h4, hne⟩, h5, h6.ext ex⟩
end
end DL

set_option Elab.async false
set_option linter.all false
set_option maxRecDepth 100000
set_option maxHeartbeats 4000000
/-! DLGd: defs that may know that no repr of a list is under way around them. -/
namespace DL
open PySem PySem.Spec PyProof.Rows L2
variable {P : Program} {w : World} {K : PySem.W.Frag} {mg : Str → Option Value} {base : Heap}

/-- a def's promise, kept where no guard stands -/
structure FnG (P : Program) (w : World) (K : PySem.W.Frag) (mg : Str → Option Value) (base : Heap) (k : Nat) (f : Addr) (fd : FuncData) (ps : List Str) (sp : Sp) : Prop where
  num : ∀ {vs H Q E}, sp vs H Q E → vs.length = ps.length
  go : ∀ {A outer s H args us vs Q E}, Room k A → A.guards = some [] → Env0 P w K mg base A outer s H → BindsTo s fd args (ps.zip us) → Vals vs us → sp vs H Q E → codeAny (model P w) A (.call (.ref f) args) (CR CX0 outer P w H s Q E) s
theorem FnG.mono {j k : Nat} {f : Addr} {fd : FuncData} {ps : List Str} {sp : Sp} (F : FnG P w K mg base j f fd ps sp) (h : j ≤ k) : FnG P w K mg base k f fd ps sp where
  num := F.num
  go := fun r => F.go (r.mono h)
/-- from the body -/
theorem FnG.body {x qual : Str} {st : Stmt} {f : Addr} {fd : FuncData} {N ps : List Str} {k : Nat} {sp : Sp} (F : Fun K x qual st f fd) (S : FnScope N ps (defScope st)) (num : ∀ {vs H Q E}, sp vs H Q E → vs.length = ps.length)
    (hb : ∀ {cdv A outer s H vs Q E}, Room k (A.deeper (envOfC qual (defScope st) s.heap.objs.size f cdv)) → A.guards = some [] → sp vs H Q E →
      ∃ t, PSs (cxOf CX0 P w K mg base N qual (defScope st) f cdv A outer s H E) (defBody st) t ∧ t ⟨fun _ H' => Q .non H', Q, fun _ _ => False, fun _ _ => False⟩ (L2.start N vs) H) : FnG P w K mg base (k + 1) f fd ps sp where
  num := num
  go := by
    obtain ⟨oc, od, kV, doc, pm, an, cdv, ct, osl, rfl, lk, hcode⟩ := F.ex
    intro A outer s H args us vs Q E room gd env binds rel want
    have hlen := num want
    have inK : K.In s.heap := env.mod.kin.keeps fun b o q => (env.bs b o q).1
    have noLim := env.mod.nolimit.keeps fun b o q => (env.bs b o q).1
    refine codeAny_call_function room.depth (inK _ _ lk) rfl S.co S.gen rfl (PySem.W.codeRec_of inK hcode) (binds _ _ _ _ ?_)
    refine wpAny_newFunctionEnv_cells S.kind (fun y hy => ?_) fun env2 he s1 inCall => ?_
    · obtain ⟨n, v⟩ := y
      cases S.par n (List.of_mem_zip hy).1 with
      | inl q => exact Or.inl q
      | inr q => exact Or.inr ⟨q, PySem.W.cellsFrom_some _ _ _ (Or.inl q)⟩
    · subst he
      obtain ⟨t, walk, ends⟩ := hb (cdv := cdv) (outer := outer) (room.deeper _) gd want
      have I0 := inv_start (CX := CX0) (E := E) S room.hd env hlen rel inCall
      have close : ∀ {s' : Shared} {σ' : L2.St} {H' : Hp} {v : V} {u : Value}, Inv (cxOf CX0 P w K mg base N qual (defScope st) f cdv A outer s H E) [] σ' H' s' → RelV v u → Q v H' → CE outer P w H s Q u s' :=
        fun J r q => ⟨_, _, J.os, J.bare, J.base, J.hok, r, q⟩
      refine ⟨noLim.keeps inCall.toInCall.keep, codeAny_func (wpAny_mono (walk.run [] s1 _ H _ I0 ends) ?_ fun _ _ h => h)⟩
      intro fl s' hs
      cases fl with
      | next => exact match hs with | ⟨_, _, J, q⟩ => close (v := V.non) (u := Value.none) J rfl q
      | brk => exact match hs with | ⟨_, _, _, q⟩ => q.elim
      | cont => exact match hs with | ⟨_, _, _, q⟩ => q.elim
      | ret u => exact match hs with | ⟨_, _, _, J, r, q⟩ => close J r q
section
variable {X : Cx} {k : Nat} {f : Addr} {fd : FuncData} {ps : List Str} {sp : Sp} {E : XK} {x : Str} {p pos : Pos} {e : Expr} {es : List Expr} {t : TA}
theorem FnG.runs {pins : List (Addr × Obj)} {σ : L2.St} {H : Hp} {s : Shared} {Q : VK} {us : List Value} {vs : List V} (F : FnG X.prog X.w X.K X.mg X.base k f fd ps sp) (room : Room k X.A) (gd : X.A.guards = some []) (hb : Binds X.K fd ps [])
    (I : Inv X pins σ H s) (rel : Vals vs us) (want : sp (vs ++ []) H Q E) : wpAny (model X.prog X.w) X.A (call (.ref f) us) (EP X pins σ Q) X.xe s := by
  rw [List.append_nil] at want
  have hus : (us ++ []).length = ps.length := by rw [List.append_nil, ← rel.length]; exact F.num want
  have bd := hb s us I.kIn hus
  rw [List.append_nil] at bd
  refine wpAny_call (codeAny_mono (F.go room gd I.env0 bd rel want) ?_)
  intro r s' out
  match r, out with
  | .ok (.ret u), out => exact I.after out
theorem pe_callG (F : FnG X.prog X.w X.K X.mg X.base k f fd ps sp) (room : Room k X.A) (gd : X.A.guards = some []) (hg : Gl X x) (hm : X.mg x = some (.ref f)) (hk : PySem.W.keepIn X.K (.ref f) = true) (hb : Binds X.K fd ps [])
    (ha : PA X (e :: es) t) (hdb : (x == ("__debug__" : Str)) = false) (he : starEach (e :: es) X.env = (false, eval e X.env) :: starEach es X.env) (hpl : (backTo pos (starEach es X.env)).any (·.1) = false) : PE X (.Call (.Name x p) (e :: es) [] pos) (tCall sp [] E t) := by
  constructor
  intro pins s σ H Q I want
  refine wpAny_Call_Name_kw (ld_glob I hg hm ?_ hdb)
  refine PySem.W.callWith_K I.ok.mod.kin hk (h₀ := X.base) (thn (ha.run pos pins s σ H _ I want) ?_) he hpl
  rintro us s1 ⟨vs, H1, I1, rel, q⟩
  exact ⟨I1.kIn, F.runs room gd hb I1 rel q⟩
theorem pe_call0G (F : FnG X.prog X.w X.K X.mg X.base k f fd ps sp) (room : Room k X.A) (gd : X.A.guards = some []) (hg : Gl X x) (hm : X.mg x = some (.ref f)) (hk : PySem.W.keepIn X.K (.ref f) = true) (hb : Binds X.K fd ps [])
    (hdb : (x == ("__debug__" : Str)) = false) : PE X (.Call (.Name x p) [] [] pos) (tCall sp [] E tNil) := by
  constructor
  intro pins s σ H Q I want
  refine wpAny_Call_Name_kw (ld_glob I hg hm ?_ hdb)
  exact PySem.W.callWith_K0 I.kIn hk (F.runs (us := []) (vs := []) room gd hb I .nil want)
end
end DL

set_option Elab.async false
set_option linter.all false
set_option maxRecDepth 100000
set_option maxHeartbeats 4000000
/-! DLLaw: the law's def is called by the claim, with a list of ints, where no guard stands. -/
namespace DL
open PySem PySem.Spec PyProof.Rows L2
/-- nothing but the script, as it was handed in -/
def scrH (a : Addr) (o : Obj) (xs : List V) : Hp := fun b => if b = a then some (.frz o (.lst xs)) else none
def noH : Hp := fun _ => none
theorem scrH_only {a : Addr} {o : Obj} {xs : List V} : Only (scrH a o xs) := by
  intro b
  unfold scrH
  by_cases h : b = a
  · rw [if_pos h]; exact Or.inr ⟨o, xs, rfl⟩
  · rw [if_neg h]; exact Or.inl rfl
theorem scrH_at {a b : Addr} {o : Obj} {xs : List V} {u : HO} (h : scrH a o xs b = some u) : b = a ∧ u = .frz o (.lst xs) := by
  unfold scrH at h
  by_cases e : b = a
  · rw [if_pos e] at h; cases h; exact ⟨e, rfl⟩
  · rw [if_neg e] at h; cases h
section
variable {P : Program} {w : World} {K : PySem.W.Frag} {mg mb : Str → Option Value} {k : Nat} {fa a : Addr} {fd : FuncData} {x : Str} {sp : Sp} {s1 : Shared}
abbrev EndT (s1 : Shared) : Result → Shared → Prop := fun r s' => r = .ok (.ret (.bool true)) ∧ OldK s1.heap s'.heap ∧ s'.os = s1.os ∧ AllBare s'.gens
/-- from a heap of which at most the script is looked at -/
theorem law_core {H : Hp} {o : Obj} {sq : Array Value} (room : Room k callerA) (KX : K.In s1.heap) (Ng : s1.heap.Ns mainGlobals mg) (Nb : s1.heap.Ns builtinsNs mb) (bb : ∀ y : Str, y ≠ "__name__" → mb y = bootBuiltins y)
    (nl : s1.heap.NoLimit) (hg : s1.gens = #[]) (ha : s1.heap.get? a = some o) (hseq : ∀ es ep, o.data ≠ .dict es ep)
    (F : ∀ base : Heap, K.In base → base.Ns mainGlobals mg → FnG P w K mg base k fa fd [x] sp) (bind : ∀ (s : Shared) (u : Value), BindsTo s fd ⟨[u], []⟩ [(x, u)])
    (hO : Only H) (want : sp [.ref a] H (fun v _ => v = .bl true) fun _ _ _ => False) (hok : HOk P w H s1.heap) (isA : ∀ b, H b ≠ none → b = a) (notK : H a ≠ none → K.lookup a = none) :
    codeAny (model P w) callerA (.call (.ref fa) ⟨[.ref a], []⟩) (EndT s1) s1 := by
  have free : ∀ {b : Addr}, b ≠ a → H b = none := fun {b} n => by
    cases q : H b with
    | none => rfl
    | some u => exact absurd (isA b (by rw [q]; simp)) n
  have dicts : ∀ {b : Addr} {ob : Obj} {es : Array DictEntry} {ep : Nat}, s1.heap.get? b = some ob → ob.data = .dict es ep → H b = none := fun {b ob es ep} q d => by
    by_cases n : b = a
    · subst n
      rw [ha] at q
      cases q
      exact absurd d (hseq es ep)
    · exact free n
  have names : ∀ {b : Addr} {m : Str → Option Value}, s1.heap.Ns b m → (hidT s1.heap H).Ns b m := by
    rintro b m ⟨ob, es, ep, q, d, r⟩
    exact ⟨ob, es, ep, hidT_get q (dicts q d), d, r⟩
  have inK : K.In (hidT s1.heap H) := by
    intro b ob q
    refine hidT_get (KX b ob q) ?_
    by_cases n : b = a
    · subst n
      cases z : H b with
      | none => rfl
      | some u => rw [notK (by rw [z]; simp)] at q; cases q
    · exact free n
  have noL : (hidT s1.heap H).NoLimit := by
    obtain ⟨mc, n1, n2⟩ := nl
    exact ⟨mc, names n1, n2⟩
  have env : Env0 P w K mg (hidT s1.heap H) callerA [] s1 H :=
    { frames := rfl, mod := ⟨inK, names Ng, ⟨mb, names Nb, bb⟩, noL⟩, bs := fun b ob q => of_hidT q, bsz := Nat.le_of_eq (hidT_size _ _), funs := trivial
      frf := fun b hb => (List.not_mem_nil hb).elim, hok := hok, bare := .of_eq hg }
  have run := (F _ inK (names Ng)).go (args := ⟨[.ref a], []⟩) (us := [.ref a]) (vs := [.ref a]) (outer := []) room rfl env (bind s1 (.ref a)) (.cons rfl .nil) want
  refine codeAny_mono run ?_
  intro r s' out
  match r, out with
  | .ok (.ret u), ⟨v, H', os, bare, un, hok2, rel, q⟩ =>
    have q : v = .bl true := q
    subst q
    obtain rfl : u = Value.bool true := rel
    refine ⟨rfl, OldK.of_keep ?_, os, bare⟩
    intro b ob old
    cases z : H b with
    | none => exact un.keep b ob old z (fun y => (List.not_mem_nil y).elim) (by simp)
    | some u =>
      rcases hO b with y | ⟨fo, xs, y⟩
      · rw [z] at y; cases y
      · obtain ⟨old1, _⟩ := hok b _ y
        obtain ⟨new1, _⟩ := hok2 b _ (un.frzs b fo _ y)
        rw [old] at old1
        cases old1
        exact new1
theorem law_callG {vs : List Value} {ns : List Int} (room : Room k callerA) (KX : K.In s1.heap) (Ng : s1.heap.Ns mainGlobals mg) (Nb : s1.heap.Ns builtinsNs mb) (bb : ∀ y : Str, y ≠ "__name__" → mb y = bootBuiltins y)
    (nl : s1.heap.NoLimit) (hg : s1.gens = #[]) (ha : s1.heap.get? a = some { cls := .type "list", data := .seq vs.toArray }) (hints : IntsAre vs ns) (small : ns.length ≤ sizeLine)
    (F : ∀ base : Heap, K.In base → base.Ns mainGlobals mg → FnG P w K mg base k fa fd [x] sp) (bind : ∀ (s : Shared) (u : Value), BindsTo s fd ⟨[u], []⟩ [(x, u)])
    (want : ∀ H : Hp, Only H → SqL K H a (ns.map V.int) → sp [.ref a] H (fun v _ => v = .bl true) fun _ _ _ => False) : codeAny (model P w) callerA (.call (.ref fa) ⟨[.ref a], []⟩) (EndT s1) s1 := by
  have rel := vals_ints hints
  have hlen : vs.length = ns.length := hints.length
  have nd : ∀ (es : Array DictEntry) (ep : Nat), ({ cls := .type "list", data := .seq vs.toArray } : Obj).data ≠ .dict es ep := fun es ep z => by cases z
  cases hk : K.lookup a with
  | none =>
    have tracked : scrH a { cls := .type "list", data := .seq vs.toArray } (ns.map V.int) a = some (.frz { cls := .type "list", data := .seq vs.toArray } (.lst (ns.map V.int))) := if_pos rfl
    refine law_core (H := scrH a _ (ns.map V.int)) (sq := vs.toArray) room KX Ng Nb bb nl hg ha nd F bind scrH_only (want _ scrH_only (Or.inl (Or.inr ⟨_, tracked⟩))) ?_ ?_ fun _ => hk
    · intro b u z
      obtain ⟨rfl, rfl⟩ := scrH_at z
      exact ⟨ha, by rw [List.length_map]; exact small, vs, _, rel, ha⟩
    · intro b z
      cases q : scrH a { cls := .type "list", data := .seq vs.toArray } (ns.map V.int) b with
      | none => exact absurd q z
      | some u => exact (scrH_at q).1
  | some o =>
    have same := KX a o hk
    rw [ha] at same
    cases same
    have onlyN : Only noH := fun _ => Or.inl rfl
    refine law_core (H := noH) (sq := vs.toArray) room KX Ng Nb bb nl hg ha nd F bind onlyN (want _ onlyN (Or.inr ⟨_, vs.toArray, _, hk, rfl, rfl, rfl, ?_, by simpa using rel⟩)) (fun b u z => by cases z) (fun b z => absurd rfl z) fun z => absurd rfl z
    rw [List.size_toArray, hlen]
    exact small
end
/-- what the head asks of the law -/
theorem walkG {l : PySem.W.OpenLaw} {n k : Nat} {q : Program} {loose : List Str} {XP : (Str → Option Value) → Heap → Prop} {YP : World → Heap → Prop} {d : DefRec} {K : Params → PySem.W.Frag} {sp : World → Sp} {x : Str}
    (most : l.most = some n) (small : n ≤ sizeLine) (plain : d.params.defaults = []) (room : Room k callerA) (hY : ∀ {w : World} {h : Heap}, YP w h → (K w.params).In h)
    (F : ∀ {w : World} {mg : Str → Option Value} {fa : Addr} {h : Heap}, (K w.params).In h → h.Ns mainGlobals mg → mg d.name = some (.ref fa) →
      ∃ fd : FuncData, (∀ (s : Shared) (u : Value), BindsTo s fd ⟨[u], []⟩ [(x, u)]) ∧ ∀ base : Heap, (K w.params).In base → base.Ns mainGlobals mg → FnG l.prog w (K w.params) mg base k fa fd [x] (sp w))
    (want : ∀ {w : World} {H : Hp} {a : Addr} {ns : List Int}, ns.length ≤ n → SqL (K w.params) H a (ns.map V.int) → sp w [.ref a] H (fun v _ => v = .bl true) fun _ _ _ => False) :
    PySem.W.WalkO q loose XP YP l.row.toRowW d [] (fun f vs => PySem.call f vs) := by
  refine Att.attach_call most plain ?_
  intro w s0 s1 mg mb fa o pm cd doc a vs ns G Y ho hd hcd hmg hobj hints hlen hg
  obtain ⟨fd, bind, keeps⟩ := F (hY Y) G.T.g hmg
  exact law_callG room (hY Y) G.T.g G.T.b G.T.builtins G.T.nolimit hg hobj hints (Nat.le_trans hlen small) keeps bind fun H _ hS => want hlen hS
end DL

set_option Elab.async false
set_option linter.all false
set_option maxRecDepth 100000
set_option maxHeartbeats 4000000
/-! DLJudg: the judgements. -/
namespace DL
open PySem PySem.Spec PyProof.Rows L2

/-! ### contexts by what stands still in them -/
structure GE where
  P : Program
  w : World
  K : PySem.W.Frag
  mg : Str → Option Value
  base : Heap
structure Sc where
  G : GE
  N : List Str
  sc : Scope
  k : Nat
  nd : N.Nodup
  fn : Str → Bool
  fx : Nat → Bool := fun _ => false
structure Stc (S : Sc) (X : Cx) : Prop where
  prog : X.prog = S.G.P
  w : X.w = S.G.w
  K : X.K = S.G.K
  mg : X.mg = S.G.mg
  base : X.base = S.G.base
  N : X.N = S.N
  sc : X.env.scope = S.sc
  calm : X.calm = true
  xe : X.xe = fun _ _ => False
  room : Room S.k X.A
  gd : X.A.guards = some []
  fn : ∀ x, S.fn x = true → X.fn x = true
def Sc.blk (S : Sc) (scope : Scope) : Sc := { S with sc := relS scope S.sc, fn := fun x => scope.names.lookup x == some .cell }
/-- a name that may be stored -/
def StL (S : Sc) (x : Str) : Prop := S.sc.names.lookup x = some .local ∨ (S.sc.names.lookup x = some .cell ∧ S.fn x = true)

/-! ### what the data functions are -/
abbrev EF := En → Option (Sl × En)
abbrev DF := En → Option (D × En)
abbrev TF := En → Option (Bool × En)
abbrev AF := En → Option (List D × En)
def bnd {α β : Type} (f : En → Option (α × En)) (g : α → En → Option β) : En → Option β := fun ρ => match f ρ with
  | none => none
  | some (a, ρ') => g a ρ'
def eD (f : EF) : DF := bnd f fun s ρ => some (s.d, ρ)
theorem bnd_some {α β : Type} {f : En → Option (α × En)} {g : α → En → Option β} {ρ : En} {b : β} (h : bnd f g ρ = some b) : ∃ a ρ', f ρ = some (a, ρ') ∧ g a ρ' = some b := by
  unfold bnd at h
  cases e : f ρ with
  | none => rw [e] at h; cases h
  | some p => obtain ⟨a, ρ'⟩ := p; rw [e] at h; exact ⟨a, ρ', rfl, h⟩

/-- a new own object is in no slot -/
def Frs (σ : L2.St) (ρ : En) (s : Sl) (v : V) : Prop := s.own = true → ∀ (j : Nat) (t : Sl), ρ[j]? = some (some t) → t.own = true → σ[j]? ≠ some (some v)
def EOK (K : PySem.W.Frag) (t : TE) (f : EF) : Prop := ∀ (σ : L2.St) (F H : Hp) (O : Own) (ρ : En) (s : Sl) (ρ' : En) (Q : VK), ER K F H O σ ρ → f ρ = some (s, ρ') →
  (∀ v F' H' O', Tr F H O F' H' O' → ER K F' H' O' σ ρ' → SlR K F' H' O' s v → Frs σ ρ' s v → Q v H') → t σ H Q
def DOK (K : PySem.W.Frag) (t : TE) (f : DF) : Prop := ∀ (σ : L2.St) (F H : Hp) (O : Own) (ρ : En) (d : D) (ρ' : En) (Q : VK), ER K F H O σ ρ → f ρ = some (d, ρ') →
  (∀ v F' H' O', Tr F H O F' H' O' → ER K F' H' O' σ ρ' → Rp K F' v d → Q v H') → t σ H Q
def TOK (K : PySem.W.Frag) (t : TT) (f : TF) : Prop := ∀ (σ : L2.St) (F H : Hp) (O : Own) (ρ : En) (b : Bool) (ρ' : En) (Q : Bool → Hp → Prop), ER K F H O σ ρ → f ρ = some (b, ρ') →
  (∀ F' H' O', Tr F H O F' H' O' → ER K F' H' O' σ ρ' → Q b H') → t σ H Q
def AOK (K : PySem.W.Frag) (t : TA) (f : AF) : Prop := ∀ (σ : L2.St) (F H : Hp) (O : Own) (ρ : En) (ds : List D) (ρ' : En) (Q : List V → Hp → Prop), ER K F H O σ ρ → f ρ = some (ds, ρ') →
  (∀ vs F' H' O', Tr F H O F' H' O' → ER K F' H' O' σ ρ' → RpL K F' vs ds → Q vs H') → t σ H Q
theorem EOK.fz {K : PySem.W.Frag} {t : TE} {f : EF} (h : EOK K t f) : DOK K t (eD f) := by
  intro σ F H O ρ d ρ' Q hr hf k
  obtain ⟨s, ρ1, h1, h2⟩ := bnd_some hf
  cases h2
  refine h σ F H O ρ s _ Q hr h1 fun v F1 H1 O1 tr er sl fr => ?_
  obtain ⟨F2, O2, tr2, er2, rp⟩ := er.fzN sl fr
  exact k v F2 H1 O2 (tr.trans tr2) er2 rp
/-- a data function's value is frozen -/
def eI (f : DF) : EF := bnd f fun d ρ => some (.im d, ρ)
theorem DOK.im {K : PySem.W.Frag} {t : TE} {f : DF} (h : DOK K t f) : EOK K t (eI f) := by
  intro σ F H O ρ s ρ' Q hr hf k
  obtain ⟨d, ρ1, h1, h2⟩ := bnd_some hf
  cases h2
  exact h σ F H O ρ d _ Q hr h1 fun v F1 H1 O1 tr er rp => k v F1 H1 O1 tr er rp fun z => by cases z

/-! decisions that the kernel gives up soon when it meets an open number -/
instance (priority := 5000) decHi62 (j : Int) : Decidable (j < 2 ^ 62) := decidable_of_iff (j.toNat < 2 ^ 62) (by omega)
instance (priority := 5000) decLo62 (j : Int) : Decidable (-(2 ^ 62) ≤ j) := decidable_of_iff ((-j).toNat ≤ 2 ^ 62) (by omega)
instance (priority := 5000) decLt62 (j : Int) : Decidable (-(2 ^ 62) < j) := decidable_of_iff ((-j).toNat < 2 ^ 62) (by omega)
instance (priority := 5000) decHi63 (j : Int) : Decidable (j < 2 ^ 63) := decidable_of_iff (j.toNat < 2 ^ 63) (by omega)
/-! ### the judgements -/
def DE (S : Sc) (e : Expr) (f : EF) : Prop := ∃ t : TE, (∀ X, Stc S X → PE X e t) ∧ EOK S.G.K t f
def DT (S : Sc) (e : Expr) (f : TF) : Prop := ∃ t : TT, (∀ X, Stc S X → PT X e t) ∧ TOK S.G.K t f
def DW (S : Sc) (e : Expr) (f : TF) : Prop := ∃ t : TT, (∀ X, Stc S X → PW X e t) ∧ TOK S.G.K t f
def DA (S : Sc) (es : List Expr) (f : AF) : Prop := ∃ t : TA, (∀ X, Stc S X → PA X es t) ∧ AOK S.G.K t f

/-- a statement's outcome -/
inductive Out where
  | nx (ρ : En) | rt (s : Sl) (ρ : En) | bk (ρ : En) | ct (ρ : En)
abbrev SF := En → Option Out
/-- the slots that are never stored hold what they held -/
def FxR (fx : Nat → Bool) (σ σ' : L2.St) : Prop := ∀ i, fx i = true → σ'[i]? = σ[i]?
theorem FxR.refl {fx : Nat → Bool} {σ : L2.St} : FxR fx σ σ := fun _ _ => rfl
theorem FxR.trans {fx : Nat → Bool} {σ σ1 σ2 : L2.St} (a : FxR fx σ σ1) (b : FxR fx σ1 σ2) : FxR fx σ σ2 := fun i h => (b i h).trans (a i h)
theorem FxR.set {fx : Nat → Bool} {σ : L2.St} {i : Nat} {x : Option V} (h : fx i = false) : FxR fx σ (σ.set i x) := fun j hj => by
  have : i ≠ j := fun e => by rw [e, hj] at h; cases h
  rw [List.getElem?_set_ne this]
def OutOK (K : PySem.W.Frag) (fx : Nat → Bool) (D : Ends) (σ : L2.St) (F H : Hp) (O : Own) : Out → Prop
  | .nx ρ' => ∀ σ' F' H' O', Tr F H O F' H' O' → ER K F' H' O' σ' ρ' → FxR fx σ σ' → D.nx σ' H'
  | .bk ρ' => ∀ σ' F' H' O', Tr F H O F' H' O' → ER K F' H' O' σ' ρ' → FxR fx σ σ' → D.bk σ' H'
  | .ct ρ' => ∀ σ' F' H' O', Tr F H O F' H' O' → ER K F' H' O' σ' ρ' → FxR fx σ σ' → D.ct σ' H'
  | .rt s ρ' => ∀ v σ' F' H' O', Tr F H O F' H' O' → ER K F' H' O' σ' ρ' → FxR fx σ σ' → SlR K F' H' O' s v → Frs σ' ρ' s v → D.rt v H'
def SOK (K : PySem.W.Frag) (fx : Nat → Bool) (t : TS) (g : SF) : Prop := ∀ (D : Ends) (σ : L2.St) (F H : Hp) (O : Own) (ρ : En) (out : Out), ER K F H O σ ρ → g ρ = some out → OutOK K fx D σ F H O out → t D σ H
def DS (S : Sc) (st : Stmt) (g : SF) : Prop := ∃ t : TS, (∀ X, Stc S X → PS X st t) ∧ SOK S.G.K S.fx t g
def DSs (S : Sc) (st : List Stmt) (g : SF) : Prop := ∃ t : TS, (∀ X, Stc S X → PSs X st t) ∧ SOK S.G.K S.fx t g
/-- a target -/
def GOK (K : PySem.W.Frag) (fx : Nat → Bool) (g : TG) (f : D → En → Option En) : Prop := ∀ (v : V) (d : D) (σ : L2.St) (F H : Hp) (O : Own) (ρ ρ' : En) (Q : L2.St → Hp → Prop), ER K F H O σ ρ → Rp K F v d → f d ρ = some ρ' →
  (∀ σ' F' H' O', Tr F H O F' H' O' → ER K F' H' O' σ' ρ' → FxR fx σ σ' → Q σ' H') → g v σ H Q
def GsOK (K : PySem.W.Frag) (fx : Nat → Bool) (g : TGs) (f : List D → En → Option En) : Prop := ∀ (vs : List V) (ds : List D) (σ : L2.St) (F H : Hp) (O : Own) (ρ ρ' : En) (Q : L2.St → Hp → Prop), ER K F H O σ ρ → RpL K F vs ds → f ds ρ = some ρ' →
  (∀ σ' F' H' O', Tr F H O F' H' O' → ER K F' H' O' σ' ρ' → FxR fx σ σ' → Q σ' H') → g vs σ H Q
def DG (S : Sc) (e : Expr) (f : D → En → Option En) : Prop := ∃ t : TG, (∀ X, Stc S X → PG X e t) ∧ GOK S.G.K S.fx t f
def DGs (S : Sc) (es : List Expr) (f : List D → En → Option En) : Prop := ∃ t : TGs, (∀ X, Stc S X → PGs X es t) ∧ GsOK S.G.K S.fx t f

/-- a walk over data -/
structure WalkD (K : PySem.W.Frag) (F : Hp) (J : It) (ds : List D) : Prop where
  go : ∀ i H, Same F H → i < ds.length → J.go i H
  stop : ∀ H, Same F H → J.stop ds.length H
  yld : ∀ i F1 H1 O1 x H2, Same F F1 → SW F1 H1 O1 → i < ds.length → J.yld i H1 x H2 → ∃ d, ds[i]? = some d ∧ ((H2 = H1 ∧ Rp K F1 x d) ∨ ∃ p o, H1 p = none ∧ H2 = upd H1 p o ∧ Rp K (upd F1 p o) x d)
theorem WalkD.ext {K : PySem.W.Frag} {F F' : Hp} {J : It} {ds : List D} (w : WalkD K F J ds) (e : Same F F') : WalkD K F' J ds :=
  ⟨fun i H q => w.go i H (e.trans q), fun H q => w.stop H (e.trans q), fun i F1 H1 O1 x H2 q => w.yld i F1 H1 O1 x H2 (e.trans q)⟩
def IOK (K : PySem.W.Frag) (wi : TI) (f : AF) : Prop := ∀ (σ : L2.St) (F H : Hp) (O : Own) (ρ : En) (ds : List D) (ρ' : En) (R : It → Hp → Prop), ER K F H O σ ρ → f ρ = some (ds, ρ') →
  (∀ J F' H' O', Tr F H O F' H' O' → ER K F' H' O' σ ρ' → WalkD K F' J ds → R J H') → wi σ H R
def DI (S : Sc) (tg iter : Expr) (f : AF) : Prop := ∃ wi : TI, (∀ X, Stc S X → PI X tg iter wi) ∧ IOK S.G.K wi f

/-! ### looks: what a value shows at H, its items in F -/
inductive Vw (K : PySem.W.Frag) (F H : Hp) : V → D → Prop
  | non : Vw K F H .non .non
  | bl (b : Bool) : Vw K F H (.bl b) (.bl b)
  | int (i : Int) : Vw K F H (.int i) (.int i)
  | str (x : Str) : Vw K F H (.str x) (.str x)
  | lst {a : Addr} {vs : List V} {ds : List D} : H a = some (.lst vs) → RpL K F vs ds → Vw K F H (.ref a) (.lst ds)
  | tup {a : Addr} {vs : List V} {ds : List D} : SqT K F a vs → RpL K F vs ds → Vw K F H (.ref a) (.tup ds)
  | dct {a : Addr} {vs : List (Key × V)} {ds : List (Key × D)} : H a = some (.dK vs) → RpK K F vs ds → Vw K F H (.ref a) (.dct ds)
  | scr {a : Addr} {ns : List Int} : SqL K H a (ns.map V.int) → Vw K F H (.ref a) (.scr ns)
  | typ (n : String) : Vw K F H (.ty n) (.typ n)
section
variable {K : PySem.W.Frag} {F H : Hp} {O : Own} {v : V} {d : D}
theorem Rp.vw (e : Same F H) (h : Rp K F v d) : Vw K F H v d := by
  cases h with
  | non => exact .non
  | bl b => exact .bl b
  | int i => exact .int i
  | str x => exact .str x
  | lst h a => exact .lst (e _ _ h) a
  | tup h a => exact .tup h a
  | dct h a => exact .dct (e _ _ h) a
  | scr h => exact .scr (sqL_ext e h)
  | typ n => exact .typ n
theorem SlR.vw {s : Sl} (e : Same F H) (h : SlR K F H O s v) : Vw K F H v s.d := by
  cases s with
  | im d => exact Rp.vw e h
  | ol xs => obtain ⟨p, vs, rfl, _, h1, h2⟩ := h; exact .lst h1 h2
  | od xs => obtain ⟨p, vs, rfl, _, h1, h2⟩ := h; exact .dct h1 h2
theorem Vw.rp (e : Same F H) (h : Vw K F H v d) : Rp K H v d := by
  cases h with
  | non => exact .non
  | bl b => exact .bl b
  | int i => exact .int i
  | str x => exact .str x
  | lst h a => exact .lst h (a.ext e)
  | tup h a => exact .tup (sqT_ext e h) (a.ext e)
  | dct h a => exact .dct h (a.ext e)
  | scr h => exact .scr h
  | typ n => exact .typ n
end

/-- what an operation must give: an old value, a new object that stays, a new own list or dict -/
def ROut (K : PySem.W.Frag) (F H : Hp) (Q : VK) : Sl → Prop
  | .im d => (∀ v, Rp K F v d → Q v H) ∧ ∀ p o, H p = none → Rp K (upd F p o) (.ref p) d → Q (.ref p) (upd H p o)
  | .ol xs => ∀ p vs, H p = none → RpL K F vs xs → Q (.ref p) (upd H p (.lst vs))
  | .od kvs => ∀ p vs, H p = none → RpK K F vs kvs → Q (.ref p) (upd H p (.dK vs))
theorem rout_of {K : PySem.W.Frag} {F0 H0 F H : Hp} {O0 O : Own} {σ : L2.St} {ρ' : En} {s : Sl} {Q : VK} (tr : Tr F0 H0 O0 F H O) (er : ER K F H O σ ρ')
    (k : ∀ v F' H' O', Tr F0 H0 O0 F' H' O' → ER K F' H' O' σ ρ' → SlR K F' H' O' s v → Frs σ ρ' s v → Q v H') : ROut K F H Q s := by
  have fresh : ∀ (p : Addr) (s' : Sl), H p = none → Frs σ ρ' s' (.ref p) := fun p s' hp _ j t hj ht e => by
    obtain ⟨v, hv, r⟩ := er.sl j t hj
    rw [e] at hv
    cases hv
    obtain ⟨q, e2, oq⟩ := r.own_at ht
    cases e2
    exact er.sw.live p oq hp
  cases s with
  | im d =>
    refine ⟨fun v r => k v F H O tr er r fun z => (by cases z), fun p o hp r => ?_⟩
    exact k _ _ _ O (tr.trans (Tr.newF er.sw hp)) (er.newF hp) r fun z => by cases z
  | ol xs =>
    intro p vs hp r
    exact k _ F _ (OA O p) (tr.trans (Tr.newO hp)) (er.newO hp) ⟨p, vs, rfl, .inr rfl, upd_same, r⟩ (fresh p _ hp)
  | od xs =>
    intro p vs hp r
    exact k _ F _ (OA O p) (tr.trans (Tr.newO hp)) (er.newO hp) ⟨p, vs, rfl, .inr rfl, upd_same, r⟩ (fresh p _ hp)
/-- operations on two values, on one, on several -/
def R2K (K : PySem.W.Frag) (r : R2) (g : D → D → Option Sl) : Prop := ∀ (x y : V) (dx dy : D) (F H : Hp) (s : Sl) (Q : VK), Same F H → Vw K F H x dx → Vw K F H y dy → g dx dy = some s → ROut K F H Q s → r x y H Q
def R1K (K : PySem.W.Frag) (r : V → Hp → VK → Prop) (g : D → Option Sl) : Prop := ∀ (x : V) (dx : D) (F H : Hp) (s : Sl) (Q : VK), Same F H → Vw K F H x dx → g dx = some s → ROut K F H Q s → r x H Q
def RCK (K : PySem.W.Frag) (r : List V → Hp → VK → Prop) (g : List D → Option Sl) : Prop := ∀ (xs : List V) (ds : List D) (F H : Hp) (s : Sl) (Q : VK), Same F H → RpL K F xs ds → g ds = some s → ROut K F H Q s → r xs H Q
def RMK (K : PySem.W.Frag) (r : V → List V → Hp → VK → Prop) (g : D → List D → Option Sl) : Prop := ∀ (x : V) (d : D) (xs : List V) (ds : List D) (F H : Hp) (s : Sl) (Q : VK), Same F H → Vw K F H x d → RpL K F xs ds → g d ds = some s → ROut K F H Q s → r x xs H Q

/-! ### expressions -/
section
variable {S : Sc}
/-- a name of the def -/
def eV (i : Nat) : EF := fun ρ => match ρ[i]? with
  | some (some (.im d)) => some (.im d, ρ)
  | some (some s) => some (.im s.d, ρ.set i (some (.im s.d)))
  | _ => none
theorem eok_var {K : PySem.W.Frag} (i : Nat) : EOK K (tVar i) (eV i) := by
  intro σ F H O ρ s ρ' Q er hf k
  unfold eV at hf
  cases e : ρ[i]? with
  | none => rw [e] at hf; cases hf
  | some o =>
    cases o with
    | none => rw [e] at hf; cases hf
    | some t =>
      obtain ⟨v, hv, r⟩ := er.sl i t e
      refine ⟨v, hv, ?_⟩
      cases t with
      | im d =>
        rw [e] at hf
        cases hf
        exact k v F H O Tr.refl er r fun z => by cases z
      | ol xs =>
        rw [e] at hf
        cases hf
        obtain ⟨F', O', tr, er', rp⟩ := er.fzS e hv rfl
        exact k v F' H O' tr er' rp fun z => by cases z
      | od xs =>
        rw [e] at hf
        cases hf
        obtain ⟨F', O', tr, er', rp⟩ := er.fzS e hv rfl
        exact k v F' H O' tr er' rp fun z => by cases z
theorem de_var (i : Nat) {x : Str} {pos : Pos} (hN : S.N[i]? = some x := by rfl) (hv : S.sc.names.lookup x = some .local ∨ S.sc.names.lookup x = some .cell ∨ S.sc.names.lookup x = some .free := by first | exact Or.inl rfl | exact Or.inr (Or.inl rfl) | exact Or.inr (Or.inr rfl))
    (hd : (x == ("__debug__" : Str)) = false := by decide) (hcd : (x == ("__classdict__" : Str)) = false := by decide) : DE S (.Name x pos) (eV i) :=
  ⟨tVar i, fun X h => pe_var (by rw [h.N]; exact hN) (by unfold Vis; rw [h.sc]; exact hv) hd hcd, eok_var i⟩
def eC (d : D) : EF := fun ρ => some (.im d, ρ)
theorem eok_c {K : PySem.W.Frag} {v : V} {d : D} (h : ∀ F, Rp K F v d) : EOK K (tC v) (eC d) := by
  intro σ F H O ρ s ρ' Q er hf k
  cases hf
  exact k v F H O Tr.refl er (h F) fun z => by cases z
theorem de_int {i j pos} : DE S (.Constant (.int i) j pos) (eC (.int i)) := ⟨_, fun _ _ => pe_int, eok_c fun _ => .int i⟩
theorem de_bl {b j pos} : DE S (.Constant (.bool b) j pos) (eC (.bl b)) := ⟨_, fun _ _ => pe_bl, eok_c fun _ => .bl b⟩
theorem de_non {j pos} : DE S (.Constant .none j pos) (eC .non) := ⟨_, fun _ _ => pe_non, eok_c fun _ => .non⟩
theorem de_str {x j pos} : DE S (.Constant (.str x) j pos) (eC (.str x)) := ⟨_, fun _ _ => pe_str, eok_c fun _ => .str x⟩
/-- a constant of the module -/
theorem de_glob {x : Str} {u : Value} {v : V} {d : D} {pos : Pos} (hg : S.sc.names.lookup x = some .globalImplicit) (hm : S.G.mg x = some u) (r : RelV v u) (h : ∀ F, Rp S.G.K F v d) (hd : (x == ("__debug__" : Str)) = false := by decide) : DE S (.Name x pos) (eC d) :=
  ⟨tC v, fun X hX => pe_glob (by unfold Gl Env.kindOf; rw [hX.sc]; exact hg) (by rw [hX.mg]; exact hm) r hd, eok_c h⟩

/-! operators -/
def eB (g : D → D → Option Sl) (fa fb : EF) : EF := bnd (eD fa) fun x => bnd (eD fb) fun y ρ => match g x y with
  | none => none
  | some s => some (s, ρ)
def eU (g : D → Option Sl) (fa : EF) : EF := bnd (eD fa) fun x ρ => match g x with
  | none => none
  | some s => some (s, ρ)
theorem eok_op {K : PySem.W.Frag} {r : R2} {g : D → D → Option Sl} {ta tb : TE} {fa fb : EF} (hr : R2K K r g) (ha : EOK K ta fa) (hb : EOK K tb fb) : EOK K (tOp r ta tb) (eB g fa fb) := by
  intro σ F H O ρ s ρ' Q er hf k
  obtain ⟨x, ρ1, h1, h2⟩ := bnd_some hf
  obtain ⟨y, ρ2, h3, h4⟩ := bnd_some h2
  refine ha.fz σ F H O ρ x _ _ er h1 fun v F1 H1 O1 tr1 er1 r1 => ?_
  refine hb.fz σ F1 H1 O1 ρ1 y _ _ er1 h3 fun u F2 H2 O2 tr2 er2 r2 => ?_
  cases e : g x y with
  | none => rw [e] at h4; cases h4
  | some t =>
    rw [e] at h4
    cases h4
    exact hr v u x y F2 H2 _ Q er2.sw.ex ((r1.ext tr2.ex).vw er2.sw.ex) (r2.vw er2.sw.ex) e (rout_of (tr1.trans tr2) er2 k)
theorem eok_un {K : PySem.W.Frag} {r : V → Hp → VK → Prop} {g : D → Option Sl} {ta : TE} {fa : EF} (hr : R1K K r g) (ha : EOK K ta fa) : EOK K (tUn r ta) (eU g fa) := by
  intro σ F H O ρ s ρ' Q er hf k
  obtain ⟨x, ρ1, h1, h2⟩ := bnd_some hf
  refine ha.fz σ F H O ρ x _ _ er h1 fun v F1 H1 O1 tr1 er1 r1 => ?_
  cases e : g x with
  | none => rw [e] at h2; cases h2
  | some t =>
    rw [e] at h2
    cases h2
    exact hr v x F1 H1 _ Q er1.sw.ex (r1.vw er1.sw.ex) e (rout_of tr1 er1 k)
variable {a b c : Expr} {fa fb fc : EF} {pos : Pos}
theorem de_op {op : Operator} {r : R2} {g : D → D → Option Sl} (ho : ∀ X, Stc S X → OpR X (binaryOp op) r) (hr : R2K S.G.K r g) (ha : DE S a fa) (hb : DE S b fb) : DE S (.BinOp a op b pos) (eB g fa fb) := by
  obtain ⟨ta, pa, oa⟩ := ha
  obtain ⟨tb, pb, ob⟩ := hb
  exact ⟨tOp r ta tb, fun X h => pe_op (ho X h) (pa X h) (pb X h), eok_op hr oa ob⟩
theorem de_un {op : UnaryOp} {r : V → Hp → VK → Prop} {g : D → Option Sl} (ho : ∀ X, Stc S X → UnR X (unaryOp op) r) (hr : R1K S.G.K r g) (ha : DE S a fa) : DE S (.UnaryOp op a pos) (eU g fa) := by
  obtain ⟨ta, pa, oa⟩ := ha
  exact ⟨tUn r ta, fun X h => pe_un (ho X h) (pa X h), eok_un hr oa⟩
theorem de_cmp {op : CmpOp} {r : R2} {g : D → D → Option Sl} (ho : ∀ X, Stc S X → OpR X (compareOp op) r) (hr : R2K S.G.K r g) (ha : DE S a fa) (hb : DE S b fb) (hm : behindInMarks op b = false) : DE S (.Compare a [op] [b] pos) (eB g fa fb) := by
  obtain ⟨ta, pa, oa⟩ := ha
  obtain ⟨tb, pb, ob⟩ := hb
  exact ⟨tOp r ta tb, fun X h => pe_cmpR (ho X h) (pa X h) (pb X h) hm, eok_op hr oa ob⟩
/-- a test by a value True or False -/
def tB1 (f : EF) : TF := bnd (eD f) fun d ρ => match d with
  | .bl b => some (b, ρ)
  | _ => none
theorem tok_val {K : PySem.W.Frag} {t : TE} {f : EF} (h : EOK K t f) : TOK K (tTest t) (tB1 f) := by
  intro σ F H O ρ b ρ' Q er hf k
  obtain ⟨d, ρ1, h1, h2⟩ := bnd_some hf
  refine h.fz σ F H O ρ d _ _ er h1 fun v F1 H1 O1 tr1 er1 r1 => ?_
  cases d with
  | bl c =>
    cases h2
    exact ⟨b, r1.bl_inv, k F1 H1 O1 tr1 er1⟩
  | _ => cases h2
theorem dt_cmp {op : CmpOp} {r : R2} {g : D → D → Option Sl} (ho : ∀ X, Stc S X → OpR X (compareOp op) r) (hr : R2K S.G.K r g) (ha : DE S a fa) (hb : DE S b fb) (hm : behindInMarks op b = false) : DT S (.Compare a [op] [b] pos) (tB1 (eB g fa fb)) := by
  obtain ⟨ta, pa, oa⟩ := ha
  obtain ⟨tb, pb, ob⟩ := hb
  exact ⟨_, fun X h => pt_cmpR (ho X h) (pa X h) (pb X h) hm, tok_val (eok_op hr oa ob)⟩
theorem dt_val {e : Expr} {f : EF} (h : DE S e f) (he : ∀ X, Stc S X → ∀ whole, isTrue e X.env whole = (do let v ← whole; standAt e.pos; holding [v] (truthy v)) := by intros; rfl) : DT S e (tB1 f) := by
  obtain ⟨t, p, o⟩ := h
  exact ⟨_, fun X hX => pt_val (p X hX) (he X hX), tok_val o⟩
/-- a < b < c -/
def eCh (g g' : D → D → Option Sl) (fa fb fc : EF) : EF := bnd (eD fa) fun x => bnd (eD fb) fun y ρ => match g x y with
  | some (.im (.bl true)) => bnd (eD fc) (fun z ρ2 => match g' y z with
    | none => none
    | some s => some (s, ρ2)) ρ
  | some (.im (.bl false)) => some (.im (.bl false), ρ)
  | _ => none
theorem eok_chain {K : PySem.W.Frag} {r r' : R2} {g g' : D → D → Option Sl} {ta tb tc : TE} (hr : R2K K r g) (hr' : R2K K r' g') (ha : EOK K ta fa) (hb : EOK K tb fb) (hc : EOK K tc fc) : EOK K (tChain r r' ta tb tc) (eCh g g' fa fb fc) := by
  intro σ F H O ρ s ρ' Q er hf k
  obtain ⟨x, ρ1, h1, h2⟩ := bnd_some hf
  obtain ⟨y, ρ2, h3, h4⟩ := bnd_some h2
  refine ha.fz σ F H O ρ x _ _ er h1 fun v F1 H1 O1 tr1 er1 r1 => ?_
  refine hb.fz σ F1 H1 O1 ρ1 y _ _ er1 h3 fun u F2 H2 O2 tr2 er2 r2 => ?_
  have vx := (r1.ext tr2.ex).vw er2.sw.ex
  have vy := r2.vw er2.sw.ex
  split at h4
  · rename_i e
    refine hr v u x y F2 H2 _ _ er2.sw.ex vx vy e ⟨fun z rz => ⟨true, rz.bl_inv, ?_⟩, fun p o _ rz => (by cases rz)⟩
    rw [if_pos rfl]
    obtain ⟨z', ρ3, h5, h6⟩ := bnd_some h4
    refine hc.fz σ F2 H2 O2 ρ2 z' _ _ er2 h5 fun w' F3 H3 O3 tr3 er3 r3 => ?_
    cases e3 : g' y z' with
    | none => rw [e3] at h6; cases h6
    | some t =>
      rw [e3] at h6
      cases h6
      exact hr' u w' y z' F3 H3 _ Q er3.sw.ex ((r2.ext tr3.ex).vw er3.sw.ex) (r3.vw er3.sw.ex) e3 (rout_of ((tr1.trans tr2).trans tr3) er3 k)
  · rename_i e
    cases h4
    refine hr v u x y F2 H2 _ _ er2.sw.ex vx vy e ⟨fun z rz => ⟨false, rz.bl_inv, ?_⟩, fun p o _ rz => (by cases rz)⟩
    rw [if_neg Bool.false_ne_true]
    exact k _ F2 H2 O2 (tr1.trans tr2) er2 (.bl false) fun z => by cases z
  · cases h4
theorem de_chain {op op' : CmpOp} {r r' : R2} {g g' : D → D → Option Sl} (ho : ∀ X, Stc S X → OpR X (compareOp op) r) (hr : R2K S.G.K r g) (ho' : ∀ X, Stc S X → OpR X (compareOp op') r') (hr' : R2K S.G.K r' g') (ha : DE S a fa) (hb : DE S b fb) (hc : DE S c fc)
    (hm : lastMarks [op, op'] [b, c] = false := by with_unfolding_all rfl) : DE S (.Compare a [op, op'] [b, c] pos) (eCh g g' fa fb fc) := by
  obtain ⟨ta, pa, oa⟩ := ha
  obtain ⟨tb, pb, ob⟩ := hb
  obtain ⟨tc, pc, oc⟩ := hc
  exact ⟨_, fun X h => pe_chain (ho X h) (ho' X h) (pa X h) (pb X h) (pc X h) hm, eok_chain hr hr' oa ob oc⟩
theorem dt_chain {op op' : CmpOp} {r r' : R2} {g g' : D → D → Option Sl} (ho : ∀ X, Stc S X → OpR X (compareOp op) r) (hr : R2K S.G.K r g) (ho' : ∀ X, Stc S X → OpR X (compareOp op') r') (hr' : R2K S.G.K r' g') (ha : DE S a fa) (hb : DE S b fb) (hc : DE S c fc)
    (hm : lastMarks [op, op'] [b, c] = false := by with_unfolding_all rfl) : DT S (.Compare a [op, op'] [b, c] pos) (tB1 (eCh g g' fa fb fc)) := by
  obtain ⟨ta, pa, oa⟩ := ha
  obtain ⟨tb, pb, ob⟩ := hb
  obtain ⟨tc, pc, oc⟩ := hc
  exact ⟨_, fun X h => pt_chain (ho X h) (ho' X h) (pa X h) (pb X h) (pc X h) hm, tok_val (eok_chain hr hr' oa ob oc)⟩

/-! and, or, not -/
def eAnd (fa fb : EF) : EF := bnd (eD fa) fun d ρ => match d with
  | .bl true => fb ρ
  | .bl false => some (.im (.bl false), ρ)
  | _ => none
def eOr (fa fb : EF) : EF := bnd (eD fa) fun d ρ => match d with
  | .bl true => some (.im (.bl true), ρ)
  | .bl false => fb ρ
  | _ => none
def eNot (fa : EF) : EF := bnd (eD fa) fun d ρ => match d with
  | .bl b => some (.im (.bl (!b)), ρ)
  | _ => none
variable {rest : List Expr}
theorem de_one {op} (h : DE S a fa) : DE S (.BoolOp op [a] pos) fa := by
  obtain ⟨t, p, o⟩ := h
  exact ⟨t, fun X hX => pe_one (p X hX), o⟩
theorem de_and (ha : DE S a fa) (hb : DE S (.BoolOp .And (b :: rest) pos) fb) : DE S (.BoolOp .And (a :: b :: rest) pos) (eAnd fa fb) := by
  obtain ⟨ta, pa, oa⟩ := ha
  obtain ⟨tb, pb, ob⟩ := hb
  refine ⟨tAndV ta tb, fun X h => pe_and (pa X h) (pb X h), ?_⟩
  intro σ F H O ρ s ρ' Q er hf k
  obtain ⟨d, ρ1, h1, h2⟩ := bnd_some hf
  refine oa.fz σ F H O ρ d _ _ er h1 fun v F1 H1 O1 tr1 er1 r1 => ?_
  split at h2
  · refine ⟨true, r1.bl_inv, ?_⟩
    rw [if_pos rfl]
    exact ob σ F1 H1 O1 ρ1 s ρ' Q er1 h2 fun v F2 H2 O2 tr2 er2 r2 f2 => k v F2 H2 O2 (tr1.trans tr2) er2 r2 f2
  · cases h2
    refine ⟨false, r1.bl_inv, ?_⟩
    rw [if_neg Bool.false_ne_true]
    exact k _ F1 H1 O1 tr1 er1 (.bl false) fun z => by cases z
  · cases h2
theorem de_or (ha : DE S a fa) (hb : DE S (.BoolOp .Or (b :: rest) pos) fb) : DE S (.BoolOp .Or (a :: b :: rest) pos) (eOr fa fb) := by
  obtain ⟨ta, pa, oa⟩ := ha
  obtain ⟨tb, pb, ob⟩ := hb
  refine ⟨tOrV ta tb, fun X h => pe_or (pa X h) (pb X h), ?_⟩
  intro σ F H O ρ s ρ' Q er hf k
  obtain ⟨d, ρ1, h1, h2⟩ := bnd_some hf
  refine oa.fz σ F H O ρ d _ _ er h1 fun v F1 H1 O1 tr1 er1 r1 => ?_
  split at h2
  · cases h2
    refine ⟨true, r1.bl_inv, ?_⟩
    rw [if_pos rfl]
    exact k _ F1 H1 O1 tr1 er1 (.bl true) fun z => by cases z
  · refine ⟨false, r1.bl_inv, ?_⟩
    rw [if_neg Bool.false_ne_true]
    exact ob σ F1 H1 O1 ρ1 s ρ' Q er1 h2 fun v F2 H2 O2 tr2 er2 r2 f2 => k v F2 H2 O2 (tr1.trans tr2) er2 r2 f2
  · cases h2
theorem de_not (ha : DE S a fa) : DE S (.UnaryOp .Not a pos) (eNot fa) := by
  obtain ⟨ta, pa, oa⟩ := ha
  refine ⟨tNotV ta, fun X h => pe_not (pa X h), ?_⟩
  intro σ F H O ρ s ρ' Q er hf k
  obtain ⟨d, ρ1, h1, h2⟩ := bnd_some hf
  refine oa.fz σ F H O ρ d _ _ er h1 fun v F1 H1 O1 tr1 er1 r1 => ?_
  split at h2
  · cases h2
    exact ⟨_, r1.bl_inv, k _ F1 H1 O1 tr1 er1 (.bl _) fun z => by cases z⟩
  · cases h2
def tAnd2 (f g : TF) : TF := bnd f fun b ρ => if b then g ρ else some (false, ρ)
def tOr2 (f g : TF) : TF := bnd f fun b ρ => if b then some (true, ρ) else g ρ
def tNot1 (f : TF) : TF := bnd f fun b ρ => some (!b, ρ)
variable {ga gb : TF}
theorem dw_and1 (h : DT S a ga) : DW S (.BoolOp .And [a] pos) ga := by
  obtain ⟨t, p, o⟩ := h
  exact ⟨t, fun X hX => pw_and1 (p X hX), o⟩
theorem dw_or1 (h : DT S a ga) : DW S (.BoolOp .Or [a] pos) ga := by
  obtain ⟨t, p, o⟩ := h
  exact ⟨t, fun X hX => pw_or1 (p X hX), o⟩
theorem dw_and (ha : DT S a ga) (hb : DW S (.BoolOp .And (b :: rest) pos) gb) : DW S (.BoolOp .And (a :: b :: rest) pos) (tAnd2 ga gb) := by
  obtain ⟨ta, pa, oa⟩ := ha
  obtain ⟨tb, pb, ob⟩ := hb
  refine ⟨_, fun X h => pw_and (pa X h) (pb X h), ?_⟩
  intro σ F H O ρ c ρ' Q er hf k
  obtain ⟨d, ρ1, h1, h2⟩ := bnd_some hf
  refine oa σ F H O ρ d _ _ er h1 fun F1 H1 O1 tr1 er1 => ?_
  cases d with
  | true =>
    rw [if_pos rfl] at h2 ⊢
    exact ob σ F1 H1 O1 ρ1 c ρ' Q er1 h2 fun F2 H2 O2 tr2 er2 => k F2 H2 O2 (tr1.trans tr2) er2
  | false =>
    rw [if_neg Bool.false_ne_true] at h2 ⊢
    cases h2
    exact k F1 H1 O1 tr1 er1
theorem dw_or (ha : DT S a ga) (hb : DW S (.BoolOp .Or (b :: rest) pos) gb) : DW S (.BoolOp .Or (a :: b :: rest) pos) (tOr2 ga gb) := by
  obtain ⟨ta, pa, oa⟩ := ha
  obtain ⟨tb, pb, ob⟩ := hb
  refine ⟨_, fun X h => pw_or (pa X h) (pb X h), ?_⟩
  intro σ F H O ρ c ρ' Q er hf k
  obtain ⟨d, ρ1, h1, h2⟩ := bnd_some hf
  refine oa σ F H O ρ d _ _ er h1 fun F1 H1 O1 tr1 er1 => ?_
  cases d with
  | true =>
    rw [if_pos rfl] at h2 ⊢
    cases h2
    exact k F1 H1 O1 tr1 er1
  | false =>
    rw [if_neg Bool.false_ne_true] at h2 ⊢
    exact ob σ F1 H1 O1 ρ1 c ρ' Q er1 h2 fun F2 H2 O2 tr2 er2 => k F2 H2 O2 (tr1.trans tr2) er2
theorem dt_w {e : Expr} (h : DW S e ga) : DT S e ga := by
  obtain ⟨t, p, o⟩ := h
  exact ⟨t, fun X hX => (p X hX).pt, o⟩
theorem dt_not (h : DT S a ga) : DT S (.UnaryOp .Not a pos) (tNot1 ga) := by
  obtain ⟨t, p, o⟩ := h
  refine ⟨_, fun X hX => pt_not (p X hX), ?_⟩
  intro σ F H O ρ c ρ' Q er hf k
  obtain ⟨d, ρ1, h1, h2⟩ := bnd_some hf
  cases h2
  exact o σ F H O ρ d _ _ er h1 fun F1 H1 O1 tr1 er1 => k F1 H1 O1 tr1 er1
def eIf (t : TF) (fa fb : EF) : EF := bnd t fun b ρ => if b then fa ρ else fb ρ
theorem de_if (hc : DT S c ga) (ha : DE S a fa) (hb : DE S b fb) : DE S (.IfExp c a b pos) (eIf ga fa fb) := by
  obtain ⟨tc, pc, oc⟩ := hc
  obtain ⟨ta, pa, oa⟩ := ha
  obtain ⟨tb, pb, ob⟩ := hb
  refine ⟨tIf tc ta tb, fun X h => pe_ifExp (pc X h) (pa X h) (pb X h), ?_⟩
  intro σ F H O ρ s ρ' Q er hf k
  obtain ⟨d, ρ1, h1, h2⟩ := bnd_some hf
  refine oc σ F H O ρ d _ _ er h1 fun F1 H1 O1 tr1 er1 => ?_
  cases d with
  | true =>
    rw [if_pos rfl] at h2 ⊢
    exact oa σ F1 H1 O1 ρ1 s ρ' Q er1 h2 fun v F2 H2 O2 tr2 er2 r2 f2 => k v F2 H2 O2 (tr1.trans tr2) er2 r2 f2
  | false =>
    rw [if_neg Bool.false_ne_true] at h2 ⊢
    exact ob σ F1 H1 O1 ρ1 s ρ' Q er1 h2 fun v F2 H2 O2 tr2 er2 r2 f2 => k v F2 H2 O2 (tr1.trans tr2) er2 r2 f2

/-! arguments, tuples, lists -/
def aNil : AF := fun ρ => some ([], ρ)
def aCons (f : EF) (r : AF) : AF := bnd (eD f) fun d => bnd r fun ds ρ => some (d :: ds, ρ)
variable {es : List Expr} {fr : AF}
theorem da_nil : DA S [] aNil := ⟨tNil, fun _ _ => pa_nil, by
  intro σ F H O ρ ds ρ' Q er hf k
  cases hf
  exact k [] F H O Tr.refl er .nil⟩
theorem da_cons (ha : DE S a fa) (hr : DA S es fr) (hs : ∀ X, Stc S X → starEach (a :: es) X.env = (false, eval a X.env) :: starEach es X.env := by intros; rfl) : DA S (a :: es) (aCons fa fr) := by
  obtain ⟨ta, pa, oa⟩ := ha
  obtain ⟨tr, pr, or⟩ := hr
  refine ⟨tCons ta tr, fun X h => pa_cons (pa X h) (pr X h) (hs X h), ?_⟩
  intro σ F H O ρ ds ρ' Q er hf k
  obtain ⟨d, ρ1, h1, h2⟩ := bnd_some hf
  obtain ⟨ds', ρ2, h3, h4⟩ := bnd_some h2
  cases h4
  refine oa.fz σ F H O ρ d _ _ er h1 fun v F1 H1 O1 tr1 er1 r1 => ?_
  exact or σ F1 H1 O1 ρ1 ds' _ _ er1 h3 fun vs F2 H2 O2 tr2 er2 r2 => k _ F2 H2 O2 (tr1.trans tr2) er2 (.cons (r1.ext tr2.ex) r2)
/-- sizes that the layer takes -/
abbrev big : Nat := 100000
def eTup (r : AF) : EF := bnd r fun ds ρ => if ds.length ≤ big then some (.im (.tup ds), ρ) else none
def eLst (r : AF) : EF := bnd r fun ds ρ => if ds.length ≤ big then some (.ol ds, ρ) else none
theorem big_line {n : Nat} (h : n ≤ big) : n ≤ sizeLine := Nat.le_trans h (by decide)
theorem de_tup {x1} (h : DA S es fr) : DE S (.Tuple es x1 pos) (eTup fr) := by
  obtain ⟨t, p, o⟩ := h
  refine ⟨tTup t, fun X hX => pe_tup (p X hX), ?_⟩
  intro σ F H O ρ s ρ' Q er hf k
  obtain ⟨ds, ρ1, h1, h2⟩ := bnd_some hf
  split at h2
  · rename_i hz
    cases h2
    refine o σ F H O ρ ds _ _ er h1 fun vs F1 H1 O1 tr1 er1 r1 => ⟨by rw [r1.len]; exact big_line hz, fun q hq => ?_⟩
    exact k _ _ _ O1 (tr1.trans (Tr.newF er1.sw hq)) (er1.newF hq) (.tup (SqT.of upd_same) (r1.ext (same_new (same_none er1.sw.ex hq)))) fun z => by cases z
  · cases h2
theorem de_lst (h : DA S es fr) : DE S (.List es pos) (eLst fr) := by
  obtain ⟨t, p, o⟩ := h
  refine ⟨tLst t, fun X hX => pe_lst (p X hX), ?_⟩
  intro σ F H O ρ s ρ' Q er hf k
  obtain ⟨ds, ρ1, h1, h2⟩ := bnd_some hf
  split at h2
  · rename_i hz
    cases h2
    refine o σ F H O ρ ds _ _ er h1 fun vs F1 H1 O1 tr1 er1 r1 => ⟨by rw [r1.len]; exact big_line hz, fun q hq => ?_⟩
    exact rout_of (s := .ol ds) tr1 er1 k q vs hq r1
  · cases h2

/-! calls of built-ins by name -/
def eCa (g : List D → Option Sl) (r : AF) : EF := bnd r fun ds ρ => match g ds with
  | none => none
  | some s => some (s, ρ)
theorem eok_cb {K : PySem.W.Frag} {r : List V → Hp → VK → Prop} {g : List D → Option Sl} {t : TA} (hr : RCK K r g) (o : AOK K t fr) : EOK K (tCB r t) (eCa g fr) := by
  intro σ F H O ρ s ρ' Q er hf k
  obtain ⟨ds, ρ1, h1, h2⟩ := bnd_some hf
  cases e : g ds with
  | none => rw [e] at h2; cases h2
  | some u =>
    rw [e] at h2
    cases h2
    exact o σ F H O ρ ds _ _ er h1 fun vs F1 H1 O1 tr1 er1 r1 => hr vs ds F1 H1 _ Q er1.sw.ex r1 e (rout_of tr1 er1 k)
theorem de_callB {x : Str} {id : String} {p pos : Pos} {r : List V → Hp → VK → Prop} {g : List D → Option Sl} (hc : ∀ X, Stc S X → CallR X (.builtin id) r) (hr : RCK S.G.K r g) (hg : S.sc.names.lookup x = some .globalImplicit) (hm : S.G.mg x = none) (hv : bootBuiltins x = some (.builtin id))
    (ha : DA S (a :: es) fr) (hn : x ≠ "__name__" := by decide) (hdb : (x == ("__debug__" : Str)) = false := by decide) (he : ∀ X, Stc S X → starEach (a :: es) X.env = (false, eval a X.env) :: starEach es X.env := by intros; rfl) (hpl : ∀ X, Stc S X → (backTo pos (starEach es X.env)).any (·.1) = false := by intros; rfl) : DE S (.Call (.Name x p) (a :: es) [] pos) (eCa g fr) := by
  obtain ⟨t, pt, o⟩ := ha
  exact ⟨tCB r t, fun X h => pe_callB (hc X h) (by unfold Gl Env.kindOf; rw [h.sc]; exact hg) (by rw [h.mg]; exact hm) hv (pt X h) hn hdb (he X h) (hpl X h), eok_cb hr o⟩
theorem de_callTy {x : Str} {T : String} {p pos : Pos} {r : List V → Hp → VK → Prop} {g : List D → Option Sl} (hc : ∀ X, Stc S X → CallR X (.type T) r) (hr : RCK S.G.K r g) (hg : S.sc.names.lookup x = some .globalImplicit) (hm : S.G.mg x = none) (hv : bootBuiltins x = some (.type T))
    (ha : DA S (a :: es) fr) (hn : x ≠ "__name__" := by decide) (hdb : (x == ("__debug__" : Str)) = false := by decide) (he : ∀ X, Stc S X → starEach (a :: es) X.env = (false, eval a X.env) :: starEach es X.env := by intros; rfl) (hpl : ∀ X, Stc S X → (backTo pos (starEach es X.env)).any (·.1) = false := by intros; rfl) : DE S (.Call (.Name x p) (a :: es) [] pos) (eCa g fr) := by
  obtain ⟨t, pt, o⟩ := ha
  exact ⟨tCB r t, fun X h => pe_callTy (hc X h) (by unfold Gl Env.kindOf; rw [h.sc]; exact hg) (by rw [h.mg]; exact hm) hv (pt X h) hn hdb (he X h) (hpl X h), eok_cb hr o⟩
end
end DL

set_option Elab.async false
set_option linter.all false
set_option maxRecDepth 100000
set_option maxHeartbeats 4000000
/-! DLStm: statements, targets, loops, comprehensions, calls of the text's own defs. -/
namespace DL
open PySem PySem.Spec PyProof.Rows L2

theorem OutOK.tr {K : PySem.W.Frag} {fx : Nat → Bool} {D : Ends} {σ σ1 : L2.St} {F H F1 H1 : Hp} {O O1 : Own} {out : Out} (h : OutOK K fx D σ F H O out) (tr : Tr F H O F1 H1 O1) (fr : FxR fx σ σ1) : OutOK K fx D σ1 F1 H1 O1 out := by
  cases out with
  | nx ρ => exact fun σ' F' H' O' t er x => h σ' F' H' O' (tr.trans t) er (fr.trans x)
  | bk ρ => exact fun σ' F' H' O' t er x => h σ' F' H' O' (tr.trans t) er (fr.trans x)
  | ct ρ => exact fun σ' F' H' O' t er x => h σ' F' H' O' (tr.trans t) er (fr.trans x)
  | rt s ρ => exact fun v σ' F' H' O' t er x => h v σ' F' H' O' (tr.trans t) er (fr.trans x)

section
variable {S : Sc} {pos : Pos} {st : Stmt} {rest : List Stmt} {g g' : SF} {e : Expr} {f : EF}
/-! ### blocks -/
def sNil : SF := fun ρ => some (.nx ρ)
def sSeq (g g' : SF) : SF := fun ρ => match g ρ with
  | some (.nx ρ') => g' ρ'
  | o => o
theorem dss_nil : DSs S [] sNil := ⟨tNext, fun _ _ => pss_nil, by
  intro D σ F H O ρ out er hf k
  cases hf
  exact k σ F H O Tr.refl er FxR.refl⟩
theorem dss_one (h : DS S st g) : DSs S [st] g := by
  obtain ⟨t, p, o⟩ := h
  exact ⟨t, fun X hX => pss_one (p X hX), o⟩
theorem sok_seq {K : PySem.W.Frag} {fx : Nat → Bool} {t u : TS} (h1 : SOK K fx t g) (h2 : SOK K fx u g') : SOK K fx (tSeq t u) (sSeq g g') := by
  intro D σ F H O ρ out er hf k
  unfold sSeq at hf
  cases e : g ρ with
  | none => rw [e] at hf; cases hf
  | some o =>
    refine h1 { D with nx := u D } σ F H O ρ o er e ?_
    rw [e] at hf
    cases o with
    | nx ρ1 => exact fun σ' F' H' O' tr er' fr => h2 D σ' F' H' O' ρ1 out er' hf (k.tr tr fr)
    | rt s ρ1 => cases hf; exact k
    | bk ρ1 => cases hf; exact k
    | ct ρ1 => cases hf; exact k
theorem dss_cons (h : DS S st g) (hr : DSs S rest g') : DSs S (st :: rest) (sSeq g g') := by
  obtain ⟨t, p, o⟩ := h
  obtain ⟨u, q, o'⟩ := hr
  exact ⟨tSeq t u, fun X hX => pss_cons (p X hX) (q X hX), sok_seq o o'⟩
def sBrk : SF := fun ρ => some (.bk ρ)
def sCnt : SF := fun ρ => some (.ct ρ)
theorem ds_pass : DS S (.Pass pos) sNil := ⟨tNext, fun _ _ => ps_pass, by
  intro D σ F H O ρ out er hf k
  cases hf
  exact k σ F H O Tr.refl er FxR.refl⟩
theorem ds_break : DS S (.Break pos) sBrk := ⟨tBreak, fun _ _ => ps_break, by
  intro D σ F H O ρ out er hf k
  cases hf
  exact k σ F H O Tr.refl er FxR.refl⟩
theorem ds_cont : DS S (.Continue pos) sCnt := ⟨tCont, fun _ _ => ps_continue, by
  intro D σ F H O ρ out er hf k
  cases hf
  exact k σ F H O Tr.refl er FxR.refl⟩
/-! ### return -/
def sRet (f : EF) : SF := bnd f fun s ρ => some (.rt s ρ)
theorem ds_ret (h : DE S e f) : DS S (.Return (some e) pos) (sRet f) := by
  obtain ⟨t, p, o⟩ := h
  refine ⟨tRet t, fun X hX => ps_ret (p X hX), ?_⟩
  intro D σ F H O ρ out er hf k
  obtain ⟨s, ρ1, h1, h2⟩ := bnd_some hf
  cases h2
  exact o σ F H O ρ s ρ1 _ er h1 fun v F1 H1 O1 tr er1 sl fr => k v σ F1 H1 O1 tr er1 FxR.refl sl fr
def sRetN : SF := fun ρ => some (.rt (.im .non) ρ)
theorem ds_retN : DS S (.Return none pos) sRetN := ⟨tRetN, fun _ _ => ps_retN, by
  intro D σ F H O ρ out er hf k
  cases hf
  exact k _ σ F H O Tr.refl er FxR.refl .non fun z => by cases z⟩
/-- return x, x an own list or dict: it leaves the def -/
def sRetO (i : Nat) : SF := fun ρ => match ρ[i]? with
  | some (some s) => some (.rt s (ρ.set i none))
  | _ => none
theorem ds_retO (i : Nat) {x : Str} {p : Pos} (hN : S.N[i]? = some x := by rfl) (hv : S.sc.names.lookup x = some .local ∨ S.sc.names.lookup x = some .cell ∨ S.sc.names.lookup x = some .free := by first | exact Or.inl rfl | exact Or.inr (Or.inl rfl) | exact Or.inr (Or.inr rfl))
    (hd : (x == ("__debug__" : Str)) = false := by decide) (hcd : (x == ("__classdict__" : Str)) = false := by decide) : DS S (.Return (some (.Name x p)) pos) (sRetO i) := by
  refine ⟨tRet (tVar i), fun X h => ps_ret (pe_var (by rw [h.N]; exact hN) (by unfold Vis; rw [h.sc]; exact hv) hd hcd), ?_⟩
  intro D σ F H O ρ out er hf k
  unfold sRetO at hf
  split at hf
  · rename_i s hs
    cases hf
    obtain ⟨v, hv, r⟩ := er.sl i s hs
    refine ⟨v, hv, k v σ F H O Tr.refl er.drop FxR.refl r fun ho j t hj ht e => ?_⟩
    by_cases hji : j = i
    · subst hji
      have hl : j < ρ.length := by obtain ⟨z, _⟩ := List.getElem?_eq_some_iff.mp hs; exact z
      rw [List.getElem?_set_self hl] at hj
      cases hj
    · rw [List.getElem?_set_ne (Ne.symm hji)] at hj
      exact er.dis j i t s v hji hj hs ht ho e hv
  · cases hf
/-! ### targets -/
def gN (i : Nat) : D → En → Option En := fun d ρ => some (ρ.set i (some (.im d)))
theorem gok_name {K : PySem.W.Frag} {fx : Nat → Bool} (i : Nat) (hx : fx i = false) : GOK K fx (gName i) (gN i) := by
  intro v d σ F H O ρ ρ' Q er r hf k
  cases hf
  exact k _ F H O Tr.refl (er.setI r) (FxR.set hx)
theorem dg_name (i : Nat) {x : Str} {p : Pos} (hN : S.N[i]? = some x := by rfl) (hv : StL S x := by first | exact Or.inl rfl | exact Or.inr ⟨rfl, rfl⟩)  (hx : S.fx i = false := by rfl) : DG S (.Name x p) (gN i) :=
  ⟨gName i, fun X h => pg_name (by rw [h.N]; exact S.nd) (by rw [h.N]; exact hN) (by unfold L2.Loc; rw [h.sc]; exact hv.imp id (·.1)) (by
    rcases hv with z | z
    · exact .inr (by rw [h.sc]; exact z)
    · exact .inl (h.fn x z.2)), gok_name i hx⟩
def gsNil : List D → En → Option En := fun ds ρ => match ds with
  | [] => some ρ
  | _ => none
def gsCons (f : D → En → Option En) (g : List D → En → Option En) : List D → En → Option En := fun ds ρ => match ds with
  | d :: r => (f d ρ).bind (g r)
  | [] => none
theorem dgs_nil : DGs S [] gsNil := ⟨gNil, fun _ _ => pgs_nil, by
  intro vs ds σ F H O ρ ρ' Q er r hf k
  cases r with
  | nil => cases hf; exact ⟨rfl, k σ F H O Tr.refl er FxR.refl⟩
  | cons _ _ => cases hf⟩
theorem dgs_cons {es : List Expr} {f : D → En → Option En} {g : List D → En → Option En} (h : DG S e f) (hr : DGs S es g) (hs : ∀ X, Stc S X → (assignEach (e :: es) X.env).map (·.2) = assign e X.env :: (assignEach es X.env).map (·.2) := by intros; rfl) : DGs S (e :: es) (gsCons f g) := by
  obtain ⟨t, p, o⟩ := h
  obtain ⟨u, q, o'⟩ := hr
  refine ⟨gCons t u, fun X hX => pgs_cons (p X hX) (q X hX) (hs X hX), ?_⟩
  intro vs ds σ F H O ρ ρ' Q er r hf k
  cases r with
  | nil => cases hf
  | cons r rr =>
    rename_i v vr d dr
    have hf : (f d ρ).bind (g dr) = some ρ' := hf
    cases e1 : f d ρ with
    | none => rw [e1] at hf; cases hf
    | some ρ1 =>
      rw [e1] at hf
      exact ⟨v, vr, rfl, o v d σ F H O ρ ρ1 _ er r e1 fun σ1 F1 H1 O1 tr1 er1 x1 => o' vr dr σ1 F1 H1 O1 ρ1 ρ' _ er1 (rr.ext tr1.ex) hf fun σ2 F2 H2 O2 tr2 er2 x2 => k σ2 F2 H2 O2 (tr1.trans tr2) er2 (x1.trans x2)⟩
def gT (n : Nat) (f : List D → En → Option En) : D → En → Option En := fun d ρ => match d with
  | .tup ds => if ds.length = n then f ds ρ else none
  | _ => none
theorem dg_tup {es : List Expr} {kk n : Nat} {f : List D → En → Option En} (h : DGs S es f) (hn : ∀ X, Stc S X → (assignEach es X.env).length = n := by intros; rfl) (hst : ∀ X, Stc S X → (assignEach es X.env).findIdx? (·.1) = none := by intros; rfl) : DG S (.Tuple es kk pos) (gT n f) := by
  obtain ⟨t, p, o⟩ := h
  refine ⟨gTup S.G.K n t, fun X hX => by have := pg_tup (k := kk) (pos := pos) hX.calm (p X hX) (hn X hX) (hst X hX); rw [hX.K] at this; exact this, ?_⟩
  intro v d σ F H O ρ ρ' Q er r hf k
  cases d with
  | tup ds =>
    obtain ⟨a, vs, rfl, hq, rl⟩ := r.tup_inv
    have hf : (if ds.length = n then f ds ρ else none) = some ρ' := hf
    split at hf
    · rename_i hl
      exact ⟨a, vs, rfl, sqT_ext er.sw.ex hq, by rw [rl.len]; exact hl, o vs ds σ F H O ρ ρ' Q er rl hf k⟩
    · cases hf
  | _ => cases hf
/-! ### assignments -/
def sAsg (f : EF) (g : D → En → Option En) : SF := bnd (eD f) fun d ρ => (g d ρ).map .nx
theorem ds_asg {tg : Expr} {g : D → En → Option En} (h : DE S e f) (hg : DG S tg g) (hs : ∀ X, Stc S X → swapsWithSole [tg] e pos.line X.env = pure false := by intros; rfl) (hw : ∀ X, Stc S X → swappedStores [tg] e X.env = pure none := by intros; rfl)
    (h1 : ∀ X, Stc S X → (assignEach [tg] X.env).map (·.2) = [assign tg X.env] := by intros; rfl) : DS S (.Assign [tg] e pos) (sAsg f g) := by
  obtain ⟨t, p, o⟩ := h
  obtain ⟨u, q, o'⟩ := hg
  refine ⟨tAsg t u, fun X hX => ps_asg (p X hX) (q X hX) (hs X hX) (hw X hX) (h1 X hX), ?_⟩
  intro D σ F H O ρ out er hf k
  obtain ⟨d, ρ1, h2, h3⟩ := bnd_some hf
  cases e1 : g d ρ1 with
  | none => rw [e1] at h3; cases h3
  | some ρ2 =>
    rw [e1] at h3
    cases h3
    exact o.fz σ F H O ρ d ρ1 _ er h2 fun v F1 H1 O1 tr1 er1 r1 => o' v d σ F1 H1 O1 ρ1 ρ2 _ er1 r1 e1 fun σ2 F2 H2 O2 tr2 er2 x2 => k σ2 F2 H2 O2 (tr1.trans tr2) er2 x2
def sSet (i : Nat) (f : EF) : SF := bnd (eD f) fun d ρ => some (.nx (ρ.set i (some (.im d))))
def sSetO (i : Nat) (f : EF) : SF := bnd f fun s ρ => some (.nx (ρ.set i (some s)))
theorem ps_set' {S : Sc} {X : Cx} (h : Stc S X) (i : Nat) {x : Str} {p : Pos} {te : TE} (pe : PE X e te) (hs : swapsWith e (some (.Name x p)) pos.line X.env = pure false) (hN : S.N[i]? = some x) (hv : StL S x) :
    PS X (.Assign [.Name x p] e pos) (tAsg te (gName i)) :=
  ps_set (by rw [h.N]; exact S.nd) (by rw [h.N]; exact hN) (by unfold L2.Loc; rw [h.sc]; exact hv.imp id (·.1)) pe hs (by
    rcases hv with z | z
    · exact .inr (by rw [h.sc]; exact z)
    · exact .inl (h.fn x z.2))
theorem sok_set {K : PySem.W.Frag} {fx : Nat → Bool} {t : TE} (i : Nat) (hx : fx i = false) (o : EOK K t f) : SOK K fx (tAsg t (gName i)) (sSet i f) := by
  intro D σ F H O ρ out er hf k
  obtain ⟨d, ρ1, h2, h3⟩ := bnd_some hf
  cases h3
  exact o.fz σ F H O ρ d ρ1 _ er h2 fun v F1 H1 O1 tr1 er1 r1 => k _ F1 H1 O1 tr1 (er1.setI r1) (FxR.set hx)
theorem sok_setO {K : PySem.W.Frag} {fx : Nat → Bool} {t : TE} (i : Nat) (hx : fx i = false) (o : EOK K t f) : SOK K fx (tAsg t (gName i)) (sSetO i f) := by
  intro D σ F H O ρ out er hf k
  obtain ⟨s, ρ1, h2, h3⟩ := bnd_some hf
  cases h3
  exact o σ F H O ρ s ρ1 _ er h2 fun v F1 H1 O1 tr1 er1 r1 fr => k _ F1 H1 O1 tr1 (er1.set r1 fun ho j t _ hj ht => fr ho j t hj ht) (FxR.set hx)
theorem ds_set (i : Nat) {x : Str} {p : Pos} (h : DE S e f) (hs : ∀ X, Stc S X → swapsWith e (some (.Name x p)) pos.line X.env = pure false := by intros; rfl) (hN : S.N[i]? = some x := by rfl) (hv : StL S x := by first | exact Or.inl rfl | exact Or.inr ⟨rfl, rfl⟩)  (hx : S.fx i = false := by rfl) : DS S (.Assign [.Name x p] e pos) (sSet i f) := by
  obtain ⟨t, pt, o⟩ := h
  exact ⟨_, fun X hX => ps_set' hX i (pt X hX) (hs X hX) hN hv, sok_set i hx o⟩
theorem ds_setO (i : Nat) {x : Str} {p : Pos} (h : DE S e f) (hs : ∀ X, Stc S X → swapsWith e (some (.Name x p)) pos.line X.env = pure false := by intros; rfl) (hN : S.N[i]? = some x := by rfl) (hv : StL S x := by first | exact Or.inl rfl | exact Or.inr ⟨rfl, rfl⟩)  (hx : S.fx i = false := by rfl) : DS S (.Assign [.Name x p] e pos) (sSetO i f) := by
  obtain ⟨t, pt, o⟩ := h
  exact ⟨_, fun X hX => ps_set' hX i (pt X hX) (hs X hX) hN hv, sok_setO i hx o⟩
/-- an expression's value is dropped -/
def sDrop (f : EF) : SF := bnd f fun _ ρ => some (.nx ρ)
theorem ds_expr (h : DE S e f) (hs : ∀ X, Stc S X → swapsWith e none pos.line X.env = pure false := by intros; rfl) : DS S (.Expr e pos) (sDrop f) := by
  obtain ⟨t, p, o⟩ := h
  refine ⟨tDrop t, fun X hX => ps_expr (p X hX) (hs X hX), ?_⟩
  intro D σ F H O ρ out er hf k
  obtain ⟨s, ρ1, h1, h2⟩ := bnd_some hf
  cases h2
  exact o σ F H O ρ s ρ1 _ er h1 fun v F1 H1 O1 tr er1 sl fr => k σ F1 H1 O1 tr er1 FxR.refl
/-- a, b = x, y both written -/
def sPar (i j : Nat) (r : AF) : SF := bnd r fun ds ρ => match ds with
  | [d1, d2] => some (.nx ((ρ.set i (some (.im d1))).set j (some (.im d2))))
  | _ => none
theorem sok_par {K : PySem.W.Frag} {fx : Nat → Bool} {t : TA} {r : AF} (i j : Nat) (hi : fx i = false) (hj : fx j = false) (o : AOK K t r) : SOK K fx (tPar i j t) (sPar i j r) := by
  intro D σ F H O ρ out er hf k
  obtain ⟨ds, ρ1, h1, h2⟩ := bnd_some hf
  refine o σ F H O ρ ds ρ1 _ er h1 fun vs F1 H1 O1 tr er1 rl => ?_
  split at h2
  · cases h2
    cases rl with
    | cons r1 rl =>
      cases rl with
      | cons r2 rl =>
        cases rl
        exact ⟨_, _, rfl, k _ F1 H1 O1 tr ((er1.setI r1).setI r2) ((FxR.set hi).trans (FxR.set hj))⟩
  · cases h2
/-! ### if -/
def sIf (t : TF) (g g' : SF) : SF := bnd t fun b ρ => if b then g ρ else g' ρ
theorem ds_if {c : Expr} {a b : List Stmt} {t : TF} (hc : DT S c t) (ha : DSs S a g) (hb : DSs S b g') : DS S (.If c a b pos) (sIf t g g') := by
  obtain ⟨tc, pc, oc⟩ := hc
  obtain ⟨ta, pa, oa⟩ := ha
  obtain ⟨tb, pb, ob⟩ := hb
  refine ⟨tIfS tc ta tb, fun X h => ps_if (pc X h) (pa X h) (pb X h), ?_⟩
  intro D σ F H O ρ out er hf k
  obtain ⟨d, ρ1, h1, h2⟩ := bnd_some hf
  refine oc σ F H O ρ d ρ1 _ er h1 fun F1 H1 O1 tr1 er1 => ?_
  cases d with
  | true =>
    rw [if_pos rfl] at h2 ⊢
    exact oa D σ F1 H1 O1 ρ1 out er1 h2 (k.tr tr1 FxR.refl)
  | false =>
    rw [if_neg Bool.false_ne_true] at h2 ⊢
    exact ob D σ F1 H1 O1 ρ1 out er1 h2 (k.tr tr1 FxR.refl)
/-! ### x op= e -/
def sAug (i : Nat) (g : D → D → Option Sl) (f : EF) : SF := fun ρ => match ρ[i]? with
  | some (some (.im d)) => bnd (eD f) (fun d2 ρ1 => match g d d2 with
    | some (.im d3) => some (.nx (ρ1.set i (some (.im d3))))
    | _ => none) ρ
  | _ => none
theorem ds_aug (i : Nat) {x : Str} {p : Pos} {op : Operator} {ti : TIp} {g : D → D → Option Sl} (h : DE S e f) (ho : ∀ X, Stc S X → PIp X op ti) (hr : R2K S.G.K ti g) (hN : S.N[i]? = some x := by rfl)
    (hv : StL S x := by first | exact Or.inl rfl | exact Or.inr ⟨rfl, rfl⟩) (hd : (x == ("__debug__" : Str)) = false := by decide) (hx : S.fx i = false := by rfl) : DS S (.AugAssign (.Name x p) op e pos) (sAug i g f) := by
  obtain ⟨t, pt, o⟩ := h
  refine ⟨tAug i t ti, fun X hX => ps_aug (by rw [hX.N]; exact S.nd) (by rw [hX.N]; exact hN) (by unfold L2.Loc; rw [hX.sc]; exact hv.imp id (·.1)) (pt X hX) (ho X hX) (by
    rcases hv with z | z
    · exact .inr (by rw [hX.sc]; exact z)
    · exact .inl (hX.fn x z.2)), ?_⟩
  intro D σ F H O ρ out er hf k
  unfold sAug at hf
  split at hf
  · rename_i d hd
    obtain ⟨v, hv, r⟩ := er.sl i _ hd
    have r : Rp S.G.K F v d := r
    obtain ⟨d2, ρ1, h1, h2⟩ := bnd_some hf
    refine ⟨v, hv, o.fz σ F H O ρ d2 ρ1 _ er h1 fun u F1 H1 O1 tr1 er1 r1 => ?_⟩
    split at h2
    · rename_i d3 h3
      cases h2
      refine hr v u d d2 F1 H1 _ _ er1.sw.ex ((r.ext tr1.ex).vw er1.sw.ex) (r1.vw er1.sw.ex) h3 (rout_of (σ := σ) (ρ' := ρ1) tr1 er1 fun z F2 H2 O2 tr2 er2 r2 _ => ?_)
      exact k _ F2 H2 O2 tr2 (er2.setI r2) (FxR.set hx)
    · cases h2
  · cases hf

/-! ### loops -/
def forF (gb : D → En → Option En) (body : SF) : List D → SF
  | [], ρ => some (.nx ρ)
  | d :: ds, ρ => match gb d ρ with
    | none => none
    | some ρ1 => match body ρ1 with
      | some (.nx ρ2) => forF gb body ds ρ2
      | some (.ct ρ2) => forF gb body ds ρ2
      | some (.bk ρ2) => some (.nx ρ2)
      | some (.rt s ρ2) => some (.rt s ρ2)
      | none => none
def sFor (fi : AF) (gb : D → En → Option En) (body : SF) : SF := bnd fi fun ds => forF gb body ds
theorem ds_for {tg iter : Expr} {body : List Stmt} {fi : AF} {gb : D → En → Option En} (hi : DI S tg iter fi) (hg : DG S tg gb) (hb : DSs S body g) (hs : ∀ X, Stc S X → ∀ x, foldedSetIterable iter X.env x = pure x := by intros; rfl) : DS S (.For tg iter body [] pos) (sFor fi gb g) := by
  obtain ⟨wi, pi, oi⟩ := hi
  obtain ⟨tg', pg, og⟩ := hg
  obtain ⟨tb, pb, ob⟩ := hb
  refine ⟨tFor wi tg' tb, fun X hX => ps_for (by rw [hX.xe]; exact PassesOwn.never) hX.calm (pi X hX) (pg X hX) (pb X hX) (hs X hX), ?_⟩
  intro D σ F H O ρ out er hf k
  obtain ⟨ds, ρ1, h1, h2⟩ := bnd_some hf
  refine oi σ F H O ρ ds ρ1 _ er h1 fun J F1 H1 O1 tr1 er1 wk => ?_
  refine ⟨fun i m σ' H' => m = ds.length - i ∧ i ≤ ds.length ∧ ∃ F' O' ρ', Tr F H O F' H' O' ∧ Same F1 F' ∧ ER S.G.K F' H' O' σ' ρ' ∧ FxR S.fx σ σ' ∧ forF gb g (ds.drop i) ρ' = some out, ⟨_, rfl, Nat.zero_le _, F1, O1, ρ1, tr1, Same.refl _, er1, FxR.refl, h2⟩, ?_⟩
  rintro i m σ' H' ⟨rfl, hi, F', O', ρ', tr', sa, er', fx', hq⟩
  by_cases hlt : i < ds.length
  · refine .inr ⟨wk.go i H' (sa.trans er'.sw.ex) hlt, ?_⟩
    have hdr : ds.drop i = ds[i] :: ds.drop (i + 1) := (List.getElem_cons_drop hlt).symm
    rw [hdr] at hq
    unfold forF at hq
    refine ⟨fun σ2 H2 => i + 1 ≤ ds.length ∧ ∃ F2 O2 ρ2, Tr F H O F2 H2 O2 ∧ Same F1 F2 ∧ ER S.G.K F2 H2 O2 σ2 ρ2 ∧ FxR S.fx σ σ2 ∧ forF gb g (ds.drop (i + 1)) ρ2 = some out, fun σ2 H2 ⟨z, rest⟩ => ⟨_, by omega, rfl, z, rest⟩, fun x H2 hy => ?_⟩
    obtain ⟨d, hd, hy⟩ := wk.yld i F' H' O' x H2 sa er'.sw hlt hy
    have hdi : ds[i] = d := by
      rw [List.getElem?_eq_getElem hlt] at hd
      exact Option.some.inj hd
    rw [hdi] at hq
    obtain ⟨F3, tr3, er3, r3⟩ : ∃ F3, Tr F' H' O' F3 H2 O' ∧ ER S.G.K F3 H2 O' σ' ρ' ∧ Rp S.G.K F3 x d := by
      rcases hy with ⟨rfl, r⟩ | ⟨p, o, hp, rfl, r⟩
      · exact ⟨F', Tr.refl, er', r⟩
      · exact ⟨_, Tr.newF er'.sw hp, er'.newF hp, r⟩
    cases e1 : gb d ρ' with
    | none => rw [e1] at hq; cases hq
    | some ρ2 =>
      rw [e1] at hq
      have hq : (match g ρ2 with
        | some (.nx ρ2) => forF gb g (ds.drop (i + 1)) ρ2
        | some (.ct ρ2) => forF gb g (ds.drop (i + 1)) ρ2
        | some (.bk ρ2) => some (.nx ρ2)
        | some (.rt s ρ2) => some (.rt s ρ2)
        | none => none) = some out := hq
      refine og x d σ' F3 H2 O' ρ' ρ2 _ er3 r3 e1 fun σ4 F4 H4 O4 tr4 er4 fx4 => ?_
      have fx5 := fx'.trans fx4
      have trA := (tr'.trans tr3).trans tr4
      cases e2 : g ρ2 with
      | none => rw [e2] at hq; cases hq
      | some o =>
        rw [e2] at hq
        refine ob _ σ4 F4 H4 O4 ρ2 o er4 e2 ?_
        cases o with
        | nx ρ5 => exact fun σ5 F5 H5 O5 tr5 er5 x5 => ⟨hlt, F5, O5, ρ5, trA.trans tr5, ((sa.trans tr3.ex).trans tr4.ex).trans tr5.ex, er5, fx5.trans x5, hq⟩
        | ct ρ5 => exact fun σ5 F5 H5 O5 tr5 er5 x5 => ⟨hlt, F5, O5, ρ5, trA.trans tr5, ((sa.trans tr3.ex).trans tr4.ex).trans tr5.ex, er5, fx5.trans x5, hq⟩
        | bk ρ5 => cases hq; exact fun σ5 F5 H5 O5 tr5 er5 x5 => k σ5 F5 H5 O5 (trA.trans tr5) er5 (fx5.trans x5)
        | rt s ρ5 => cases hq; exact fun v σ5 F5 H5 O5 tr5 er5 x5 sl fr => k v σ5 F5 H5 O5 (trA.trans tr5) er5 (fx5.trans x5) sl fr
  · have e : i = ds.length := by omega
    subst e
    refine .inl ⟨wk.stop H' (sa.trans er'.sw.ex), ?_⟩
    rw [List.drop_length] at hq
    cases hq
    exact k σ' F' H' O' tr' er' fx'
def whileF (t : TF) (body : SF) : Nat → SF
  | 0, _ => none
  | n + 1, ρ => match t ρ with
    | none => none
    | some (false, ρ1) => some (.nx ρ1)
    | some (true, ρ1) => match body ρ1 with
      | some (.nx ρ2) => whileF t body n ρ2
      | some (.ct ρ2) => whileF t body n ρ2
      | some (.bk ρ2) => some (.nx ρ2)
      | some (.rt s ρ2) => some (.rt s ρ2)
      | none => none
/-- fuel: as many turns as one likes to say, from the slots' data -/
def sWhile (fuel : En → Nat) (t : TF) (body : SF) : SF := fun ρ => whileF t body (fuel ρ) ρ
theorem ds_while (fuel : En → Nat) {c : Expr} {body : List Stmt} {t : TF} (hc : DT S c t) (hb : DSs S body g) : DS S (.While c body [] pos) (sWhile fuel t g) := by
  obtain ⟨tc, pc, oc⟩ := hc
  obtain ⟨tb, pb, ob⟩ := hb
  refine ⟨tWhile tc tb, fun X hX => ps_while (by rw [hX.xe]; exact PassesOwn.never) (pc X hX) (pb X hX), ?_⟩
  intro D σ F H O ρ out er hf k
  refine ⟨fun m σ' H' => ∃ F' O' ρ', Tr F H O F' H' O' ∧ ER S.G.K F' H' O' σ' ρ' ∧ FxR S.fx σ σ' ∧ whileF t g m ρ' = some out, ⟨_, F, O, ρ, Tr.refl, er, FxR.refl, hf⟩, ?_⟩
  rintro m σ' H' ⟨F', O', ρ', tr', er', fx', hq⟩
  cases m with
  | zero => cases hq
  | succ m =>
    unfold whileF at hq
    cases e1 : t ρ' with
    | none => rw [e1] at hq; cases hq
    | some p =>
      obtain ⟨b, ρ1⟩ := p
      rw [e1] at hq
      refine oc σ' F' H' O' ρ' b ρ1 _ er' e1 fun F1 H1 O1 tr1 er1 => ?_
      cases b with
      | false =>
        rw [if_neg Bool.false_ne_true]
        cases hq
        exact k σ' F1 H1 O1 (tr'.trans tr1) er1 fx'
      | true =>
        rw [if_pos rfl]
        have hq : (match g ρ1 with
          | some (.nx ρ2) => whileF t g m ρ2
          | some (.ct ρ2) => whileF t g m ρ2
          | some (.bk ρ2) => some (.nx ρ2)
          | some (.rt s ρ2) => some (.rt s ρ2)
          | none => none) = some out := hq
        refine ⟨fun σ2 H2 => ∃ F2 O2 ρ2, Tr F H O F2 H2 O2 ∧ ER S.G.K F2 H2 O2 σ2 ρ2 ∧ FxR S.fx σ σ2 ∧ whileF t g m ρ2 = some out, fun σ2 H2 z => ⟨m, Nat.lt_succ_self m, z⟩, ?_⟩
        have trA := tr'.trans tr1
        cases e2 : g ρ1 with
        | none => rw [e2] at hq; cases hq
        | some o =>
          rw [e2] at hq
          refine ob _ σ' F1 H1 O1 ρ1 o er1 e2 ?_
          cases o with
          | nx ρ5 => exact fun σ5 F5 H5 O5 tr5 er5 x5 => ⟨F5, O5, ρ5, trA.trans tr5, er5, fx'.trans x5, hq⟩
          | ct ρ5 => exact fun σ5 F5 H5 O5 tr5 er5 x5 => ⟨F5, O5, ρ5, trA.trans tr5, er5, fx'.trans x5, hq⟩
          | bk ρ5 => cases hq; exact fun σ5 F5 H5 O5 tr5 er5 x5 => k σ5 F5 H5 O5 (trA.trans tr5) er5 (fx'.trans x5)
          | rt s ρ5 => cases hq; exact fun v σ5 F5 H5 O5 tr5 er5 x5 sl fr => k v σ5 F5 H5 O5 (trA.trans tr5) er5 (fx'.trans x5) sl fr
end

/-! ### what is walked -/
section
variable {S : Sc} {e tg : Expr} {f : EF} {pos p : Pos}
theorem PI.or {X : Cx} {w1 w2 : TI} (h1 : PI X tg e w1) (h2 : PI X tg e w2) : PI X tg e (fun σ H R => w1 σ H R ∨ w2 σ H R) :=
  ⟨fun pins s σ H R I h => h.elim (h1.run pins s σ H R I) (h2.run pins s σ H R I)⟩
def chars (x : Str) : List D := x.cps.toList.map fun c => .str ⟨#[c]⟩
/-- a list, a tuple, a text -/
def iAny (f : EF) : AF := bnd (eD f) fun d ρ => match d with
  | .lst ds => some (ds, ρ)
  | .tup ds => some (ds, ρ)
  | .str x => some (chars x, ρ)
  | .scr ns => some (ns.map D.int, ρ)
  | _ => none
theorem rpL_ints {K : PySem.W.Frag} {F : Hp} : ∀ ns : List Int, RpL K F (ns.map V.int) (ns.map D.int)
  | [] => .nil
  | n :: ns => .cons (.int n) (rpL_ints ns)
theorem walkD_list {K : PySem.W.Frag} {F : Hp} {a : Addr} {vs : List V} {ds : List D} (h : SqL K F a vs) (r : RpL K F vs ds) : WalkD K F (Itl K a) ds where
  go := fun i H e hi => ⟨vs, vs[i]'(by rw [r.len]; exact hi), sqL_ext e h, by simp [r.len, hi]⟩
  stop := fun H e => ⟨vs, sqL_ext e h, by rw [r.len]; exact Nat.le_refl _⟩
  yld := fun i F1 H1 O1 x H2 e w hi y => by
    have y : H2 = H1 ∧ ∀ xs, SqL K H1 a xs → xs[i]? = some x := y
    obtain ⟨d, h1, h2⟩ := (r.ext e).get (y.2 vs (sqL_ext (e.trans w.ex) h))
    exact ⟨d, h1, .inl ⟨y.1, h2⟩⟩
theorem walkD_tup {K : PySem.W.Frag} {F : Hp} {a : Addr} {vs : List V} {ds : List D} (h : SqT K F a vs) (r : RpL K F vs ds) : WalkD K F (Itt K a) ds where
  go := fun i H e hi => ⟨vs, vs[i]'(by rw [r.len]; exact hi), sqT_ext e h, by simp [r.len, hi]⟩
  stop := fun H e => ⟨vs, sqT_ext e h, by rw [r.len]; exact Nat.le_refl _⟩
  yld := fun i F1 H1 O1 x H2 e w hi y => by
    have y : H2 = H1 ∧ ∀ xs, SqT K H1 a xs → xs[i]? = some x := y
    obtain ⟨d, h1, h2⟩ := (r.ext e).get (y.2 vs (sqT_ext (e.trans w.ex) h))
    exact ⟨d, h1, .inl ⟨y.1, h2⟩⟩
theorem walkD_str {K : PySem.W.Frag} {F : Hp} {x : Str} : WalkD K F (Its x) (chars x) where
  go := fun i H e hi => by
    show i < x.cps.size
    simpa [chars] using hi
  stop := fun H e => by simp [chars, Its]
  yld := fun i F1 H1 O1 v H2 e w hi y => by
    obtain ⟨rfl, c, hc, rfl⟩ := y
    refine ⟨.str ⟨#[c]⟩, ?_, .inl ⟨rfl, .str _⟩⟩
    unfold chars
    rw [List.getElem?_map, Array.getElem?_toList, hc]
    rfl
theorem iok_any {K : PySem.W.Frag} {t : TE} (o : EOK K t f) : IOK K (fun σ H R => iList K t σ H R ∨ iTup K t σ H R ∨ iStr t σ H R) (iAny f) := by
  intro σ F H O ρ ds ρ' R er hf k
  obtain ⟨d, ρ1, h1, h2⟩ := bnd_some hf
  split at h2
  · cases h2
    refine .inl (o.fz σ F H O ρ _ _ _ er h1 fun v F1 H1 O1 tr1 er1 r1 => ?_)
    obtain ⟨a, vs, rfl, hq, rl⟩ := r1.lst_inv
    exact ⟨a, rfl, ⟨vs, sqL_ext er1.sw.ex (SqL.of hq)⟩, k _ F1 H1 O1 tr1 er1 (walkD_list (SqL.of hq) rl)⟩
  · cases h2
    refine .inr (.inl (o.fz σ F H O ρ _ _ _ er h1 fun v F1 H1 O1 tr1 er1 r1 => ?_))
    obtain ⟨a, vs, rfl, hq, rl⟩ := r1.tup_inv
    exact ⟨a, rfl, ⟨vs, sqT_ext er1.sw.ex hq⟩, k _ F1 H1 O1 tr1 er1 (walkD_tup hq rl)⟩
  · cases h2
    refine .inr (.inr (o.fz σ F H O ρ _ _ _ er h1 fun v F1 H1 O1 tr1 er1 r1 => ?_))
    obtain rfl := r1.str_inv
    exact ⟨_, rfl, k _ F1 H1 O1 tr1 er1 walkD_str⟩
  · cases h2
    refine .inl (o.fz σ F H O ρ _ _ _ er h1 fun v F1 H1 O1 tr1 er1 r1 => ?_)
    obtain ⟨a, rfl, hq⟩ := r1.scr_inv
    exact ⟨a, rfl, ⟨_, sqL_ext er1.sw.ex hq⟩, k _ F1 H1 O1 tr1 er1 (walkD_list hq (rpL_ints _))⟩
  · cases h2
theorem di_any (h : DE S e f) : DI S tg e (iAny f) := by
  obtain ⟨t, p, o⟩ := h
  exact ⟨_, fun X hX => by
    have := PI.or (tg := tg) (pi_list (p X hX)) (PI.or (pi_tup (p X hX)) (pi_str (p X hX)))
    rw [hX.K] at this
    exact this, iok_any o⟩
/-- an own list or what else stands in a slot, walked as it is (it is frozen) -/
def rangeD (lo : Int) (n : Nat) : List D := (List.range n).map fun i => .int (lo + (i : Nat))
theorem walkD_range {K : PySem.W.Frag} {F : Hp} {lo : Int} {n : Nat} : WalkD K F (Itr lo n) (rangeD lo n) where
  go := fun i H e hi => by
    show i < n
    simpa [rangeD] using hi
  stop := fun H e => by simp [rangeD, Itr]
  yld := fun i F1 H1 O1 v H2 e w hi y => by
    obtain ⟨rfl, rfl⟩ := y
    have hi : i < n := by simpa [rangeD] using hi
    exact ⟨.int (lo + (i : Nat)), by simp [rangeD, hi], .inl ⟨rfl, .int _⟩⟩
def iR1 (r : AF) : AF := bnd r fun ds ρ => match ds with
  | [.int j] => if -(2 ^ 62) ≤ j ∧ j < 2 ^ 62 then some (rangeD 0 j.toNat, ρ) else none
  | _ => none
def iR2 (r : AF) : AF := bnd r fun ds ρ => match ds with
  | [.int i, .int j] => if -(2 ^ 62) ≤ i ∧ i < 2 ^ 62 ∧ -(2 ^ 62) ≤ j ∧ j < 2 ^ 62 then some (rangeD i (j - i).toNat, ρ) else none
  | _ => none
theorem di_range1 {a : Expr} {r : AF} (hg : S.sc.names.lookup ("range" : Str) = some .globalImplicit) (hm : S.G.mg "range" = none) (ha : DA S [a] r) (hs : ∀ X, Stc S X → starEach [a] X.env = [(false, eval a X.env)] := by intros; rfl) : DI S tg (.Call (.Name "range" p) [a] [] pos) (iR1 r) := by
  obtain ⟨t, pt, o⟩ := ha
  refine ⟨iRng1 t, fun X hX => pi_range1 (by unfold Gl Env.kindOf; rw [hX.sc]; exact hg) (by rw [hX.mg]; exact hm) (pt X hX) (hs X hX), ?_⟩
  intro σ F H O ρ ds ρ' R er hf k
  obtain ⟨d, ρ1, h1, h2⟩ := bnd_some hf
  refine o σ F H O ρ d ρ1 _ er h1 fun vs F1 H1 O1 tr1 er1 r1 => ?_
  split at h2
  · rename_i j
    split at h2
    · rename_i hj
      cases h2
      cases r1 with
      | cons r0 r1 =>
        cases r1
        obtain rfl := r0.int_inv
        exact ⟨j, rfl, hj.1, hj.2, k _ F1 H1 O1 tr1 er1 walkD_range⟩
    · cases h2
  · cases h2
theorem di_range2 {a b : Expr} {r : AF} (hg : S.sc.names.lookup ("range" : Str) = some .globalImplicit) (hm : S.G.mg "range" = none) (ha : DA S [a, b] r) (hs : ∀ X, Stc S X → starEach [a, b] X.env = [(false, eval a X.env), (false, eval b X.env)] := by intros; rfl)
    (hs2 : ∀ X, Stc S X → starEach [b] X.env = [(false, eval b X.env)] := by intros; rfl) : DI S tg (.Call (.Name "range" p) [a, b] [] pos) (iR2 r) := by
  obtain ⟨t, pt, o⟩ := ha
  refine ⟨iRng2 t, fun X hX => pi_range2 (by unfold Gl Env.kindOf; rw [hX.sc]; exact hg) (by rw [hX.mg]; exact hm) (pt X hX) (hs X hX) (hs2 X hX), ?_⟩
  intro σ F H O ρ ds ρ' R er hf k
  obtain ⟨d, ρ1, h1, h2⟩ := bnd_some hf
  refine o σ F H O ρ d ρ1 _ er h1 fun vs F1 H1 O1 tr1 er1 r1 => ?_
  split at h2
  · rename_i i j
    split at h2
    · rename_i hj
      cases h2
      cases r1 with
      | cons r0 r1 =>
        cases r1 with
        | cons r2 r1 =>
          cases r1
          obtain rfl := r0.int_inv
          obtain rfl := r2.int_inv
          exact ⟨i, j, rfl, hj, k _ F1 H1 O1 tr1 er1 walkD_range⟩
    · cases h2
  · cases h2
/-- enumerate of a list -/
def enumD (ds : List D) : List D := (List.range ds.length).map fun i => .tup [.int (i : Nat), ds.getD i .non]
def iEn (r : AF) : AF := bnd r fun ds ρ => match ds with
  | [.lst xs] => some (enumD xs, ρ)
  | _ => none
theorem enumD_at {ds : List D} {i : Nat} {d : D} (h : ds[i]? = some d) : (enumD ds)[i]? = some (.tup [.int (i : Nat), d]) := by
  obtain ⟨hl, _⟩ := List.getElem?_eq_some_iff.mp h
  simp [enumD, hl, List.getD, h]
  rw [List.getElem?_eq_getElem hl] at h
  exact Option.some.inj h
theorem walkD_enum {K : PySem.W.Frag} {F : Hp} {a : Addr} {vs : List V} {ds : List D} (h : SqL K F a vs) (r : RpL K F vs ds) : WalkD K F (Ite K a) (enumD ds) where
  go := fun i H e hi => by
    have hi : i < ds.length := by simpa [enumD] using hi
    exact ⟨vs, vs[i]'(by rw [r.len]; exact hi), sqL_ext e h, by simp [r.len, hi]⟩
  stop := fun H e => ⟨vs, sqL_ext e h, by simp [enumD, r.len]⟩
  yld := fun i F1 H1 O1 x H2 e w hi y => by
    obtain ⟨T, u, rfl, hT, rfl, hu⟩ := y
    obtain ⟨d, h1, h2⟩ := (r.ext e).get (hu vs (sqL_ext (e.trans w.ex) h))
    refine ⟨_, enumD_at h1, .inr ⟨T, _, hT, rfl, .tup (SqT.of upd_same) (.cons (.int _) (.cons (h2.ext (same_new (same_none w.ex hT))) .nil))⟩⟩
theorem di_enum {a : Expr} {r : AF} {elts : List Expr} {kk : Nat} {tpos : Pos} (hg : S.sc.names.lookup ("enumerate" : Str) = some .globalImplicit) (hm : S.G.mg "enumerate" = none) (ha : DA S [a] r) (hs : ∀ X, Stc S X → starEach [a] X.env = [(false, eval a X.env)] := by intros; rfl) :
    DI S (.Tuple elts kk tpos) (.Call (.Name "enumerate" p) [a] [] pos) (iEn r) := by
  obtain ⟨t, pt, o⟩ := ha
  refine ⟨iEnum S.G.K t, fun X hX => by
    have := pi_enum (X := X) (pos := pos) (p := p) (tpos := tpos) (elts := elts) (kk := kk) (by unfold Gl Env.kindOf; rw [hX.sc]; exact hg) (by rw [hX.mg]; exact hm) (pt X hX) (hs X hX)
    rw [hX.K] at this
    exact this, ?_⟩
  intro σ F H O ρ ds ρ' R er hf k
  obtain ⟨d, ρ1, h1, h2⟩ := bnd_some hf
  refine o σ F H O ρ d ρ1 _ er h1 fun vs F1 H1 O1 tr1 er1 r1 => ?_
  split at h2
  · cases h2
    cases r1 with
    | cons r0 r1 =>
      cases r1
      obtain ⟨a, vs, rfl, hq, rl⟩ := r0.lst_inv
      exact ⟨a, vs, rfl, sqL_ext er1.sw.ex (SqL.of hq), k _ F1 H1 O1 tr1 er1 (walkD_enum (SqL.of hq) rl)⟩
  · cases h2
/-- zip of two lists, of two tuples -/
def zipD (xs ys : List D) : List D := List.zipWith (fun x y => .tup [x, y]) xs ys
def iZp (r : AF) : AF := bnd r fun ds ρ => match ds with
  | [.lst xs, .lst ys] => some (zipD xs ys, ρ)
  | [.tup xs, .tup ys] => some (zipD xs ys, ρ)
  | _ => none
theorem zipD_at {xs ys : List D} {i : Nat} {x y : D} (h : xs[i]? = some x) (h' : ys[i]? = some y) : (zipD xs ys)[i]? = some (.tup [x, y]) := by
  simp [zipD, List.getElem?_zipWith, h, h']
theorem walkD_zip {K : PySem.W.Frag} {F : Hp} {a b : Addr} {vs us : List V} {ds es : List D} (h : SqL K F a vs) (r : RpL K F vs ds) (h' : SqL K F b us) (r' : RpL K F us es) : WalkD K F (Itz K a b) (zipD ds es) where
  go := fun i H e hi => by
    have hi : i < ds.length ∧ i < es.length := by simpa [zipD, Nat.lt_min] using hi
    exact ⟨vs, us, vs[i]'(by rw [r.len]; exact hi.1), us[i]'(by rw [r'.len]; exact hi.2), sqL_ext e h, sqL_ext e h', by simp [r.len, hi.1], by simp [r'.len, hi.2]⟩
  stop := fun H e => ⟨vs, us, sqL_ext e h, sqL_ext e h', by simp only [zipD, List.length_zipWith, r.len, r'.len]; omega⟩
  yld := fun i F1 H1 O1 x H2 e w hi y => by
    obtain ⟨T, u, u', rfl, hT, rfl, hu, hu'⟩ := y
    obtain ⟨d, h1, h2⟩ := (r.ext e).get (hu vs (sqL_ext (e.trans w.ex) h))
    obtain ⟨d', h1', h2'⟩ := (r'.ext e).get (hu' us (sqL_ext (e.trans w.ex) h'))
    have ex := same_new (o := .tup [u, u']) (same_none w.ex hT)
    exact ⟨_, zipD_at h1 h1', .inr ⟨T, _, hT, rfl, .tup (SqT.of upd_same) (.cons (h2.ext ex) (.cons (h2'.ext ex) .nil))⟩⟩
theorem walkD_zipT {K : PySem.W.Frag} {F : Hp} {a b : Addr} {vs us : List V} {ds es : List D} (h : SqT K F a vs) (r : RpL K F vs ds) (h' : SqT K F b us) (r' : RpL K F us es) : WalkD K F (RZ.ItzT K a b) (zipD ds es) where
  go := fun i H e hi => by
    have hi : i < ds.length ∧ i < es.length := by simpa [zipD, Nat.lt_min] using hi
    exact ⟨vs, us, vs[i]'(by rw [r.len]; exact hi.1), us[i]'(by rw [r'.len]; exact hi.2), sqT_ext e h, sqT_ext e h', by simp [r.len, hi.1], by simp [r'.len, hi.2]⟩
  stop := fun H e => ⟨vs, us, sqT_ext e h, sqT_ext e h', by simp only [zipD, List.length_zipWith, r.len, r'.len]; omega⟩
  yld := fun i F1 H1 O1 x H2 e w hi y => by
    obtain ⟨T, u, u', rfl, hT, rfl, hu, hu'⟩ := y
    obtain ⟨d, h1, h2⟩ := (r.ext e).get (hu vs (sqT_ext (e.trans w.ex) h))
    obtain ⟨d', h1', h2'⟩ := (r'.ext e).get (hu' us (sqT_ext (e.trans w.ex) h'))
    have ex := same_new (o := .tup [u, u']) (same_none w.ex hT)
    exact ⟨_, zipD_at h1 h1', .inr ⟨T, _, hT, rfl, .tup (SqT.of upd_same) (.cons (h2.ext ex) (.cons (h2'.ext ex) .nil))⟩⟩
theorem di_zip {a b : Expr} {r : AF} {elts : List Expr} {kk : Nat} {tpos : Pos} (hg : S.sc.names.lookup ("zip" : Str) = some .globalImplicit) (hm : S.G.mg "zip" = none) (ha : DA S [a, b] r) (hs : ∀ X, Stc S X → starEach [a, b] X.env = (false, eval a X.env) :: starEach [b] X.env := by intros; rfl)
    (hpl : ∀ X, Stc S X → (backTo pos (starEach [b] X.env)).any (·.1) = false := by intros; rfl) : DI S (.Tuple elts kk tpos) (.Call (.Name "zip" p) [a, b] [] pos) (iZp r) := by
  obtain ⟨t, pt, o⟩ := ha
  refine ⟨RZ.iZipA S.G.K t, fun X hX => by
    have := RZ.pi_zipA (X := X) (pos := pos) (p := p) (tpos := tpos) (elts := elts) (kk := kk) (by unfold Gl Env.kindOf; rw [hX.sc]; exact hg) (by rw [hX.mg]; exact hm) (pt X hX) (hs X hX) (hpl X hX)
    rw [hX.K] at this
    exact this, ?_⟩
  intro σ F H O ρ ds ρ' R er hf k
  obtain ⟨d, ρ1, h1, h2⟩ := bnd_some hf
  refine o σ F H O ρ d ρ1 _ er h1 fun vs F1 H1 O1 tr1 er1 r1 => ?_
  split at h2
  · cases h2
    cases r1 with
    | cons r0 r1 =>
      cases r1 with
      | cons r2 r1 =>
        cases r1
        obtain ⟨a, vs, rfl, hq, rl⟩ := r0.lst_inv
        obtain ⟨b, us, rfl, hq', rl'⟩ := r2.lst_inv
        exact ⟨a, b, vs, us, rfl, .inl ⟨sqL_ext er1.sw.ex (SqL.of hq), sqL_ext er1.sw.ex (SqL.of hq'), k _ F1 H1 O1 tr1 er1 (walkD_zip (SqL.of hq) rl (SqL.of hq') rl')⟩⟩
  · cases h2
    cases r1 with
    | cons r0 r1 =>
      cases r1 with
      | cons r2 r1 =>
        cases r1
        obtain ⟨a, vs, rfl, hq, rl⟩ := r0.tup_inv
        obtain ⟨b, us, rfl, hq', rl'⟩ := r2.tup_inv
        exact ⟨a, b, vs, us, rfl, .inr ⟨sqT_ext er1.sw.ex hq, sqT_ext er1.sw.ex hq', k _ F1 H1 O1 tr1 er1 (walkD_zipT hq rl hq' rl')⟩⟩
  · cases h2
end
end DL

set_option Elab.async false
set_option linter.all false
set_option maxRecDepth 100000
set_option maxHeartbeats 4000000
/-! DLCall: comprehensions, the text's own defs. -/
namespace DL
open PySem PySem.Spec PyProof.Rows L2

/-! ### wiping -/
theorem wipe_in {σ : L2.St} {i : Nat} : ∀ {vs : List Nat}, i ∈ vs → (wipe σ vs)[i]? = if i < σ.length then some none else none
  | [], h => by cases h
  | v :: vs, h => by
    unfold wipe
    by_cases hv : v = i
    · subst hv
      by_cases hl : v < σ.length
      · rw [if_pos hl, List.getElem?_set_self (by rw [wipe_length]; exact hl)]
      · rw [if_neg hl, List.getElem?_eq_none (by rw [List.length_set, wipe_length]; omega)]
    · rw [List.getElem?_set_ne hv]
      rcases List.mem_cons.mp h with e | e
      · exact absurd e.symm hv
      · exact wipe_in e
theorem wipe_set {σ : L2.St} {i : Nat} {x : Option V} {vs : List Nat} (h : i ∈ vs) : wipe (σ.set i x) vs = wipe σ vs := by
  apply List.ext_getElem?
  intro j
  by_cases hj : j ∈ vs
  · rw [wipe_in hj, wipe_in hj, List.length_set]
  · rw [wipe_out hj, wipe_out hj, List.getElem?_set_ne (fun e => hj (by rw [← e]; exact h))]
theorem wipeE_in {ρ : En} {i : Nat} : ∀ {vs : List Nat}, i ∈ vs → (wipeE ρ vs)[i]? = if i < ρ.length then some none else none
  | [], h => by cases h
  | v :: vs, h => by
    have hlen : ∀ ws : List Nat, (wipeE ρ ws).length = ρ.length := fun ws => by
      induction ws with
      | nil => rfl
      | cons w ws ih => unfold wipeE; rw [List.length_set, ih]
    unfold wipeE
    by_cases hv : v = i
    · subst hv
      by_cases hl : v < ρ.length
      · rw [if_pos hl, List.getElem?_set_self (by rw [hlen]; exact hl)]
      · rw [if_neg hl, List.getElem?_eq_none (by rw [List.length_set, hlen]; omega)]
    · rw [List.getElem?_set_ne hv]
      rcases List.mem_cons.mp h with e | e
      · exact absurd e.symm hv
      · exact wipeE_in e
/-- behind a comprehension: its own names' slots as they were (where they held data) -/
def restE (ρ ρ' : En) : List Nat → En
  | [] => ρ'
  | v :: vs => (restE ρ ρ' vs).set v (match ρ[v]? with
    | some (some (.im d)) => some (.im d)
    | _ => none)
theorem restE_len {ρ ρ' : En} : ∀ {vs : List Nat}, (restE ρ ρ' vs).length = ρ'.length
  | [] => rfl
  | v :: vs => by unfold restE; rw [List.length_set, restE_len]
theorem restE_in {ρ ρ' : En} {i : Nat} {s : Sl} : ∀ {vs : List Nat}, i ∈ vs → (restE ρ ρ' vs)[i]? = some (some s) → ∃ d, s = .im d ∧ ρ[i]? = some (some (.im d))
  | [], h, _ => by cases h
  | v :: vs, h, q => by
    unfold restE at q
    by_cases hv : v = i
    · subst hv
      have hl : v < (restE ρ ρ' vs).length := by obtain ⟨z, _⟩ := List.getElem?_eq_some_iff.mp q; simpa using z
      rw [List.getElem?_set_self hl] at q
      have q := Option.some.inj q
      split at q
      · rename_i d hd
        exact ⟨d, (Option.some.inj q).symm, hd⟩
      · cases q
    · rw [List.getElem?_set_ne hv] at q
      rcases List.mem_cons.mp h with e | e
      · exact absurd e.symm hv
      · exact restE_in e q
theorem restE_out {ρ ρ' : En} {i : Nat} : ∀ {vs : List Nat}, i ∉ vs → (restE ρ ρ' vs)[i]? = ρ'[i]?
  | [], _ => rfl
  | v :: vs, h => by
    unfold restE
    rw [List.getElem?_set_ne (fun e => h (by rw [e]; exact List.mem_cons_self))]
    exact restE_out fun z => h (List.mem_cons_of_mem _ z)
theorem ER.rest {K : PySem.W.Frag} {F H F' H' : Hp} {O O' : Own} {σ : L2.St} {ρ ρ' : En} {vs : List Nat} (a : ER K F H O σ ρ) (b : ER K F' H' O' (L2.wipe σ vs) ρ') (e : Same F F') : ER K F' H' O' σ (restE ρ ρ' vs) := by
  refine ⟨b.sw, by rw [restE_len, ← b.len, wipe_length], fun i s q => ?_, fun i j s t v hij hi hj hs ht hv hu => ?_⟩
  · by_cases hi : i ∈ vs
    · obtain ⟨d, rfl, h1⟩ := restE_in hi q
      obtain ⟨v, h2, h3⟩ := a.sl i _ h1
      exact ⟨v, h2, Rp.ext e h3⟩
    · rw [restE_out hi] at q
      obtain ⟨v, h2, h3⟩ := b.sl i s q
      rw [wipe_out hi] at h2
      exact ⟨v, h2, h3⟩
  · have out : ∀ (k : Nat) (u : Sl), (restE ρ ρ' vs)[k]? = some (some u) → u.own = true → k ∉ vs := fun k u q hu hk => by
      obtain ⟨d, rfl, _⟩ := restE_in hk q
      cases hu
    have h1 := out i s hi hs
    have h2 := out j t hj ht
    rw [restE_out h1] at hi
    rw [restE_out h2] at hj
    exact b.dis i j s t v hij hi hj hs ht (by rw [wipe_out h1]; exact hv) (by rw [wipe_out h2]; exact hu)
/-- an own address more that no slot holds -/
theorem Tr.more {F H F' H' : Hp} {O O' : Own} {p : Addr} (t : Tr F H O F' H' O') : Tr F H (OA O p) F' H' (OA O' p) where
  ex := t.ex
  keep := fun a o e n => t.keep a o e fun z => n (.inl z)
  own := fun a q => by
    rcases q with z | z
    · exact (t.own a z).imp .inl id
    · exact .inl (.inr z)
  frz := fun a q => by
    rcases t.frz a q with z | z | z
    · exact .inl z
    · exact .inr (.inl (.inl z))
    · exact .inr (.inr z)
  live := t.live
/-- a tracked address beside all slots is written -/
theorem ER.side {K : PySem.W.Frag} {F H : Hp} {O : Own} {σ : L2.St} {ρ : En} {p : Addr} {o : HO} (h : ER K F H O σ ρ) (nf : F p = none) (no : ¬ O p) : ER K F (upd H p o) O σ ρ := by
  have w : SW F (upd H p o) O := ⟨fun a u e => by
    have : a ≠ p := fun z => by rw [z, nf] at e; cases e
    rw [upd_ne this]
    exact h.sw.ex a u e, h.sw.off, fun a q => by
    have : a ≠ p := fun z => no (z ▸ q)
    rw [upd_ne this]
    exact h.sw.live a q⟩
  exact h.later w (Same.refl _) fun a u q e => ⟨by
    have : a ≠ p := fun z => no (z ▸ q)
    rw [upd_ne this]
    exact e, q⟩
theorem ER.addO {K : PySem.W.Frag} {F H : Hp} {O : Own} {σ : L2.St} {ρ : En} {p : Addr} (h : ER K F H O σ ρ) (nf : F p = none) (hp : H p ≠ none) : ER K F H (OA O p) σ ρ :=
  h.later ⟨h.sw.ex, fun a q => by
    rcases q with z | z
    · exact h.sw.off a z
    · rw [z]; exact nf, fun a q => by
    rcases q with z | z
    · exact h.sw.live a z
    · rw [z]; exact hp⟩ (Same.refl _) fun a u q e => ⟨e, .inl q⟩

/-! ### the block of a comprehension -/
theorem stc_blk {S : Sc} {X : Cx} (h : Stc S X) (s : Shared) (H : Hp) (scope : Scope) (C : Addr) (cl : List (Str × Addr)) (fp : List Addr) : Stc (S.blk scope) (X.blk s H scope (compEnvC scope cl C X.env) fp) where
  prog := h.prog
  w := h.w
  K := h.K
  mg := h.mg
  base := h.base
  N := h.N
  sc := by
    show relS scope X.env.scope = relS scope S.sc
    rw [h.sc]
  calm := h.calm
  xe := rfl
  room := h.room
  gd := h.gd
  fn := fun x q => q
/-- a target in a block: its slots are among vs -/
def GOKw (K : PySem.W.Frag) (g : TG) (f : D → En → Option En) (vs : List Nat) : Prop := ∀ (v : V) (d : D) (σ : L2.St) (F H : Hp) (O : Own) (ρ ρ' : En) (Q : L2.St → Hp → Prop), ER K F H O σ ρ → Rp K F v d → f d ρ = some ρ' →
  (∀ σ' F' H' O', Tr F H O F' H' O' → ER K F' H' O' σ' ρ' → wipe σ' vs = wipe σ vs → Q σ' H') → g v σ H Q
def GsOKw (K : PySem.W.Frag) (g : TGs) (f : List D → En → Option En) (vs : List Nat) : Prop := ∀ (us : List V) (ds : List D) (σ : L2.St) (F H : Hp) (O : Own) (ρ ρ' : En) (Q : L2.St → Hp → Prop), ER K F H O σ ρ → RpL K F us ds → f ds ρ = some ρ' →
  (∀ σ' F' H' O', Tr F H O F' H' O' → ER K F' H' O' σ' ρ' → wipe σ' vs = wipe σ vs → Q σ' H') → g us σ H Q
def DGw (S : Sc) (e : Expr) (f : D → En → Option En) (vs : List Nat) : Prop := ∃ t : TG, (∀ X, Stc S X → PG X e t) ∧ GOKw S.G.K t f vs
def DGsw (S : Sc) (es : List Expr) (f : List D → En → Option En) (vs : List Nat) : Prop := ∃ t : TGs, (∀ X, Stc S X → PGs X es t) ∧ GsOKw S.G.K t f vs
section
variable {S : Sc} {vs : List Nat} {e : Expr} {pos : Pos}
theorem dgw_name (i : Nat) {x : Str} {p : Pos} (hN : S.N[i]? = some x := by rfl) (hv : StL S x := by first | exact Or.inl rfl | exact Or.inr ⟨rfl, rfl⟩) (hi : i ∈ vs := by decide) : DGw S (.Name x p) (gN i) vs :=
  ⟨gName i, fun X h => pg_name (by rw [h.N]; exact S.nd) (by rw [h.N]; exact hN) (by unfold L2.Loc; rw [h.sc]; exact hv.imp id (·.1)) (by
    rcases hv with z | z
    · exact .inr (by rw [h.sc]; exact z)
    · exact .inl (h.fn x z.2)), by
    intro v d σ F H O ρ ρ' Q er r hf k
    cases hf
    exact k _ F H O Tr.refl (er.setI r) (wipe_set hi)⟩
theorem dgsw_nil : DGsw S [] gsNil vs := ⟨gNil, fun _ _ => pgs_nil, by
  intro vs ds σ F H O ρ ρ' Q er r hf k
  cases r with
  | nil => cases hf; exact ⟨rfl, k σ F H O Tr.refl er rfl⟩
  | cons _ _ => cases hf⟩
theorem dgsw_cons {es : List Expr} {f : D → En → Option En} {g : List D → En → Option En} (h : DGw S e f vs) (hr : DGsw S es g vs) (hs : ∀ X, Stc S X → (assignEach (e :: es) X.env).map (·.2) = assign e X.env :: (assignEach es X.env).map (·.2) := by intros; rfl) : DGsw S (e :: es) (gsCons f g) vs := by
  obtain ⟨t, p, o⟩ := h
  obtain ⟨u, q, o'⟩ := hr
  refine ⟨gCons t u, fun X hX => pgs_cons (p X hX) (q X hX) (hs X hX), ?_⟩
  intro us ds σ F H O ρ ρ' Q er r hf k
  cases r with
  | nil => cases hf
  | cons r rr =>
    rename_i v vr d dr
    have hf : (f d ρ).bind (g dr) = some ρ' := hf
    cases e1 : f d ρ with
    | none => rw [e1] at hf; cases hf
    | some ρ1 =>
      rw [e1] at hf
      exact ⟨v, vr, rfl, o v d σ F H O ρ ρ1 _ er r e1 fun σ1 F1 H1 O1 tr1 er1 x1 => o' vr dr σ1 F1 H1 O1 ρ1 ρ' _ er1 (rr.ext tr1.ex) hf fun σ2 F2 H2 O2 tr2 er2 x2 => k σ2 F2 H2 O2 (tr1.trans tr2) er2 (x2.trans x1)⟩
theorem dgw_tup {es : List Expr} {kk n : Nat} {f : List D → En → Option En} (h : DGsw S es f vs) (hn : ∀ X, Stc S X → (assignEach es X.env).length = n := by intros; rfl) (hst : ∀ X, Stc S X → (assignEach es X.env).findIdx? (·.1) = none := by intros; rfl) : DGw S (.Tuple es kk pos) (gT n f) vs := by
  obtain ⟨t, p, o⟩ := h
  refine ⟨gTup S.G.K n t, fun X hX => by have := pg_tup (k := kk) (pos := pos) hX.calm (p X hX) (hn X hX) (hst X hX); rw [hX.K] at this; exact this, ?_⟩
  intro v d σ F H O ρ ρ' Q er r hf k
  cases d with
  | tup ds =>
    obtain ⟨a, vs, rfl, hq, rl⟩ := r.tup_inv
    have hf : (if ds.length = n then f ds ρ else none) = some ρ' := hf
    split at hf
    · rename_i hl
      exact ⟨a, vs, rfl, sqT_ext er.sw.ex hq, by rw [rl.len]; exact hl, o vs ds σ F H O ρ ρ' Q er rl hf k⟩
    · cases hf
  | _ => cases hf
def DTs (S : Sc) (es : List Expr) (f : TF) : Prop := ∃ t : TT, (∀ X, Stc S X → PTs X es t) ∧ TOK S.G.K t f
def tTrue : TF := fun ρ => some (true, ρ)
theorem dts_nil : DTs S [] tTrue := ⟨tYes, fun _ _ => pts_nil, by
  intro σ F H O ρ b ρ' Q er hf k
  cases hf
  exact k F H O Tr.refl er⟩
theorem dts_one {c : Expr} {f : TF} (h : DT S c f) : DTs S [c] f := by
  obtain ⟨t, p, o⟩ := h
  exact ⟨t, fun X hX => pts_one (p X hX), o⟩
end

/-! ### list comprehensions -/
def lcF (gb : D → En → Option En) (t : TF) (fe : EF) (vs : List Nat) : List D → En → Option (List D × En)
  | [], ρ => some ([], ρ)
  | d :: ds, ρ => match gb d ρ with
    | none => none
    | some ρ1 => match t ρ1 with
      | none => none
      | some (false, ρ2) => lcF gb t fe vs ds (wipeE ρ2 vs)
      | some (true, ρ2) => match eD fe ρ2 with
        | none => none
        | some (y, ρ3) => match lcF gb t fe vs ds (wipeE ρ3 vs) with
          | none => none
          | some (ys, ρ4) => some (y :: ys, ρ4)
theorem lcF_len {gb : D → En → Option En} {t : TF} {fe : EF} {vs : List Nat} : ∀ {ds : List D} {ρ : En} {ys : List D} {ρ' : En}, lcF gb t fe vs ds ρ = some (ys, ρ') → ys.length ≤ ds.length
  | [], ρ, ys, ρ', h => by cases h; exact Nat.le_refl _
  | d :: ds, ρ, ys, ρ', h => by
    unfold lcF at h
    split at h
    · cases h
    · split at h
      · cases h
      · exact Nat.le_succ_of_le (lcF_len h)
      · split at h
        · cases h
        · split at h
          · cases h
          · rename_i e
            cases h
            exact Nat.succ_le_succ (lcF_len e)
def eLc (fi : AF) (gb : D → En → Option En) (t : TF) (fe : EF) (vs : List Nat) : EF := bnd fi fun ds ρ => if ds.length ≤ big then match lcF gb t fe vs ds (wipeE ρ vs) with
  | none => none
  | some (ys, ρ') => some (.ol ys, restE ρ ρ' vs) else none
theorem eok_lc {K : PySem.W.Frag} {wi : TI} {g : TG} {tt : TT} {te : TE} {vs : List Nat} {fi : AF} {gb : D → En → Option En} {t : TF} {fe : EF} (oi : IOK K wi fi) (og : GOKw K g gb vs) (ot : TOK K tt t) (oe : EOK K te fe) :
    EOK K (tLc wi g tt te vs) (eLc fi gb t fe vs) := by
  intro σ F H O ρ s ρ' Q er hf k
  obtain ⟨ds, ρ1, h1, h2⟩ := bnd_some hf
  split at h2
  rotate_left
  · cases h2
  rename_i hbig
  split at h2
  · cases h2
  rename_i ys ρe hlc
  cases h2
  refine oi σ F H O ρ ds ρ1 _ er h1 fun J F1 H1 O1 tr1 er1 wk L hL => ?_
  have fL : F1 L = none := same_none er1.sw.ex hL
  have oL : ¬ O1 L := fun z => er1.sw.live L z hL
  have base : Tr F1 H1 O1 F1 (upd H1 L (.lst [])) (OA O1 L) := Tr.newO hL
  refine ⟨fun i m H' => m = ds.length - i ∧ i ≤ ds.length ∧ ∃ F' O' ρ' acc dacc ys', Tr F1 (upd H1 L (.lst [])) (OA O1 L) F' H' (OA O' L) ∧ Same F1 F' ∧ ER K F' H' O' (wipe σ vs) ρ' ∧ F' L = none ∧ ¬ O' L ∧
    H' L = some (.lst acc) ∧ RpL K F' acc dacc ∧ dacc.length ≤ i ∧ lcF gb t fe vs (ds.drop i) ρ' = some (ys', ρe) ∧ ys = dacc ++ ys',
    ⟨_, rfl, Nat.zero_le _, F1, O1, wipeE ρ1 vs, [], [], ys, Tr.refl, Same.refl _, ER.wipe (er1.side fL oL), fL, oL, upd_same, .nil, Nat.zero_le _, hlc, rfl⟩, ?_⟩
  rintro i m H' ⟨rfl, hi, F', O', ρ', acc, dacc, ys', tr', sa, er', fL', oL', hL', racc, hacc, hq, hys⟩
  by_cases hlt : i < ds.length
  · refine .inr ⟨wk.go i H' (sa.trans er'.sw.ex) hlt, ?_⟩
    have hdr : ds.drop i = ds[i] :: ds.drop (i + 1) := (List.getElem_cons_drop hlt).symm
    rw [hdr] at hq
    unfold lcF at hq
    refine ⟨fun H2 => i + 1 ≤ ds.length ∧ ∃ F' O' ρ' acc dacc ys', Tr F1 (upd H1 L (.lst [])) (OA O1 L) F' H2 (OA O' L) ∧ Same F1 F' ∧ ER K F' H2 O' (wipe σ vs) ρ' ∧ F' L = none ∧ ¬ O' L ∧
      H2 L = some (.lst acc) ∧ RpL K F' acc dacc ∧ dacc.length ≤ i + 1 ∧ lcF gb t fe vs (ds.drop (i + 1)) ρ' = some (ys', ρe) ∧ ys = dacc ++ ys', fun H2 ⟨z, rest⟩ => ⟨_, by omega, rfl, z, rest⟩, fun x H2 hy => ?_⟩
    obtain ⟨d, hd, hy⟩ := wk.yld i F' H' O' x H2 sa er'.sw hlt hy
    have hdi : ds[i] = d := by
      rw [List.getElem?_eq_getElem hlt] at hd
      exact Option.some.inj hd
    rw [hdi] at hq
    obtain ⟨F3, tr3, er3, r3⟩ : ∃ F3, Tr F' H' O' F3 H2 O' ∧ ER K F3 H2 O' (wipe σ vs) ρ' ∧ Rp K F3 x d := by
      rcases hy with ⟨rfl, r⟩ | ⟨p, o, hp, rfl, r⟩
      · exact ⟨F', Tr.refl, er', r⟩
      · exact ⟨_, Tr.newF er'.sw hp, er'.newF hp, r⟩
    cases e1 : gb d ρ' with
    | none => rw [e1] at hq; cases hq
    | some ρ2 =>
      rw [e1] at hq
      refine og x d _ F3 H2 O' ρ' ρ2 _ er3 r3 e1 fun σ4 F4 H4 O4 tr4 er4 hw => ⟨by rw [hw]; exact (by
        apply List.ext_getElem?
        intro j
        by_cases hj : j ∈ vs
        · rw [wipe_in hj, wipe_in hj, wipe_length]
        · rw [wipe_out hj]), ?_⟩
      have hww : wipe (wipe σ vs) vs = wipe σ vs := by
        apply List.ext_getElem?
        intro j
        by_cases hj : j ∈ vs
        · rw [wipe_in hj, wipe_in hj, wipe_length]
        · rw [wipe_out hj]
      have hw4 : wipe σ4 vs = wipe σ vs := hw.trans hww
      cases e2 : t ρ2 with
      | none => simp only [e2] at hq; cases hq
      | some p =>
        obtain ⟨b, ρ3⟩ := p
        simp only [e2] at hq
        refine ot σ4 F4 H4 O4 ρ2 b ρ3 _ er4 e2 fun F5 H5 O5 tr5 er5 => ?_
        have trA := (tr3.trans tr4).trans tr5
        have keepL : ∀ {F6 H6 O6}, Tr F' H' O' F6 H6 O6 → H6 L = some (.lst acc) ∧ F6 L = none ∧ ¬ O6 L := fun {F6 H6 O6} tr => by
          refine ⟨tr.keep L _ hL' oL', ?_, fun z => ?_⟩
          · cases q : F6 L with
            | none => rfl
            | some o =>
              rcases tr.frz L (by rw [q]; simp) with z | z | z
              · exact absurd fL' z
              · exact absurd z oL'
              · rw [hL'] at z; cases z
          · rcases tr.own L z with z | z
            · exact oL' z
            · rw [hL'] at z; cases z
        cases b with
        | false =>
          rw [if_neg Bool.false_ne_true]
          obtain ⟨k1, k2, k3⟩ := keepL trA
          refine ⟨hlt, F5, O5, wipeE ρ3 vs, acc, dacc, ys', tr'.trans trA.more, sa.trans trA.ex, ?_, k2, k3, k1, racc.ext trA.ex, Nat.le_succ_of_le hacc, hq, hys⟩
          rw [← hw4]
          exact er5.wipe
        | true =>
          rw [if_pos rfl]
          cases e3 : eD fe ρ3 with
          | none => simp only [e3] at hq; cases hq
          | some p =>
            obtain ⟨y, ρ4⟩ := p
            simp only [e3] at hq
            refine oe.fz σ4 F5 H5 O5 ρ3 y ρ4 _ er5 e3 fun u F6 H6 O6 tr6 er6 r6 => ?_
            have trB := trA.trans tr6
            obtain ⟨k1, k2, k3⟩ := keepL trB
            cases e4 : lcF gb t fe vs (ds.drop (i + 1)) (wipeE ρ4 vs) with
            | none => rw [e4] at hq; cases hq
            | some p =>
              obtain ⟨ys2, ρ5⟩ := p
              rw [e4] at hq
              cases hq
              have hz : acc.length < sizeLine := by
                rw [racc.len]
                exact Nat.lt_of_le_of_lt hacc (Nat.lt_of_lt_of_le hlt (big_line hbig))
              refine ⟨acc, k1, hz, hlt, F6, O6, wipeE ρ4 vs, acc ++ [u], dacc ++ [y], ys2, (tr'.trans trB.more).trans (Tr.wr ((er6.addO k2 (by rw [k1]; simp)).sw) (.inr rfl)), sa.trans trB.ex, ?_, k2, k3, upd_same, (racc.ext trB.ex).app (.cons r6 .nil), ?_, e4, ?_⟩
              · have := er6.wipe (vs := vs)
                rw [hw4] at this
                exact this.side k2 k3
              · rw [List.length_append]
                exact Nat.succ_le_succ hacc
              · rw [hys, List.append_assoc]
                rfl
  · have e : i = ds.length := by omega
    subst e
    refine .inl ⟨wk.stop H' (sa.trans er'.sw.ex), ?_⟩
    rw [List.drop_length] at hq
    cases hq
    rw [List.append_nil] at hys
    subst hys
    have erA : ER K F' H' (OA O' L) σ (restE ρ1 ρe vs) := (er1.rest er' sa).addO fL' (by rw [hL']; simp)
    refine k (.ref L) F' H' (OA O' L) ((tr1.trans base).trans tr') erA ⟨L, acc, rfl, .inr rfl, hL', racc⟩ fun _ j u hj hu ej => ?_
    obtain ⟨v, hv, r⟩ := (er1.rest er' sa).sl j u hj
    rw [ej] at hv
    cases hv
    obtain ⟨q, e2, oq⟩ := r.own_at hu
    cases e2
    exact oL' oq
section
variable {S : Sc} {elt tg iter : Expr} {ifs : List Expr} {scope : Scope} {own : List (Str × Nat)} {pos spos : Pos} {fi : AF} {gb : D → En → Option En} {t : TF} {fe : EF}
theorem de_lc (own : List (Str × Nat)) (hi : DI S tg iter fi) (ok : blkC S.N S.sc scope own = true) (hg : DGw (S.blk scope) tg gb (own.map (·.2))) (ht : DTs (S.blk scope) ifs t) (he : DE (S.blk scope) elt fe) (hs : ∀ X, Stc S X → ∀ x, foldedSetIterable iter X.env x = pure x := by intros; rfl) :
    DE S (.ListComp elt [⟨tg, iter, ifs, 0⟩] scope pos) (eLc fi gb t fe (own.map (·.2))) := by
  obtain ⟨wi, pi, oi⟩ := hi
  obtain ⟨g, pg, og⟩ := hg
  obtain ⟨tt, pt, ot⟩ := ht
  obtain ⟨te, pe, oe⟩ := he
  exact ⟨tLc wi g tt te (own.map (·.2)), fun X hX => pe_lc hX.calm (by rw [hX.N]; exact S.nd) (pi X hX) (by rw [hX.N, hX.sc]; exact blkOk_by ok) (fun s H C cl fp => pg _ (stc_blk hX s H scope C cl fp)) (fun s H C cl fp => pt _ (stc_blk hX s H scope C cl fp))
    (fun s H C cl fp => pe _ (stc_blk hX s H scope C cl fp)) (hs X hX), eok_lc oi og ot oe⟩
/-- y = [..] on one line, y a local -/
theorem ds_setLc' (i : Nat) (own : List (Str × Nat)) {y : Str} {py : Pos} (hi : DI S tg iter fi) (ok : blkC S.N S.sc scope own = true) (hg : DGw (S.blk scope) tg gb (own.map (·.2))) (ht : DTs (S.blk scope) ifs t) (he : DE (S.blk scope) elt fe)
    (hN : S.N[i]? = some y) (hyl : S.sc.names.lookup y = some .local) (hk : S.sc.kind = .function) (hl : (py.line == pos.line) = true) (ha : (scope.names.any fun (n, k) => n == y && (k == .local || k == .cell)) = false) (hs : ∀ X, Stc S X → ∀ x, foldedSetIterable iter X.env x = pure x) :
    ∃ te, (∀ X, Stc S X → PS X (.Assign [.Name y py] (.ListComp elt [⟨tg, iter, ifs, 0⟩] scope pos) spos) (tAsg te (gName i))) ∧ EOK S.G.K te (eLc fi gb t fe (own.map (·.2))) := by
  obtain ⟨wi, pi, oi⟩ := hi
  obtain ⟨g, pg, og⟩ := hg
  obtain ⟨tt, pt, ot⟩ := ht
  obtain ⟨te, pe, oe⟩ := he
  exact ⟨tLc wi g tt te (own.map (·.2)), fun X hX => ps_setLc hX.calm (by rw [hX.N]; exact S.nd) (by rw [hX.N]; exact hN) (by rw [hX.sc]; exact hyl) (sw_true (by rw [hX.sc]; exact hk) (by rw [hX.sc]; exact hyl) hl ha) (pi X hX) (by rw [hX.N, hX.sc]; exact blkOk_by ok)
    (fun s H C cl fp => pg _ (stc_blk hX s H scope C cl fp)) (fun s H C cl fp => pt _ (stc_blk hX s H scope C cl fp)) (fun s H C cl fp => pe _ (stc_blk hX s H scope C cl fp)) (hs X hX), eok_lc oi og ot oe⟩
theorem ds_setLc (i : Nat) (own : List (Str × Nat)) {y : Str} {py : Pos} (hi : DI S tg iter fi) (ok : blkC S.N S.sc scope own = true) (hg : DGw (S.blk scope) tg gb (own.map (·.2))) (ht : DTs (S.blk scope) ifs t) (he : DE (S.blk scope) elt fe)
    (hN : S.N[i]? = some y := by rfl) (hyl : S.sc.names.lookup y = some .local := by rfl) (hk : S.sc.kind = .function := by rfl) (hl : (py.line == pos.line) = true := by rfl) (ha : (scope.names.any fun (n, k) => n == y && (k == .local || k == .cell)) = false := by decide +kernel) (hs : ∀ X, Stc S X → ∀ x, foldedSetIterable iter X.env x = pure x := by intros; rfl)
    (hx : S.fx i = false := by rfl) : DS S (.Assign [.Name y py] (.ListComp elt [⟨tg, iter, ifs, 0⟩] scope pos) spos) (sSet i (eLc fi gb t fe (own.map (·.2)))) := by
  obtain ⟨te, p, o⟩ := ds_setLc' (spos := spos) i own hi ok hg ht he hN hyl hk hl ha hs
  exact ⟨_, p, sok_set i hx o⟩
theorem ds_setLcO (i : Nat) (own : List (Str × Nat)) {y : Str} {py : Pos} (hi : DI S tg iter fi) (ok : blkC S.N S.sc scope own = true) (hg : DGw (S.blk scope) tg gb (own.map (·.2))) (ht : DTs (S.blk scope) ifs t) (he : DE (S.blk scope) elt fe)
    (hN : S.N[i]? = some y := by rfl) (hyl : S.sc.names.lookup y = some .local := by rfl) (hk : S.sc.kind = .function := by rfl) (hl : (py.line == pos.line) = true := by rfl) (ha : (scope.names.any fun (n, k) => n == y && (k == .local || k == .cell)) = false := by decide +kernel) (hs : ∀ X, Stc S X → ∀ x, foldedSetIterable iter X.env x = pure x := by intros; rfl)
    (hx : S.fx i = false := by rfl) : DS S (.Assign [.Name y py] (.ListComp elt [⟨tg, iter, ifs, 0⟩] scope pos) spos) (sSetO i (eLc fi gb t fe (own.map (·.2)))) := by
  obtain ⟨te, p, o⟩ := ds_setLc' (spos := spos) i own hi ok hg ht he hN hyl hk hl ha hs
  exact ⟨_, p, sok_setO i hx o⟩
end

/-! ### promises of the text's defs -/
/-- arguments are data; the result may be a new own list or dict -/
def spP (K : PySem.W.Frag) (n : Nat) (fm : List D → Option Sl) : Sp := fun vs H Q _ => vs.length = n ∧ ∃ F ds s, Same F H ∧ RpL K F vs ds ∧ fm ds = some s ∧
  ∀ v F' H' O', Tr F H O0 F' H' O' → SW F' H' O' → SlR K F' H' O' s v → Q v H'
/-- the first argument is an own list of the caller's, by reference -/
def spS (K : PySem.W.Frag) (n : Nat) (fm : List D → List D → Option (Sl × List D)) : Sp := fun vs H Q _ => vs.length = n + 1 ∧ ∃ F p us ur xs ds s xs', vs = .ref p :: ur ∧ Same F H ∧ F p = none ∧ H p = some (.lst us) ∧ RpL K F us xs ∧ RpL K F ur ds ∧ fm xs ds = some (s, xs') ∧
  ∀ v F' H' O' us', Tr F H (OA O0 p) F' H' O' → SW F' H' O' → O' p → H' p = some (.lst us') → RpL K F' us' xs' → SlR K F' H' O' s v → (s.own = true → v ≠ .ref p) → Q v H'
structure FnAt (G : GE) (k : Nat) (name : Str) (n : Nat) (sp : Sp) : Prop where
  ex : ∃ (f : Addr) (fd : FuncData) (ps : List Str) (j : Nat), G.mg name = some (.ref f) ∧ PySem.W.keepIn G.K (.ref f) = true ∧ Binds G.K fd ps [] ∧ j ≤ k ∧ FnG G.P G.w G.K G.mg G.base j f fd ps sp
def FnP (G : GE) (k : Nat) (name : Str) (n : Nat) (fm : List D → Option Sl) : Prop := FnAt G k name n (spP G.K n fm)
def FnS (G : GE) (k : Nat) (name : Str) (n : Nat) (fm : List D → List D → Option (Sl × List D)) : Prop := FnAt G k name n (spS G.K n fm)
theorem FnAt.mono {G : GE} {k k' : Nat} {name : Str} {n : Nat} {sp : Sp} (h : FnAt G k name n sp) (hk : k ≤ k') : FnAt G k' name n sp := by
  obtain ⟨f, fd, ps, j, h1, h2, h3, h4, h5⟩ := h.ex
  exact ⟨f, fd, ps, j, h1, h2, h3, Nat.le_trans h4 hk, h5⟩
/-- two sets of own addresses -/
def OU (O O' : Own) : Own := fun a => O a ∨ O' a
/-- behind a call that got the addresses Oc of ours -/
theorem tr_call {F H F' H' : Hp} {O Oc O' : Own} (w : SW F H O) (tr : Tr F H Oc F' H' O') (sub : ∀ a, Oc a → O a) : Tr F H O F' H' (OU (fun a => O a ∧ ¬ Oc a) O') where
  ex := tr.ex
  keep := fun a o e n => tr.keep a o e fun z => n (sub a z)
  own := fun a q => by
    rcases q with z | z
    · exact .inl z.1
    · exact (tr.own a z).imp (sub a) id
  frz := fun a q => by
    rcases tr.frz a q with z | z | z
    · exact .inl z
    · exact .inr (.inl (sub a z))
    · exact .inr (.inr z)
  live := tr.live
theorem sw_call {F H F' H' : Hp} {O Oc O' : Own} (w : SW F H O) (tr : Tr F H Oc F' H' O') (w' : SW F' H' O') : SW F' H' (OU (fun a => O a ∧ ¬ Oc a) O') where
  ex := w'.ex
  off := fun a q => by
    rcases q with z | z
    · cases e : F' a with
      | none => rfl
      | some o =>
        rcases tr.frz a (by rw [e]; simp) with y | y | y
        · exact absurd (w.off a z.1) y
        · exact absurd y z.2
        · exact absurd y (w.live a z.1)
    · exact w'.off a z
  live := fun a q => by
    rcases q with z | z
    · exact tr.live a (w.live a z.1)
    · exact w'.live a z
def eCall (fm : List D → Option Sl) (r : AF) : EF := eCa fm r
theorem eok_call {K : PySem.W.Frag} {n : Nat} {fm : List D → Option Sl} {t : TA} {r : AF} {E : XK} (o : AOK K t r) (hn : ∀ σ F H O ρ ds ρ', ER K F H O σ ρ → r ρ = some (ds, ρ') → ds.length = n) : EOK K (tCall (spP K n fm) [] E t) (eCa fm r) := by
  intro σ F H O ρ s ρ' Q er hf k
  obtain ⟨ds, ρ1, h1, h2⟩ := bnd_some hf
  cases e : fm ds with
  | none => rw [e] at h2; cases h2
  | some u =>
    rw [e] at h2
    cases h2
    refine o σ F H O ρ ds _ _ er h1 fun vs F1 H1 O1 tr1 er1 r1 => ?_
    show spP K n fm (vs ++ []) H1 Q E
    rw [List.append_nil]
    refine ⟨by rw [r1.len]; exact hn σ F H O ρ ds _ er h1, F1, ds, s, er1.sw.ex, r1, e, fun v F2 H2 O2 tr2 sw2 sl => ?_⟩
    have sub : ∀ a, O0 a → O1 a := fun a z => z.elim
    have er2 : ER K F2 H2 (OU (fun a => O1 a ∧ ¬ O0 a) O2) σ _ := er1.later (sw_call er1.sw tr2 sw2) tr2.ex fun p u op hp => ⟨tr2.keep p u hp fun z => z, .inl ⟨op, fun z => z⟩⟩
    refine k v F2 H2 _ (tr1.trans (tr_call er1.sw tr2 sub)) er2 (sl.mono (Same.refl _) fun p u _ op hp => ⟨hp, .inr op⟩) fun ho j t hj ht ej => ?_
    obtain ⟨q, rfl, oq⟩ := sl.own_at ho
    obtain ⟨v', hv', rr⟩ := er1.sl j t hj
    rw [ej] at hv'
    cases hv'
    obtain ⟨q', e', oq'⟩ := rr.own_at ht
    cases e'
    rcases tr2.own q oq with z | z
    · exact z
    · exact er1.sw.live q oq' z
section
variable {S : Sc} {x : Str} {p pos : Pos} {a : Expr} {es : List Expr} {r : AF}
theorem aok_len {K : PySem.W.Frag} {t : TA} {r : AF} {n : Nat} (o : AOK K t r) (h : ∀ ρ ds ρ', r ρ = some (ds, ρ') → ds.length = n) : ∀ σ F H O ρ ds ρ', ER K F H O σ ρ → r ρ = some (ds, ρ') → ds.length = n := fun _ _ _ _ ρ ds ρ' _ q => h ρ ds ρ' q
theorem aNil_len : ∀ (ρ : En) (ds : List D) (ρ' : En), aNil ρ = some (ds, ρ') → ds.length = 0 := fun ρ ds ρ' h => by cases h; rfl
theorem aCons_len {f : EF} {r : AF} {n : Nat} (h : ∀ (ρ : En) (ds : List D) (ρ' : En), r ρ = some (ds, ρ') → ds.length = n) : ∀ (ρ : En) (ds : List D) (ρ' : En), aCons f r ρ = some (ds, ρ') → ds.length = n + 1 := fun ρ ds ρ' q => by
  obtain ⟨d, ρ1, h1, h2⟩ := bnd_some q
  obtain ⟨ds', ρ2, h3, h4⟩ := bnd_some h2
  cases h4
  rw [List.length_cons, h _ _ _ h3]
theorem de_call {n : Nat} {fm : List D → Option Sl} (F : FnP S.G S.k x n fm) (hg : S.sc.names.lookup x = some .globalImplicit) (ha : DA S (a :: es) r) (hn : ∀ (ρ : En) (ds : List D) (ρ' : En), r ρ = some (ds, ρ') → ds.length = n) (hdb : (x == ("__debug__" : Str)) = false := by decide)
    (he : ∀ X, Stc S X → starEach (a :: es) X.env = (false, eval a X.env) :: starEach es X.env := by intros; rfl) (hpl : ∀ X, Stc S X → (backTo pos (starEach es X.env)).any (·.1) = false := by intros; rfl) : DE S (.Call (.Name x p) (a :: es) [] pos) (eCall fm r) := by
  obtain ⟨t, pt, o⟩ := ha
  obtain ⟨f, fd, ps, j, h1, h2, h3, h4, h5⟩ := F.ex
  refine ⟨tCall (spP S.G.K n fm) [] E0 t, fun X hX => ?_, eok_call o (aok_len o hn)⟩
  have F' : FnG X.prog X.w X.K X.mg X.base S.k f fd ps (spP S.G.K n fm) := by
    rw [hX.prog, hX.w, hX.K, hX.mg, hX.base]
    exact h5.mono h4
  exact pe_callG F' hX.room hX.gd (by unfold Gl Env.kindOf; rw [hX.sc]; exact hg) (by rw [hX.mg]; exact h1) (by rw [hX.K]; exact h2) (by rw [hX.K]; exact h3) (pt X hX) hdb (he X hX) (hpl X hX)
theorem de_call0 {fm : List D → Option Sl} (F : FnP S.G S.k x 0 fm) (hg : S.sc.names.lookup x = some .globalImplicit) (hdb : (x == ("__debug__" : Str)) = false := by decide) : DE S (.Call (.Name x p) [] [] pos) (eCall fm aNil) := by
  obtain ⟨f, fd, ps, j, h1, h2, h3, h4, h5⟩ := F.ex
  obtain ⟨_, _, o⟩ := da_nil (S := S)
  refine ⟨tCall (spP S.G.K 0 fm) [] E0 tNil, fun X hX => ?_, eok_call (by
    intro σ F H O ρ ds ρ' Q er hf k
    cases hf
    exact k [] F H O Tr.refl er .nil) (aok_len o aNil_len)⟩
  have F' : FnG X.prog X.w X.K X.mg X.base S.k f fd ps (spP S.G.K 0 fm) := by
    rw [hX.prog, hX.w, hX.K, hX.mg, hX.base]
    exact h5.mono h4
  exact pe_call0G F' hX.room hX.gd (by unfold Gl Env.kindOf; rw [hX.sc]; exact hg) (by rw [hX.mg]; exact h1) (by rw [hX.K]; exact h2) (by rw [hX.K]; exact h3) hdb
/-- f(x, ..), x an own list by reference -/
def eCallS (i : Nat) (fm : List D → List D → Option (Sl × List D)) (r : AF) : EF := fun ρ => match ρ[i]? with
  | some (some (.ol _)) => bnd r (fun ds ρ1 => match ρ1[i]? with
    | some (some (.ol xs)) => match fm xs ds with
      | some (s, xs') => some (s, ρ1.set i (some (.ol xs')))
      | none => none
    | _ => none) ρ
  | _ => none
theorem eok_callS {K : PySem.W.Frag} {n : Nat} {fm : List D → List D → Option (Sl × List D)} {t : TA} {E : XK} (i : Nat) (o : AOK K t r) (hn : ∀ (ρ : En) (ds : List D) (ρ' : En), r ρ = some (ds, ρ') → ds.length = n) : EOK K (tCall (spS K n fm) [] E (tCons (tVar i) t)) (eCallS i fm r) := by
  intro σ F H O ρ s ρ' Q er hf k
  unfold eCallS at hf
  split at hf
  rotate_left
  · cases hf
  rename_i xs0 hi0
  obtain ⟨v0, hv0, sl0⟩ := er.sl i _ hi0
  obtain ⟨p0, us0, rfl, _, _, _⟩ := sl0
  obtain ⟨ds, ρ1, h1, h2⟩ := bnd_some hf
  refine ⟨_, hv0, o σ F H O ρ ds ρ1 _ er h1 fun vs F1 H1 O1 tr1 er1 r1 => ?_⟩
  split at h2
  rotate_left
  · cases h2
  rename_i xs hi
  split at h2
  rotate_left
  · cases h2
  rename_i u xs' hfm
  cases h2
  obtain ⟨v, hv, sl⟩ := er1.sl i _ hi
  rw [hv0] at hv
  cases hv
  obtain ⟨p, us, ep, op, hp, rl⟩ := sl
  cases ep
  show spS K n fm ((.ref p0 :: vs) ++ []) H1 Q E
  rw [List.append_nil]
  refine ⟨by rw [List.length_cons, r1.len, hn _ _ _ h1], F1, p0, us, vs, xs, ds, s, xs', rfl, er1.sw.ex, er1.sw.off p0 op, hp, rl, r1, hfm, fun v F2 H2 O2 us' tr2 sw2 op2 hp2 rl2 sl2 hne => ?_⟩
  have sub : ∀ a, OA O0 p0 a → O1 a := fun a z => by
    rcases z with z | z
    · exact z.elim
    · rw [z]; exact op
  have swc := sw_call er1.sw tr2 sw2
  have hl : i < ρ1.length := by obtain ⟨z, _⟩ := List.getElem?_eq_some_iff.mp hi; exact z
  have other : ∀ (q : Addr) (u : HO), O1 q → q ≠ p0 → H1 q = some u → H2 q = some u ∧ OU (fun a => O1 a ∧ ¬ OA O0 p0 a) O2 q := fun q u oq hq e =>
    ⟨tr2.keep q u e fun z => by
      rcases z with z | z
      · exact z
      · exact hq z, .inl ⟨oq, fun z => by
      rcases z with z | z
      · exact z
      · exact hq z⟩⟩
  have ne0 : ∀ (j : Nat) (t : Sl) (w' : V), j ≠ i → ρ1[j]? = some (some t) → t.own = true → σ[j]? = some (some w') → w' ≠ .ref p0 := fun j t w' hj e ht e2 z => by
    subst z
    exact er1.dis j i t _ _ hj e hi ht rfl e2 hv0
  have er2 : ER K F2 H2 (OU (fun a => O1 a ∧ ¬ OA O0 p0 a) O2) σ (ρ1.set i (some (.ol xs'))) := by
    refine ⟨swc, by simp [er1.len], fun j t hj => ?_, fun a b s1 t1 w' hab ha hb hs ht e1 e2 => ?_⟩
    · by_cases hji : j = i
      · subst hji
        rw [List.getElem?_set_self hl] at hj
        cases hj
        exact ⟨_, hv0, p0, us', rfl, .inr op2, hp2, rl2⟩
      · rw [List.getElem?_set_ne (Ne.symm hji)] at hj
        obtain ⟨w', h3, h4⟩ := er1.sl j t hj
        cases hto : t.own with
        | false =>
          cases t with
          | im d => exact ⟨w', h3, Rp.ext tr2.ex h4⟩
          | ol _ => cases hto
          | od _ => cases hto
        | true => exact ⟨w', h3, h4.mono tr2.ex fun q u e oq hq => other q u oq (fun z => ne0 j t w' hji hj hto h3 (by rw [e, z])) hq⟩
    · have back : ∀ (j : Nat) (s : Sl), (ρ1.set i (some (.ol xs')))[j]? = some (some s) → s.own = true → ∃ s', ρ1[j]? = some (some s') ∧ s'.own = true := fun j s q hs => by
        by_cases hj : j = i
        · subst hj
          exact ⟨_, hi, rfl⟩
        · rw [List.getElem?_set_ne (Ne.symm hj)] at q
          exact ⟨s, q, hs⟩
      obtain ⟨s', q1, o1⟩ := back a s1 ha hs
      obtain ⟨t', q2, o2⟩ := back b t1 hb ht
      exact er1.dis a b s' t' w' hab q1 q2 o1 o2 e1 e2
  refine k v F2 H2 _ (tr1.trans (tr_call er1.sw tr2 sub)) er2 (sl2.mono (Same.refl _) fun q u _ oq hq => ⟨hq, .inr oq⟩) fun ho j t hj ht ej => ?_
  obtain ⟨q, rfl, oq⟩ := sl2.own_at ho
  have hq0 : q ≠ p0 := fun z => hne ho (by rw [z])
  by_cases hji : j = i
  · subst hji
    rw [hv0] at ej
    cases ej
    exact hq0 rfl
  · rw [List.getElem?_set_ne (Ne.symm hji)] at hj
    obtain ⟨w', h3, h4⟩ := er1.sl j t hj
    rw [ej] at h3
    cases h3
    obtain ⟨q', e', oq'⟩ := h4.own_at ht
    cases e'
    rcases tr2.own q oq with z | z
    · rcases z with z | z
      · exact z
      · exact hq0 z
    · exact er1.sw.live q oq' z
theorem de_callS (i : Nat) {y : Str} {py : Pos} {n : Nat} {fm : List D → List D → Option (Sl × List D)} (F : FnS S.G S.k x n fm) (hg : S.sc.names.lookup x = some .globalImplicit) (ha : DA S es r) (hn : ∀ (ρ : En) (ds : List D) (ρ' : En), r ρ = some (ds, ρ') → ds.length = n)
    (hN : S.N[i]? = some y := by rfl) (hv : S.sc.names.lookup y = some .local ∨ S.sc.names.lookup y = some .cell ∨ S.sc.names.lookup y = some .free := by first | exact Or.inl rfl | exact Or.inr (Or.inl rfl) | exact Or.inr (Or.inr rfl))
    (hd : (y == ("__debug__" : Str)) = false := by decide) (hcd : (y == ("__classdict__" : Str)) = false := by decide) (hdb : (x == ("__debug__" : Str)) = false := by decide)
    (he : ∀ X, Stc S X → starEach (.Name y py :: es) X.env = (false, eval (.Name y py) X.env) :: starEach es X.env := by intros; rfl) (hpl : ∀ X, Stc S X → (backTo pos (starEach es X.env)).any (·.1) = false := by intros; rfl) : DE S (.Call (.Name x p) (.Name y py :: es) [] pos) (eCallS i fm r) := by
  obtain ⟨t, pt, o⟩ := ha
  obtain ⟨f, fd, ps, j, h1, h2, h3, h4, h5⟩ := F.ex
  refine ⟨tCall (spS S.G.K n fm) [] E0 (tCons (tVar i) t), fun X hX => ?_, eok_callS i o hn⟩
  have F' : FnG X.prog X.w X.K X.mg X.base S.k f fd ps (spS S.G.K n fm) := by
    rw [hX.prog, hX.w, hX.K, hX.mg, hX.base]
    exact h5.mono h4
  exact pe_callG F' hX.room hX.gd (by unfold Gl Env.kindOf; rw [hX.sc]; exact hg) (by rw [hX.mg]; exact h1) (by rw [hX.K]; exact h2) (by rw [hX.K]; exact h3)
    (pa_cons (pe_var (by rw [hX.N]; exact hN) (by unfold Vis; rw [hX.sc]; exact hv) hd hcd) (pt X hX) (he X hX)) hdb (he X hX) (hpl X hX)
/-- f(e), e a new own list that is handed on by reference -/
def eCallT (fm : List D → List D → Option (Sl × List D)) (f : EF) : EF := bnd f fun s ρ => match s with
  | .ol xs => match fm xs [] with
    | some (s', _) => some (s', ρ)
    | none => none
  | _ => none
theorem eok_callT {K : PySem.W.Frag} {fm : List D → List D → Option (Sl × List D)} {t : TE} {f : EF} {E : XK} (o : EOK K t f) : EOK K (tCall (spS K 0 fm) [] E (tCons t tNil)) (eCallT fm f) := by
  intro σ F H O ρ s ρ' Q er hf k
  obtain ⟨s0, ρ1, h1, h2⟩ := bnd_some hf
  split at h2
  rotate_left
  · cases h2
  rename_i xs
  split at h2
  rotate_left
  · cases h2
  rename_i s' xs' hfm
  cases h2
  refine o σ F H O ρ _ _ _ er h1 fun v F1 H1 O1 tr1 er1 sl fr => ?_
  obtain ⟨p, us, rfl, op, hp, rl⟩ := sl
  show spS K 0 fm [.ref p] H1 Q E
  refine ⟨rfl, F1, p, us, [], xs, [], s, xs', rfl, er1.sw.ex, er1.sw.off p op, hp, rl, .nil, hfm, fun v F2 H2 O2 us' tr2 sw2 op2 hp2 rl2 sl2 hne => ?_⟩
  have sub : ∀ a, OA O0 p a → O1 a := fun a z => by
    rcases z with z | z
    · exact z.elim
    · rw [z]; exact op
  have hnp : ∀ (j : Nat) (t : Sl) (w' : V), ρ'[j]? = some (some t) → t.own = true → σ[j]? = some (some w') → w' ≠ .ref p := fun j t w' hj ht e z => fr rfl j t hj ht (by rw [e, z])
  have er2 : ER K F2 H2 (OU (fun a => O1 a ∧ ¬ OA O0 p a) O2) σ ρ' := by
    refine ⟨sw_call er1.sw tr2 sw2, er1.len, fun j t hj => ?_, er1.dis⟩
    obtain ⟨w', h3, h4⟩ := er1.sl j t hj
    cases hto : t.own with
    | false =>
      cases t with
      | im d => exact ⟨w', h3, Rp.ext tr2.ex h4⟩
      | ol _ => cases hto
      | od _ => cases hto
    | true =>
      refine ⟨w', h3, h4.mono tr2.ex fun q u e oq hq => ?_⟩
      have hqp : q ≠ p := fun z => hnp j t w' hj hto h3 (by rw [e, z])
      have hno : ¬ OA O0 p q := fun z => by
        rcases z with z | z
        · exact z
        · exact hqp z
      exact ⟨tr2.keep q u hq hno, .inl ⟨oq, hno⟩⟩
  refine k v F2 H2 _ (tr1.trans (tr_call er1.sw tr2 sub)) er2 (sl2.mono (Same.refl _) fun q u _ oq hq => ⟨hq, .inr oq⟩) fun ho j t hj ht ej => ?_
  obtain ⟨q, rfl, oq⟩ := sl2.own_at ho
  have hq0 : q ≠ p := fun z => hne ho (by rw [z])
  obtain ⟨w', h3, h4⟩ := er1.sl j t hj
  rw [ej] at h3
  cases h3
  obtain ⟨q', e', oq'⟩ := h4.own_at ht
  cases e'
  rcases tr2.own q oq with z | z
  · rcases z with z | z
    · exact z
    · exact hq0 z
  · exact er1.sw.live q oq' z
theorem de_callT {f : EF} {fm : List D → List D → Option (Sl × List D)} (F : FnS S.G S.k x 0 fm) (hg : S.sc.names.lookup x = some .globalImplicit) (ha : DE S a f) (hdb : (x == ("__debug__" : Str)) = false := by decide)
    (he : ∀ X, Stc S X → starEach [a] X.env = (false, eval a X.env) :: starEach [] X.env := by intros; rfl) (hpl : ∀ X, Stc S X → (backTo pos (starEach [] X.env)).any (·.1) = false := by intros; rfl) : DE S (.Call (.Name x p) [a] [] pos) (eCallT fm f) := by
  obtain ⟨t, pt, o⟩ := ha
  obtain ⟨g, fd, ps, j, h1, h2, h3, h4, h5⟩ := F.ex
  refine ⟨tCall (spS S.G.K 0 fm) [] E0 (tCons t tNil), fun X hX => ?_, eok_callT o⟩
  have F' : FnG X.prog X.w X.K X.mg X.base S.k g fd ps (spS S.G.K 0 fm) := by
    rw [hX.prog, hX.w, hX.K, hX.mg, hX.base]
    exact h5.mono h4
  exact pe_callG F' hX.room hX.gd (by unfold Gl Env.kindOf; rw [hX.sc]; exact hg) (by rw [hX.mg]; exact h1) (by rw [hX.K]; exact h2) (by rw [hX.K]; exact h3) (pa_cons (pt X hX) pa_nil (he X hX)) hdb (he X hX) (hpl X hX)
end

/-! ### a def keeps its promise -/
def startE (n : Nat) (ds : List D) : En := ds.map (fun d => some (Sl.im d)) ++ List.replicate (n - ds.length) none
def runP (g : SF) (n : Nat) (ds : List D) : Option Sl := match g (startE n ds) with
  | some (.rt s _) => some s
  | some (.nx _) => some (.im .non)
  | _ => none
theorem er_start {K : PySem.W.Frag} {F H : Hp} {N : List Str} {vs : List V} {ds : List D} (e : Same F H) (r : RpL K F vs ds) : ER K F H O0 (L2.start N vs) (startE N.length ds) := by
  have hl := r.len
  refine ⟨⟨e, fun _ z => z.elim, fun _ z => z.elim⟩, by simp [L2.start, startE, hl], fun i s q => ?_, fun i j s t v _ h1 h2 hs _ _ _ => ?_⟩
  · unfold startE at q
    by_cases hi : i < ds.length
    · rw [List.getElem?_append_left (by simpa using hi), List.getElem?_map] at q
      cases hd : ds[i]? with
      | none => rw [hd] at q; cases q
      | some d =>
        rw [hd] at q
        cases q
        obtain ⟨v, h1, h2⟩ := r.get' hd
        refine ⟨v, ?_, h2⟩
        unfold L2.start
        rw [List.getElem?_append_left (by simpa [hl] using hi), List.getElem?_map, h1]
        rfl
    · rw [List.getElem?_append_right (by simpa using hi), List.getElem?_replicate] at q
      split at q <;> cases q
  · unfold startE at h1
    by_cases hi : i < ds.length
    · rw [List.getElem?_append_left (by simpa using hi), List.getElem?_map] at h1
      cases hd : ds[i]? with
      | none => rw [hd] at h1; cases h1
      | some d => rw [hd] at h1; cases h1; cases hs
    · rw [List.getElem?_append_right (by simpa using hi), List.getElem?_replicate] at h1
      split at h1 <;> cases h1
section
variable {P : Program} {w : World} {K : PySem.W.Frag} {mg : Str → Option Value} {base : Heap} {x qual : Str} {st : Stmt} {f : Addr} {fd : FuncData} {N ps : List Str} {k : Nat} {g : SF}
/-- the contexts of a def's body -/
def scOf (G : GE) (N : List Str) (nd : N.Nodup) (st : Stmt) (k : Nat) (fx : Nat → Bool := fun _ => false) : Sc := { G := G, N := N, sc := defScope st, k := k, nd := nd, fn := fun _ => true, fx := fx }
theorem stc_of {G : GE} {nd : N.Nodup} {fx : Nat → Bool} {cdv : Value} {A : Around} {outer : List Env} {s : Shared} {H : Hp} {E : XK} (hr : Room k (A.deeper (envOfC qual (defScope st) s.heap.objs.size f cdv))) (gd : A.guards = some []) :
    Stc (scOf G N nd st k fx) (cxOf CX0 G.P G.w G.K G.mg G.base N qual (defScope st) f cdv A outer s H E).nox :=
  ⟨rfl, rfl, rfl, rfl, rfl, rfl, rfl, rfl, rfl, hr, gd, fun _ _ => rfl⟩
theorem fnP_of {G : GE} {fm : List D → Option Sl} (F : Fun G.K x qual st f fd) (S : FnScope N ps (defScope st)) (body : DSs (scOf G N S.nd st k) (defBody st) g) (hm : ∀ ds s, ds.length = ps.length → fm ds = some s → runP g N.length ds = some s) :
    FnG G.P G.w G.K G.mg G.base (k + 1) f fd ps (spP G.K ps.length fm) := by
  refine FnG.body F S (fun h => h.1) fun {cdv A outer s H vs Q E} hr gd h => ?_
  obtain ⟨t, pt, o⟩ := body
  obtain ⟨hlen, F0, ds, s0, ex, rl, hfm, k0⟩ := h
  have hm := hm ds s0 (by rw [← rl.len]; exact hlen) hfm
  refine ⟨t, (pt _ (stc_of hr gd)).nox, ?_⟩
  unfold runP at hm
  cases e : g (startE N.length ds) with
  | none => rw [e] at hm; cases hm
  | some out =>
    rw [e] at hm
    refine o _ _ F0 H O0 _ out (er_start ex rl) e ?_
    cases out with
    | nx ρ' => cases hm; exact fun σ' F' H' O' tr er _ => k0 .non F' H' O' tr er.sw .non
    | rt s1 ρ' => cases hm; exact fun v σ' F' H' O' tr er _ sl _ => k0 v F' H' O' tr er.sw sl
    | bk ρ' => cases hm
    | ct ρ' => cases hm
def startS (n : Nat) (xs ds : List D) : En := some (.ol xs) :: startE (n - 1) ds
def runS (g : SF) (n : Nat) (xs ds : List D) : Option (Sl × List D) := match g (startS n xs ds) with
  | some (.rt s ρ) => match (ρ[0]? : Option (Option Sl)) with
    | some (some (.ol xs')) => some (s, xs')
    | _ => none
  | some (.nx ρ) => match (ρ[0]? : Option (Option Sl)) with
    | some (some (.ol xs')) => some (.im .non, xs')
    | _ => none
  | _ => none
theorem fnS_of {G : GE} {fm : List D → List D → Option (Sl × List D)} (F : Fun G.K x qual st f fd) (S : FnScope N ps (defScope st)) (body : DSs (scOf G N S.nd st k (fun i => i == 0)) (defBody st) g) (n : Nat) (hps : ps.length = n + 1) (hm : ∀ xs ds s, ds.length = n → fm xs ds = some s → runS g N.length xs ds = some s) :
    FnG G.P G.w G.K G.mg G.base (k + 1) f fd ps (spS G.K n fm) := by
  refine FnG.body F S (fun h => by rw [hps]; exact h.1) fun {cdv A outer s H vs Q E} hr gd h => ?_
  obtain ⟨t, pt, o⟩ := body
  obtain ⟨hlen, F0, p, us, ur, xs, ds, s0, xs', rfl, ex, fp, hp, rl, rd, hfm, k0⟩ := h
  have hdl : ds.length = n := by rw [← rd.len]; simpa using hlen
  have hm := hm xs ds _ hdl hfm
  have hN : ps.length ≤ N.length := by rw [← S.pre, List.length_take]; omega
  have est : L2.start N (.ref p :: ur) = some (.ref p) :: L2.start (N.drop 1) ur := by
    unfold L2.start
    simp only [List.map_cons, List.cons_append, List.length_cons, List.length_drop]
    congr 3
    omega
  have er0 := er_start (N := N.drop 1) ex rd
  have er1 : ER G.K F0 H (OA O0 p) (L2.start N (.ref p :: ur)) (startS N.length xs ds) := by
    rw [est]
    have elen : (N.drop 1).length = N.length - 1 := List.length_drop
    rw [elen] at er0
    unfold startS
    refine ⟨⟨ex, fun a z => by
      rcases z with z | z
      · exact z.elim
      · rw [z]; exact fp, fun a z => by
      rcases z with z | z
      · exact z.elim
      · rw [z, hp]; simp⟩, by simpa using er0.len, fun i u q => ?_, fun i j u v z hij h1 h2 hu hv e1 e2 => ?_⟩
    · cases i with
      | zero =>
        cases q
        exact ⟨_, rfl, p, us, rfl, .inr rfl, hp, rl⟩
      | succ i =>
        obtain ⟨v, h1, h2⟩ := er0.sl i u (by simpa using q)
        exact ⟨v, by simpa using h1, h2.mono (Same.refl _) fun q w e z => z.elim⟩
    · have imp : ∀ (j : Nat) (u : Sl), (startE (N.length - 1) ds)[j]? = some (some u) → u.own = true → False := fun j u h hu => by
        obtain ⟨v, h3, h4⟩ := er0.sl j u h
        obtain ⟨_, _, z⟩ := h4.own_at hu
        exact z
      cases i with
      | zero =>
        cases j with
        | zero => exact hij rfl
        | succ j => exact imp j v (by simpa using h2) hv
      | succ i => exact imp i u (by simpa using h1) hu
  refine ⟨t, (pt _ (stc_of hr gd)).nox, ?_⟩
  have h0 : (L2.start N (V.ref p :: ur))[0]? = some (some (.ref p)) := by rw [est]; rfl
  unfold runS at hm
  cases e : g (startS N.length xs ds) with
  | none => rw [e] at hm; cases hm
  | some out =>
    rw [e] at hm
    refine o _ _ F0 H (OA O0 p) _ out er1 e ?_
    have fin : ∀ {ρ' : En} {xs1 : List D} {σ' : L2.St} {F' H' : Hp} {O' : Own}, ρ'[0]? = some (some (.ol xs1)) → ER G.K F' H' O' σ' ρ' → FxR (fun i => i == 0) (L2.start N (V.ref p :: ur)) σ' → ∃ us', O' p ∧ H' p = some (.lst us') ∧ RpL G.K F' us' xs1 := fun {ρ' xs1 σ' F' H' O'} h1 er fx => by
      obtain ⟨v, h2, q, us', rfl, h3, h4, h5⟩ := er.sl 0 _ h1
      rw [fx 0 rfl, h0] at h2
      cases h2
      exact ⟨us', h3, h4, h5⟩
    cases out with
    | nx ρ' =>
      simp only at hm
      split at hm
      · rename_i h1
        cases hm
        intro σ' F' H' O' tr er fx
        obtain ⟨us', h3, h4, h5⟩ := fin h1 er fx
        exact k0 .non F' H' O' us' tr er.sw h3 h4 h5 .non (fun z => by cases z)
      · cases hm
    | rt s1 ρ' =>
      simp only at hm
      split at hm
      · rename_i h1
        cases hm
        intro v σ' F' H' O' tr er fx sl fr
        obtain ⟨us', h3, h4, h5⟩ := fin h1 er fx
        refine k0 v F' H' O' us' tr er.sw h3 h4 h5 sl fun ho z => fr ho 0 _ h1 rfl ?_
        rw [fx 0 rfl, h0, z]
      · cases hm
    | bk ρ' => cases hm
    | ct ρ' => cases hm
end
end DL

set_option Elab.async false
set_option linter.all false
set_option maxRecDepth 100000
set_option maxHeartbeats 4000000
/-! DLOps: operators, comparisons, subscripts, built-ins over data. -/
namespace DL
open PySem PySem.Spec PyProof.Rows L2

/-! ### views -/
section
variable {K : PySem.W.Frag} {F H : Hp} {v : V}
theorem Vw.int_inv {i : Int} (h : Vw K F H v (.int i)) : v = .int i := by cases h; rfl
theorem Vw.str_inv {i : Str} (h : Vw K F H v (.str i)) : v = .str i := by cases h; rfl
theorem Vw.bl_inv {i : Bool} (h : Vw K F H v (.bl i)) : v = .bl i := by cases h; rfl
theorem Vw.non_inv (h : Vw K F H v .non) : v = .non := by cases h; rfl
theorem Vw.lst_inv {ds : List D} (h : Vw K F H v (.lst ds)) : ∃ a vs, v = .ref a ∧ H a = some (.lst vs) ∧ RpL K F vs ds := by
  cases h with
  | lst h a => exact ⟨_, _, rfl, h, a⟩
theorem Vw.tup_inv {ds : List D} (h : Vw K F H v (.tup ds)) : ∃ a vs, v = .ref a ∧ SqT K F a vs ∧ RpL K F vs ds := by
  cases h with
  | tup h a => exact ⟨_, _, rfl, h, a⟩
theorem Vw.dct_inv {ds : List (Key × D)} (h : Vw K F H v (.dct ds)) : ∃ a vs, v = .ref a ∧ H a = some (.dK vs) ∧ RpK K F vs ds := by
  cases h with
  | dct h a => exact ⟨_, _, rfl, h, a⟩
theorem Vw.scr_inv {ns : List Int} (h : Vw K F H v (.scr ns)) : ∃ a, v = .ref a ∧ SqL K H a (ns.map V.int) := by
  cases h with
  | scr h => exact ⟨_, rfl, h⟩
end

/-! ### + - * and their like -/
def dAdd : D → D → Option Sl
  | .int a, .int b => some (.im (.int (a + b)))
  | .str a, .str b => if a.length + b.length ≤ big then some (.im (.str (a ++ b))) else none
  | .tup a, .tup b => if a.length + b.length ≤ big then some (.im (.tup (a ++ b))) else none
  | .lst a, .lst b => if a.length + b.length ≤ big then some (.ol (a ++ b)) else none
  | _, _ => none
def rAddU (K : PySem.W.Frag) : R2 := fun x y H Q => (rI0 fun i j => .int (i + j)) x y H Q ∨ (∃ i j, x = .str i ∧ y = .str j ∧ i.length + j.length ≤ sizeLine ∧ Q (.str (i ++ j)) H) ∨ rCatA K x y H Q ∨ rCat x y H Q
theorem op_addU {X : Cx} : OpR X (binaryOp .Add) (rAddU X.K) := op_add.or (op_add_str.or (op_catA.or op_cat))
theorem r2k_add {K : PySem.W.Frag} : R2K K (rAddU K) dAdd := by
  intro x y dx dy F H s Q e vx vy hg ro
  unfold dAdd at hg
  split at hg
  · cases hg
    obtain rfl := vx.int_inv
    obtain rfl := vy.int_inv
    exact .inl ⟨_, _, rfl, rfl, ro.1 _ (.int _)⟩
  · split at hg
    · rename_i hz
      cases hg
      obtain rfl := vx.str_inv
      obtain rfl := vy.str_inv
      exact .inr (.inl ⟨_, _, rfl, rfl, big_line hz, ro.1 _ (.str _)⟩)
    · cases hg
  · split at hg
    · rename_i hz
      cases hg
      obtain ⟨a, us, rfl, ha, ra⟩ := vx.tup_inv
      obtain ⟨b, ws, rfl, hb, rb⟩ := vy.tup_inv
      refine .inr (.inr (.inl ⟨a, b, us, ws, rfl, rfl, sqT_ext e ha, sqT_ext e hb, by rw [ra.len, rb.len]; exact big_line hz, fun h0 => ?_, fun h0 h1 => ?_, fun h0 h1 p hp => ?_⟩))
      · subst h0
        cases ra
        exact ro.1 _ (.tup hb rb)
      · subst h1
        cases rb
        rw [List.append_nil] at ro
        exact ro.1 _ (.tup ha ra)
      · have ex := same_new (o := .tup (us ++ ws)) (same_none e hp)
        exact ro.2 p _ hp (.tup (SqT.of upd_same) ((ra.ext ex).app (rb.ext ex)))
    · cases hg
  · split at hg
    · rename_i hz
      cases hg
      obtain ⟨a, us, rfl, ha, ra⟩ := vx.lst_inv
      obtain ⟨b, ws, rfl, hb, rb⟩ := vy.lst_inv
      exact .inr (.inr (.inr ⟨a, b, us, ws, rfl, rfl, ha, hb, by rw [ra.len, rb.len]; exact big_line hz, fun p hp => ro p _ hp (ra.app rb)⟩))
    · cases hg
  · cases hg
def dSub : D → D → Option Sl
  | .int a, .int b => some (.im (.int (a - b)))
  | _, _ => none
theorem r2k_sub {K : PySem.W.Frag} : R2K K (rI0 fun i j => .int (i - j)) dSub := by
  intro x y dx dy F H s Q e vx vy hg ro
  unfold dSub at hg
  split at hg
  · cases hg
    obtain rfl := vx.int_inv
    obtain rfl := vy.int_inv
    exact ⟨_, _, rfl, rfl, ro.1 _ (.int _)⟩
  · cases hg
instance (i j : Int) : Decidable (CMul i j) := decidable_of_iff (i.natAbs < 2 ^ 64 ∨ j.natAbs < 2 ^ 64) (by unfold CMul; omega)
instance (i j : Int) : Decidable (CDivN i j) := by unfold CDivN; infer_instance
instance (i j : Int) : Decidable (CDiv i j) := decidable_of_iff (0 < j.toNat ∧ j.toNat < 1073741824) (by unfold CDiv; omega)
instance (i j : Int) : Decidable (CPow i j) := decidable_of_iff (0 ≤ j ∧ j.toNat ≤ 1000000 ∧ i.natAbs < 2 ^ 64) (by unfold CPow; omega)
/-- *, of ints one of which is not too great, of a list and an int -/
def dMul : D → D → Option Sl
  | .int a, .int b => if CMul a b then some (.im (.int (a * b))) else none
  | .lst xs, .int k => if k < 2 ^ 62 ∧ -(2 ^ 62) < k ∧ xs.length * k.toNat ≤ big then some (.ol (List.replicate k.toNat xs).flatten) else none
  | _, _ => none
def rMulU : R2 := fun x y H Q => (rI CMul fun i j => .int (i * j)) x y H Q ∨ rRep x y H Q
theorem op_mulU {X : Cx} : OpR X (binaryOp .Mult) rMulU := op_mul.or op_rep
theorem rep_rp {K : PySem.W.Frag} {F : Hp} {us : List V} {xs : List D} (r : RpL K F us xs) : ∀ n : Nat, RpL K F (List.replicate n us).flatten (List.replicate n xs).flatten
  | 0 => .nil
  | n + 1 => by
    rw [List.replicate_succ, List.replicate_succ, List.flatten_cons, List.flatten_cons]
    exact r.app (rep_rp r n)
theorem r2k_mul {K : PySem.W.Frag} : R2K K rMulU dMul := by
  intro x y dx dy F H s Q e vx vy hg ro
  unfold dMul at hg
  split at hg
  · split at hg
    · rename_i hc
      cases hg
      obtain rfl := vx.int_inv
      obtain rfl := vy.int_inv
      exact .inl ⟨_, _, rfl, rfl, hc, ro.1 _ (.int _)⟩
    · cases hg
  · split at hg
    · rename_i hc
      cases hg
      obtain ⟨a, us, rfl, ha, ra⟩ := vx.lst_inv
      obtain rfl := vy.int_inv
      exact .inr ⟨a, _, us, rfl, rfl, ha, by omega, by omega, by rw [ra.len]; exact big_line hc.2.2, fun p hp => ro p _ hp (rep_rp ra _)⟩
    · cases hg
  · cases hg
def dFdiv : D → D → Option Sl
  | .int a, .int b => if CDivN a b then some (.im (.int (a.fdiv b))) else none
  | _, _ => none
theorem r2k_fdiv {K : PySem.W.Frag} : R2K K (rI CDivN fun i j => .int (i.fdiv j)) dFdiv := by
  intro x y dx dy F H s Q e vx vy hg ro
  unfold dFdiv at hg
  split at hg
  · split at hg
    · rename_i hc
      cases hg
      obtain rfl := vx.int_inv
      obtain rfl := vy.int_inv
      exact ⟨_, _, rfl, rfl, hc, ro.1 _ (.int _)⟩
    · cases hg
  · cases hg
def dMod : D → D → Option Sl
  | .int a, .int b => if b ≠ 0 then some (.im (.int (a.fmod b))) else none
  | _, _ => none
theorem r2k_mod {K : PySem.W.Frag} : R2K K (rI (fun _ j => j ≠ 0) fun i j => .int (i.fmod j)) dMod := by
  intro x y dx dy F H s Q e vx vy hg ro
  unfold dMod at hg
  split at hg
  · split at hg
    · rename_i hc
      cases hg
      obtain rfl := vx.int_inv
      obtain rfl := vy.int_inv
      exact ⟨_, _, rfl, rfl, hc, ro.1 _ (.int _)⟩
    · cases hg
  · cases hg
def dPow : D → D → Option Sl
  | .int a, .int b => if CPow a b then some (.im (.int (a ^ b.toNat))) else none
  | _, _ => none
theorem r2k_pow {K : PySem.W.Frag} : R2K K (rI CPow fun i j => .int (i ^ j.toNat)) dPow := by
  intro x y dx dy F H s Q e vx vy hg ro
  unfold dPow at hg
  split at hg
  · split at hg
    · rename_i hc
      cases hg
      obtain rfl := vx.int_inv
      obtain rfl := vy.int_inv
      exact ⟨_, _, rfl, rfl, hc, ro.1 _ (.int _)⟩
    · cases hg
  · cases hg
def dNeg : D → Option Sl
  | .int a => some (.im (.int (-a)))
  | _ => none
theorem r1k_neg {K : PySem.W.Frag} : R1K K (rU fun i => .int (-i)) dNeg := by
  intro x dx F H s Q e vx hg ro
  unfold dNeg at hg
  split at hg
  · cases hg
    obtain rfl := vx.int_inv
    exact ⟨_, rfl, ro.1 _ (.int _)⟩
  · cases hg
section
variable {S : Sc} {a b : Expr} {fa fb : EF} {pos : Pos}
theorem de_add (ha : DE S a fa) (hb : DE S b fb) : DE S (.BinOp a .Add b pos) (eB dAdd fa fb) := de_op (fun X h => by rw [← h.K]; exact op_addU) r2k_add ha hb
theorem de_sub (ha : DE S a fa) (hb : DE S b fb) : DE S (.BinOp a .Sub b pos) (eB dSub fa fb) := de_op (fun X h => op_sub) r2k_sub ha hb
theorem de_mul (ha : DE S a fa) (hb : DE S b fb) : DE S (.BinOp a .Mult b pos) (eB dMul fa fb) := de_op (fun X h => op_mulU) r2k_mul ha hb
theorem de_fdiv (ha : DE S a fa) (hb : DE S b fb) : DE S (.BinOp a .FloorDiv b pos) (eB dFdiv fa fb) := de_op (fun X h => op_fdivN) r2k_fdiv ha hb
theorem de_mod (ha : DE S a fa) (hb : DE S b fb) : DE S (.BinOp a .Mod b pos) (eB dMod fa fb) := de_op (fun X h => op_modN) r2k_mod ha hb
theorem de_pow (ha : DE S a fa) (hb : DE S b fb) : DE S (.BinOp a .Pow b pos) (eB dPow fa fb) := de_op (fun X h => op_pow) r2k_pow ha hb
theorem de_neg (ha : DE S a fa) : DE S (.UnaryOp .USub a pos) (eU dNeg fa) := de_un (fun X h => un_neg) r1k_neg ha
end

/-! ### data as the library's data; == -/
mutual
def D.py : D → Option PyData
  | .non => some .none
  | .bl b => some (.bool b)
  | .int i => some (.int i)
  | .str x => some (.str x)
  | .lst xs => (pyL xs).map .list
  | .tup xs => (pyL xs).map .tuple
  | .dct _ => none
  | .scr _ => none
  | .typ _ => none
def pyL : List D → Option (List PyData)
  | [] => some []
  | d :: ds => match D.py d, pyL ds with
    | some p, some ps => some (p :: ps)
    | _, _ => none
end
mutual
theorem Rp.dp {K : PySem.W.Frag} {F H : Hp} (e : Same F H) : ∀ {v : V} {d : D} {p : PyData}, Rp K F v d → d.py = some p → Dp K H v p
  | _, .non, _, r, h => by cases r; cases h; exact .non
  | _, .bl b, _, r, h => by cases r; cases h; exact .bl b
  | _, .int i, _, r, h => by cases r; cases h; exact .int i
  | _, .str x, _, r, h => by cases r; cases h; exact .str x
  | _, .lst xs, p, r, h => by
    cases r with
    | lst ha ra =>
      unfold D.py at h
      cases q : pyL xs with
      | none => rw [q] at h; cases h
      | some ps => rw [q] at h; cases h; exact .lst (SqL.of (e _ _ ha)) (RpL.dp e ra q)
  | _, .tup xs, p, r, h => by
    cases r with
    | tup ha ra =>
      unfold D.py at h
      cases q : pyL xs with
      | none => rw [q] at h; cases h
      | some ps => rw [q] at h; cases h; exact .tup (sqT_ext e ha) (RpL.dp e ra q)
  | _, .dct _, _, _, h => by unfold D.py at h; cases h
  | _, .scr _, _, _, h => by unfold D.py at h; cases h
  | _, .typ _, _, _, h => by unfold D.py at h; cases h
theorem RpL.dp {K : PySem.W.Frag} {F H : Hp} (e : Same F H) : ∀ {v : List V} {d : List D} {p : List PyData}, RpL K F v d → pyL d = some p → DpAll K H v p
  | _, [], _, r, h => by
    cases r
    unfold pyL at h
    cases h
    exact .nil
  | _, d :: ds, p, r, h => by
    cases r with
    | cons r1 r2 =>
      unfold pyL at h
      cases q : d.py with
      | none => rw [q] at h; cases h
      | some p1 =>
        cases q2 : pyL ds with
        | none => rw [q, q2] at h; cases h
        | some ps => rw [q, q2] at h; cases h; exact .cons (Rp.dp e r1 q) (RpL.dp e r2 q2)
end
mutual
/-- Python's == of data (True is 1) -/
def D.eqv : D → D → Bool
  | .non, .non => true
  | .bl a, .bl b => a == b
  | .bl a, .int j => (if a then 1 else 0) == j
  | .int i, .bl b => i == (if b then 1 else 0)
  | .int i, .int j => i == j
  | .str x, .str y => x == y
  | .lst xs, .lst ys => eqvL xs ys
  | .tup xs, .tup ys => eqvL xs ys
  | _, _ => false
def eqvL : List D → List D → Bool
  | [], [] => true
  | x :: xs, y :: ys => D.eqv x y && eqvL xs ys
  | _, _ => false
end
mutual
theorem D.eqv_py : ∀ {a b : D} {p q : PyData}, a.py = some p → b.py = some q → D.eqv a b = PyData.eqv p q
  | .non, b, p, q, h1, h2 => by
    unfold D.py at h1
    cases h1
    cases b <;> unfold D.py at h2 <;> (first | (cases h2; unfold D.eqv PyData.eqv; rfl) | (rename_i zs; cases e : pyL zs <;> rw [e] at h2 <;> cases h2 <;> unfold D.eqv PyData.eqv <;> rfl) | cases h2)
  | .bl x, b, p, q, h1, h2 => by
    unfold D.py at h1
    cases h1
    cases b <;> unfold D.py at h2 <;> (first | (cases h2; unfold D.eqv PyData.eqv; rfl) | (rename_i zs; cases e : pyL zs <;> rw [e] at h2 <;> cases h2 <;> unfold D.eqv PyData.eqv <;> rfl) | cases h2)
  | .int x, b, p, q, h1, h2 => by
    unfold D.py at h1
    cases h1
    cases b <;> unfold D.py at h2 <;> (first | (cases h2; unfold D.eqv PyData.eqv; rfl) | (rename_i zs; cases e : pyL zs <;> rw [e] at h2 <;> cases h2 <;> unfold D.eqv PyData.eqv <;> rfl) | cases h2)
  | .str x, b, p, q, h1, h2 => by
    unfold D.py at h1
    cases h1
    cases b <;> unfold D.py at h2 <;> (first | (cases h2; unfold D.eqv PyData.eqv; rfl) | (rename_i zs; cases e : pyL zs <;> rw [e] at h2 <;> cases h2 <;> unfold D.eqv PyData.eqv <;> rfl) | cases h2)
  | .lst xs, b, p, q, h1, h2 => by
    unfold D.py at h1
    cases e1 : pyL xs with
    | none => rw [e1] at h1; cases h1
    | some ps =>
      rw [e1] at h1
      cases h1
      cases b with
      | lst ys =>
        unfold D.py at h2
        cases e2 : pyL ys with
        | none => rw [e2] at h2; cases h2
        | some qs =>
          rw [e2] at h2
          cases h2
          unfold D.eqv PyData.eqv
          exact eqvL_py e1 e2
      | tup ys =>
        unfold D.py at h2
        cases e2 : pyL ys with
        | none => rw [e2] at h2; cases h2
        | some qs =>
          rw [e2] at h2
          cases h2
          unfold D.eqv PyData.eqv
          rfl
      | _ => unfold D.py at h2; cases h2 <;> (unfold D.eqv PyData.eqv; rfl)
  | .tup xs, b, p, q, h1, h2 => by
    unfold D.py at h1
    cases e1 : pyL xs with
    | none => rw [e1] at h1; cases h1
    | some ps =>
      rw [e1] at h1
      cases h1
      cases b with
      | tup ys =>
        unfold D.py at h2
        cases e2 : pyL ys with
        | none => rw [e2] at h2; cases h2
        | some qs =>
          rw [e2] at h2
          cases h2
          unfold D.eqv PyData.eqv
          exact eqvL_py e1 e2
      | lst ys =>
        unfold D.py at h2
        cases e2 : pyL ys with
        | none => rw [e2] at h2; cases h2
        | some qs =>
          rw [e2] at h2
          cases h2
          unfold D.eqv PyData.eqv
          rfl
      | _ => unfold D.py at h2; cases h2 <;> (unfold D.eqv PyData.eqv; rfl)
  | .dct _, _, _, _, h1, _ => by unfold D.py at h1; cases h1
  | .scr _, _, _, _, h1, _ => by unfold D.py at h1; cases h1
  | .typ _, _, _, _, h1, _ => by unfold D.py at h1; cases h1
theorem eqvL_py : ∀ {a b : List D} {p q : List PyData}, pyL a = some p → pyL b = some q → eqvL a b = PyData.eqvAll p q
  | [], [], p, q, h1, h2 => by
    unfold pyL at h1 h2
    cases h1
    cases h2
    unfold eqvL PyData.eqvAll
    rfl
  | [], y :: ys, p, q, h1, h2 => by
    unfold pyL at h1 h2
    cases h1
    split at h2
    · cases h2
      unfold eqvL PyData.eqvAll
      rfl
    · cases h2
  | x :: xs, [], p, q, h1, h2 => by
    unfold pyL at h1 h2
    cases h2
    split at h1
    · cases h1
      unfold eqvL PyData.eqvAll
      rfl
    · cases h1
  | x :: xs, y :: ys, p, q, h1, h2 => by
    unfold pyL at h1 h2
    split at h1
    · rename_i e1 e2
      cases h1
      split at h2
      · rename_i e3 e4
        cases h2
        unfold eqvL PyData.eqvAll
        rw [D.eqv_py e1 e3, eqvL_py e2 e4]
      · cases h2
    · cases h1
end
def D.shp (d : D) : Bool := match d.py with
  | some p => SeqAt.shaped p
  | none => false
def D.flat : D → Bool
  | .non => true
  | .bl _ => true
  | .int _ => true
  | .str _ => true
  | _ => false
/-- scalars of which == needs no look at a size -/
def scalD : D → D → Bool
  | .int _, .bl _ => false
  | .bl _, .int _ => false
  | a, b => a.flat && b.flat
def dEq (neg : Bool) (x y : D) : Option Sl := if scalD x y || (x.shp && y.shp) then some (.im (.bl (if neg then !D.eqv x y else D.eqv x y))) else none
theorem scal_vw {K : PySem.W.Frag} {F H : Hp} {x y : V} {a b : D} (h : scalD a b = true) (vx : Vw K F H x a) (vy : Vw K F H y b) : scal x y = true ∧ decide (x = y) = D.eqv a b := by
  cases vx <;> cases vy <;> simp_all [scalD, D.flat, scal, D.eqv]
  all_goals first | (rw [Bool.eq_iff_iff]; simp) | skip
theorem shp_dp {K : PySem.W.Frag} {F H : Hp} {x : V} {a : D} (e : Same F H) (h : a.shp = true) (vx : Vw K F H x a) : ∃ p, a.py = some p ∧ SeqAt.shaped p = true ∧ Dp K H x p := by
  unfold D.shp at h
  split at h
  · rename_i p hp
    exact ⟨p, hp, h, Rp.dp (Same.refl _) (vx.rp e) hp⟩
  · cases h
theorem r2k_eq {K : PySem.W.Frag} : R2K K (fun x y H Q => rEq x y H Q ∨ rEqD K x y H Q) (dEq false) := by
  intro x y dx dy F H s Q e vx vy hg ro
  unfold dEq at hg
  split at hg
  · rename_i hc
    cases hg
    rcases Bool.or_eq_true _ _ |>.mp hc with h | h
    · obtain ⟨h1, h2⟩ := scal_vw h vx vy
      exact .inl ⟨h1, by rw [h2]; exact ro.1 _ (.bl _)⟩
    · obtain ⟨h1, h2⟩ := Bool.and_eq_true _ _ |>.mp h
      obtain ⟨p, hp, sp, dp⟩ := shp_dp e h1 vx
      obtain ⟨q, hq, sq, dq⟩ := shp_dp e h2 vy
      exact .inr ⟨p, q, dp, dq, sp, sq, by rw [← D.eqv_py hp hq]; exact ro.1 _ (.bl _)⟩
  · cases hg
theorem r2k_ne {K : PySem.W.Frag} : R2K K (fun x y H Q => rNe x y H Q ∨ rNeD K x y H Q) (dEq true) := by
  intro x y dx dy F H s Q e vx vy hg ro
  unfold dEq at hg
  split at hg
  · rename_i hc
    cases hg
    rcases Bool.or_eq_true _ _ |>.mp hc with h | h
    · obtain ⟨h1, h2⟩ := scal_vw h vx vy
      exact .inl ⟨h1, by rw [h2]; exact ro.1 _ (.bl _)⟩
    · obtain ⟨h1, h2⟩ := Bool.and_eq_true _ _ |>.mp h
      obtain ⟨p, hp, sp, dp⟩ := shp_dp e h1 vx
      obtain ⟨q, hq, sq, dq⟩ := shp_dp e h2 vy
      exact .inr ⟨p, q, dp, dq, sp, sq, by rw [← D.eqv_py hp hq]; exact ro.1 _ (.bl _)⟩
  · cases hg
def dCmpI (p : Int → Int → Bool) : D → D → Option Sl
  | .int a, .int b => some (.im (.bl (p a b)))
  | _, _ => none
theorem r2k_cmpI {K : PySem.W.Frag} {p : Int → Int → Bool} : R2K K (rI0 fun i j => .bl (p i j)) (dCmpI p) := by
  intro x y dx dy F H s Q e vx vy hg ro
  unfold dCmpI at hg
  split at hg
  · cases hg
    obtain rfl := vx.int_inv
    obtain rfl := vy.int_inv
    exact ⟨_, _, rfl, rfl, ro.1 _ (.bl _)⟩
  · cases hg
abbrev dLt := dCmpI fun i j => decide (i < j)
abbrev dLe := dCmpI fun i j => decide (i ≤ j)
abbrev dGt := dCmpI fun i j => decide (j < i)
abbrev dGe := dCmpI fun i j => decide (j ≤ i)
def D.isN : D → Bool
  | .non => true
  | _ => false
def dIsN (neg : Bool) : D → D → Option Sl
  | a, .non => some (.im (.bl (if neg then !a.isN else a.isN)))
  | _, _ => none
theorem isN_vw {K : PySem.W.Frag} {F H : Hp} {x : V} {a : D} (vx : Vw K F H x a) : decide (x = V.non) = a.isN := by
  cases vx <;> simp [D.isN]
theorem r2k_isN {K : PySem.W.Frag} : R2K K (fun x y H Q => y = .non ∧ Q (.bl (decide (x = .non))) H) (dIsN false) := by
  intro x y dx dy F H s Q e vx vy hg ro
  unfold dIsN at hg
  split at hg
  · cases hg
    exact ⟨vy.non_inv, by rw [isN_vw vx]; exact ro.1 _ (.bl _)⟩
  · cases hg
theorem r2k_notN {K : PySem.W.Frag} : R2K K (fun x y H Q => y = .non ∧ Q (.bl (!decide (x = .non))) H) (dIsN true) := by
  intro x y dx dy F H s Q e vx vy hg ro
  unfold dIsN at hg
  split at hg
  · cases hg
    exact ⟨vy.non_inv, by rw [isN_vw vx]; exact ro.1 _ (.bl _)⟩
  · cases hg
section
variable {S : Sc} {a b c : Expr} {fa fb fc : EF} {pos : Pos}
theorem ho_eq : ∀ X, Stc S X → OpR X (compareOp .Eq) (fun x y H Q => rEq x y H Q ∨ rEqD S.G.K x y H Q) := fun X h => by rw [← h.K]; exact op_eq.or (op_eqD h.room.units)
theorem ho_ne : ∀ X, Stc S X → OpR X (compareOp .NotEq) (fun x y H Q => rNe x y H Q ∨ rNeD S.G.K x y H Q) := fun X h => by rw [← h.K]; exact op_ne.or (op_neD h.room.units)
theorem de_eq (ha : DE S a fa) (hb : DE S b fb) : DE S (.Compare a [.Eq] [b] pos) (eB (dEq false) fa fb) := de_cmp ho_eq r2k_eq ha hb (nomark _)
theorem dt_eq (ha : DE S a fa) (hb : DE S b fb) : DT S (.Compare a [.Eq] [b] pos) (tB1 (eB (dEq false) fa fb)) := dt_cmp ho_eq r2k_eq ha hb (nomark _)
theorem de_ne (ha : DE S a fa) (hb : DE S b fb) : DE S (.Compare a [.NotEq] [b] pos) (eB (dEq true) fa fb) := de_cmp ho_ne r2k_ne ha hb (nomark _)
theorem dt_ne (ha : DE S a fa) (hb : DE S b fb) : DT S (.Compare a [.NotEq] [b] pos) (tB1 (eB (dEq true) fa fb)) := dt_cmp ho_ne r2k_ne ha hb (nomark _)
theorem de_lt (ha : DE S a fa) (hb : DE S b fb) : DE S (.Compare a [.Lt] [b] pos) (eB dLt fa fb) := de_cmp (fun _ _ => op_lt) r2k_cmpI ha hb (nomark _)
theorem dt_lt (ha : DE S a fa) (hb : DE S b fb) : DT S (.Compare a [.Lt] [b] pos) (tB1 (eB dLt fa fb)) := dt_cmp (fun _ _ => op_lt) r2k_cmpI ha hb (nomark _)
theorem de_le (ha : DE S a fa) (hb : DE S b fb) : DE S (.Compare a [.LtE] [b] pos) (eB dLe fa fb) := de_cmp (fun _ _ => op_le) r2k_cmpI ha hb (nomark _)
theorem dt_le (ha : DE S a fa) (hb : DE S b fb) : DT S (.Compare a [.LtE] [b] pos) (tB1 (eB dLe fa fb)) := dt_cmp (fun _ _ => op_le) r2k_cmpI ha hb (nomark _)
theorem de_gt (ha : DE S a fa) (hb : DE S b fb) : DE S (.Compare a [.Gt] [b] pos) (eB dGt fa fb) := de_cmp (fun _ _ => op_gt) r2k_cmpI ha hb (nomark _)
theorem dt_gt (ha : DE S a fa) (hb : DE S b fb) : DT S (.Compare a [.Gt] [b] pos) (tB1 (eB dGt fa fb)) := dt_cmp (fun _ _ => op_gt) r2k_cmpI ha hb (nomark _)
theorem de_ge (ha : DE S a fa) (hb : DE S b fb) : DE S (.Compare a [.GtE] [b] pos) (eB dGe fa fb) := de_cmp (fun _ _ => op_ge) r2k_cmpI ha hb (nomark _)
theorem dt_ge (ha : DE S a fa) (hb : DE S b fb) : DT S (.Compare a [.GtE] [b] pos) (tB1 (eB dGe fa fb)) := dt_cmp (fun _ _ => op_ge) r2k_cmpI ha hb (nomark _)
theorem de_is (ha : DE S a fa) (hb : DE S b fb) : DE S (.Compare a [.Is] [b] pos) (eB (dIsN false) fa fb) := de_cmp (fun _ _ => op_isN) r2k_isN ha hb (nomark _)
theorem dt_is (ha : DE S a fa) (hb : DE S b fb) : DT S (.Compare a [.Is] [b] pos) (tB1 (eB (dIsN false) fa fb)) := dt_cmp (fun _ _ => op_isN) r2k_isN ha hb (nomark _)
theorem de_isnot (ha : DE S a fa) (hb : DE S b fb) : DE S (.Compare a [.IsNot] [b] pos) (eB (dIsN true) fa fb) := de_cmp (fun _ _ => op_notN) r2k_notN ha hb (nomark _)
theorem dt_isnot (ha : DE S a fa) (hb : DE S b fb) : DT S (.Compare a [.IsNot] [b] pos) (tB1 (eB (dIsN true) fa fb)) := dt_cmp (fun _ _ => op_notN) r2k_notN ha hb (nomark _)
theorem de_lele (ha : DE S a fa) (hb : DE S b fb) (hc : DE S c fc) (hm : lastMarks [.LtE, .LtE] [b, c] = false := by with_unfolding_all rfl) : DE S (.Compare a [.LtE, .LtE] [b, c] pos) (eCh dLe dLe fa fb fc) := de_chain (fun _ _ => op_le) r2k_cmpI (fun _ _ => op_le) r2k_cmpI ha hb hc hm
theorem dt_lele (ha : DE S a fa) (hb : DE S b fb) (hc : DE S c fc) (hm : lastMarks [.LtE, .LtE] [b, c] = false := by with_unfolding_all rfl) : DT S (.Compare a [.LtE, .LtE] [b, c] pos) (tB1 (eCh dLe dLe fa fb fc)) := dt_chain (fun _ _ => op_le) r2k_cmpI (fun _ _ => op_le) r2k_cmpI ha hb hc hm
theorem de_lelt (ha : DE S a fa) (hb : DE S b fb) (hc : DE S c fc) (hm : lastMarks [.LtE, .Lt] [b, c] = false := by with_unfolding_all rfl) : DE S (.Compare a [.LtE, .Lt] [b, c] pos) (eCh dLe dLt fa fb fc) := de_chain (fun _ _ => op_le) r2k_cmpI (fun _ _ => op_lt) r2k_cmpI ha hb hc hm
theorem dt_lelt (ha : DE S a fa) (hb : DE S b fb) (hc : DE S c fc) (hm : lastMarks [.LtE, .Lt] [b, c] = false := by with_unfolding_all rfl) : DT S (.Compare a [.LtE, .Lt] [b, c] pos) (tB1 (eCh dLe dLt fa fb fc)) := dt_chain (fun _ _ => op_le) r2k_cmpI (fun _ _ => op_lt) r2k_cmpI ha hb hc hm
theorem de_eqle (ha : DE S a fa) (hb : DE S b fb) (hc : DE S c fc) (hm : lastMarks [.Eq, .LtE] [b, c] = false := by with_unfolding_all rfl) : DE S (.Compare a [.Eq, .LtE] [b, c] pos) (eCh (dEq false) dLe fa fb fc) := de_chain ho_eq r2k_eq (fun _ _ => op_le) r2k_cmpI ha hb hc hm
theorem dt_eqle (ha : DE S a fa) (hb : DE S b fb) (hc : DE S c fc) (hm : lastMarks [.Eq, .LtE] [b, c] = false := by with_unfolding_all rfl) : DT S (.Compare a [.Eq, .LtE] [b, c] pos) (tB1 (eCh (dEq false) dLe fa fb fc)) := dt_chain ho_eq r2k_eq (fun _ _ => op_le) r2k_cmpI ha hb hc hm
end
end DL

set_option Elab.async false
set_option linter.all false
set_option maxRecDepth 100000
set_option maxHeartbeats 4000000
/-! DLOps2: in, subscripts, slices, built-in functions over data. -/
namespace DL
open PySem PySem.Spec PyProof.Rows L2

theorem PE.or {X : Cx} {e : Expr} {t u : TE} (h1 : PE X e t) (h2 : PE X e u) : PE X e (fun σ H Q => t σ H Q ∨ u σ H Q) :=
  ⟨fun pins s σ H Q I h => h.elim (h1.run pins s σ H Q I) (h2.run pins s σ H Q I)⟩

/-! ### keys -/
def mkKey : D → Option Key
  | .int i => some (.inl i)
  | .str x => some (.inr x)
  | _ => none
theorem mkKey_v {K : PySem.W.Frag} {F H : Hp} {v : V} {d : D} {k : Key} (h : mkKey d = some k) (r : Vw K F H v d) : v = kV k := by
  unfold mkKey at h
  split at h
  · cases h; exact r.int_inv
  · cases h; exact r.str_inv
  · cases h
def lookD (kvs : List (Key × D)) (k : Key) : Option D := match kvs with
  | [] => none
  | (k', d) :: r => if k' = k then some d else lookD r k
def putD (kvs : List (Key × D)) (k : Key) (d : D) : List (Key × D) := match kvs with
  | [] => [(k, d)]
  | (k', d') :: r => if k' = k then (k', d) :: r.map (fun kv => if kv.1 = k then (kv.1, d) else kv) else (k', d') :: putD r k d
theorem lookD_rp {K : PySem.W.Frag} {F : Hp} {k : Key} : ∀ {vs : List (Key × V)} {ds : List (Key × D)}, RpK K F vs ds → (∀ d, lookD ds k = some d → ∃ v, valV vs k = some v ∧ Rp K F v d) ∧ (lookD ds k = none → valV vs k = none)
  | _, _, .nil => ⟨fun d h => (by cases h), fun _ => rfl⟩
  | _, _, .cons (k := k') (v := v) r t => by
    obtain ⟨h1, h2⟩ := lookD_rp (k := k) t
    unfold lookD
    by_cases e : k' = k
    · rw [if_pos e, valV_pos (p := (k', v)) e]
      exact ⟨fun d h => (by cases h; exact ⟨_, rfl, r⟩), fun h => (by cases h)⟩
    · rw [if_neg e, valV_neg (p := (k', v)) e]
      exact ⟨h1, h2⟩
theorem lookD_some {K : PySem.W.Frag} {F : Hp} {k : Key} {vs : List (Key × V)} {ds : List (Key × D)} (r : RpK K F vs ds) : (valV vs k).isSome = (lookD ds k).isSome := by
  obtain ⟨h1, h2⟩ := lookD_rp (k := k) r
  cases e : lookD ds k with
  | none => rw [h2 e]; rfl
  | some d => obtain ⟨v, h3, _⟩ := h1 d e; rw [h3]; rfl
theorem rpK_map {K : PySem.W.Frag} {F : Hp} {k : Key} {v : V} {d : D} (r : Rp K F v d) : ∀ {vs : List (Key × V)} {ds : List (Key × D)}, RpK K F vs ds → RpK K F (vs.map fun kv => if kv.1 = k then (kv.1, v) else kv) (ds.map fun kv => if kv.1 = k then (kv.1, d) else kv)
  | _, _, .nil => .nil
  | _, _, .cons (k := k') r' t => by
    rw [List.map_cons, List.map_cons]
    by_cases e : k' = k
    · rw [if_pos e, if_pos e]
      exact .cons r (rpK_map r t)
    · rw [if_neg e, if_neg e]
      exact .cons r' (rpK_map r t)
theorem map_off {α : Type} {k : Key} {v : α} : ∀ {vs : List (Key × α)}, (vs.any fun kv => decide (kv.1 = k)) = false → (vs.map fun kv => if kv.1 = k then (kv.1, v) else kv) = vs
  | [], _ => rfl
  | (k', w) :: r, h => by
    rw [List.any_cons, Bool.or_eq_false_iff] at h
    have : ¬ k' = k := of_decide_eq_false h.1
    rw [List.map_cons, if_neg this, map_off h.2]
theorem putD_rp {K : PySem.W.Frag} {F : Hp} {k : Key} {v : V} {d : D} (r : Rp K F v d) : ∀ {vs : List (Key × V)} {ds : List (Key × D)}, RpK K F vs ds → RpK K F (putK vs k v) (putD ds k d)
  | _, _, .nil => by
    unfold putK putD
    rw [List.any_nil, if_neg Bool.false_ne_true]
    exact .cons r .nil
  | _, _, .cons (k := k') (v := v') (vs := vs) r' t => by
    have ih := putD_rp (k := k) r t
    unfold putD
    by_cases e : k' = k
    · rw [if_pos e]
      unfold putK
      rw [List.any_cons, decide_eq_true e, Bool.true_or, if_pos rfl, List.map_cons, if_pos e]
      exact .cons r (rpK_map r t)
    · rw [if_neg e]
      unfold putK at ih ⊢
      rw [List.any_cons, decide_eq_false e, Bool.false_or]
      cases q : (vs.any fun kv => decide (kv.1 = k)) with
      | true =>
        rw [q, if_pos rfl] at ih
        rw [if_pos rfl, List.map_cons, if_neg e]
        exact .cons r' ih
      | false =>
        rw [q, if_neg Bool.false_ne_true] at ih
        rw [if_neg Bool.false_ne_true, List.cons_append]
        exact .cons r' ih

/-! ### in -/
def one? (x : Str) : Option Nat := match x.cps.toList with
  | [c] => some c
  | _ => none
theorem one?_eq {x : Str} {c : Nat} (h : one? x = some c) : x = ⟨#[c]⟩ := by
  unfold one? at h
  split at h
  · rename_i d hd
    cases h
    cases x with
    | mk cps =>
      congr 1
      apply Array.ext'
      exact hd
  · cases h
def seqIn (x : D) (ys : List D) : Option Bool := if (x.flat && ys.all D.flat) || (x.shp && (D.lst ys).shp) then some (ys.any fun y => D.eqv y x) else none
def dIn (neg : Bool) (x y : D) : Option Sl := match y with
  | .lst ys => (seqIn x ys).map fun b => .im (.bl (if neg then !b else b))
  | .tup ys => (seqIn x ys).map fun b => .im (.bl (if neg then !b else b))
  | .dct kvs => (mkKey x).map fun k => .im (.bl (if neg then !(lookD kvs k).isSome else (lookD kvs k).isSome))
  | .str z => match x with
    | .str s => (one? s).map fun c => .im (.bl (if neg then !decide (c ∈ z.cps.toList) else decide (c ∈ z.cps.toList)))
    | _ => none
  | _ => none
def rInDT (K : PySem.W.Frag) (neg : Bool) : R2 := fun x y H Q => ∃ d ds, Dp K H x d ∧ Dp K H y (.tuple ds) ∧ SeqAt.shaped d = true ∧ SeqAt.shaped (.tuple ds) = true ∧ Q (.bl (if neg then !ds.any fun z => PyData.eqv z d else ds.any fun z => PyData.eqv z d)) H
theorem op_inDT {X : Cx} (hu : X.A.units + 65 < cLine) : OpR X (compareOp .In) (rInDT X.K false) := by
  intro pins s σ H x y v u Q I rx ry h
  obtain ⟨d, ds, hd, he, sd, se, q⟩ := h
  obtain ⟨as, r1⟩ := Dp.reads I d x v hd rx
  obtain ⟨bs, r2⟩ := Dp.reads I (.tuple ds) y u he ry
  exact SeqAt.in_tuple_reads r2 r1 (SeqAt.canLay_of_shaped se) (SeqAt.canLay_of_shaped sd) (room_in_shaped sd hu) ⟨.bl _, H, I, rfl, q⟩
theorem op_notInDT {X : Cx} (hu : X.A.units + 65 < cLine) : OpR X (compareOp .NotIn) (rInDT X.K true) := by
  intro pins s σ H x y v u Q I rx ry h
  obtain ⟨d, ds, hd, he, sd, se, q⟩ := h
  obtain ⟨as, r1⟩ := Dp.reads I d x v hd rx
  obtain ⟨bs, r2⟩ := Dp.reads I (.tuple ds) y u he ry
  exact SeqAt.notIn_tuple_reads r2 r1 (SeqAt.canLay_of_shaped se) (SeqAt.canLay_of_shaped sd) (room_in_shaped sd hu) ⟨.bl _, H, I, rfl, q⟩
def rInSig (neg : Bool) : R2 := fun x y H Q => ∃ (c : Nat) (z : Str), x = .str ⟨#[c]⟩ ∧ y = .str z ∧ Q (.bl (if neg then !decide (c ∈ z.cps.toList) else decide (c ∈ z.cps.toList))) H
def rInDL (K : PySem.W.Frag) (neg : Bool) : R2 := fun x y H Q => ∃ d ds, Dp K H x d ∧ Dp K H y (.list ds) ∧ SeqAt.shaped d = true ∧ SeqAt.shaped (.list ds) = true ∧ Q (.bl (if neg then !ds.any fun z => PyData.eqv z d else ds.any fun z => PyData.eqv z d)) H
def rInU (K : PySem.W.Frag) (neg : Bool) : R2 := fun x y H Q => rIn K neg x y H Q ∨ rInDL K neg x y H Q ∨ rInDT K neg x y H Q ∨ rInSig neg x y H Q
theorem op_inU {X : Cx} (hu : X.A.units + 65 < cLine) : OpR X (compareOp .In) (rInU X.K false) := op_in_seq.or (OpR.or (show OpR X (compareOp .In) (rInDL X.K false) from op_inD hu) ((op_inDT hu).or (show OpR X (compareOp .In) (rInSig false) from op_in_sign)))
theorem op_notInU {X : Cx} (hu : X.A.units + 65 < cLine) : OpR X (compareOp .NotIn) (rInU X.K true) := op_notIn_seq.or (OpR.or (show OpR X (compareOp .NotIn) (rInDL X.K true) from op_notInD hu) ((op_notInDT hu).or (show OpR X (compareOp .NotIn) (rInSig true) from op_notIn_sign)))
theorem flat_vw {K : PySem.W.Frag} {F H : Hp} {x : V} {a : D} (h : a.flat = true) (vx : Vw K F H x a) : flatV x = true := by
  cases vx <;> simp_all [D.flat, flatV]
theorem eqV_vw {K : PySem.W.Frag} {F H : Hp} {x y : V} {a b : D} (h1 : a.flat = true) (h2 : b.flat = true) (vx : Vw K F H x a) (vy : Vw K F H y b) : eqV x y = D.eqv a b := by
  cases vx <;> cases vy <;> simp_all [D.flat, eqV, D.eqv]
theorem flats_vw {K : PySem.W.Frag} {F H : Hp} {x : V} {a : D} (e : Same F H) (h1 : a.flat = true) (vx : Vw K F H x a) : ∀ {us : List V} {ys : List D}, RpL K F us ys → ys.all D.flat = true → us.all flatV = true ∧ inV x us = ys.any fun y => D.eqv y a
  | _, _, .nil, _ => ⟨rfl, rfl⟩
  | _, _, .cons r t, h => by
    rw [List.all_cons, Bool.and_eq_true] at h
    obtain ⟨i1, i2⟩ := flats_vw e h1 vx t h.2
    refine ⟨by rw [List.all_cons, i1, flat_vw h.1 (r.vw e)]; rfl, ?_⟩
    unfold inV at i2 ⊢
    rw [List.any_cons, List.any_cons, i2, eqV_vw h.1 h1 (r.vw e) vx]
theorem any_py {p : PyData} {x : D} (hx : x.py = some p) : ∀ {ys : List D} {ps : List PyData}, pyL ys = some ps → (ys.any fun y => D.eqv y x) = ps.any fun z => PyData.eqv z p
  | [], _, h => by unfold pyL at h; cases h; rfl
  | y :: ys, _, h => by
    unfold pyL at h
    split at h
    · rename_i e1 e2
      cases h
      rw [List.any_cons, List.any_cons, any_py hx e2, D.eqv_py e1 hx]
    · cases h
theorem shp_lst {ys : List D} (h : (D.lst ys).shp = true) : ∃ ps, pyL ys = some ps ∧ SeqAt.shaped (.list ps) = true ∧ SeqAt.shaped (.tuple ps) = true := by
  unfold D.shp D.py at h
  cases e : pyL ys with
  | none => rw [e] at h; cases h
  | some ps => rw [e] at h; exact ⟨ps, rfl, h, h⟩
theorem r2k_in {K : PySem.W.Frag} {neg : Bool} : ∀ (x y : V) (dx dy : D) (F H : Hp) (s : Sl) (Q : VK), Same F H → Vw K F H x dx → Vw K F H y dy → dIn neg dx dy = some s → ROut K F H Q s → (∀ kvs, dy ≠ .dct kvs) → rInU K neg x y H Q := by
  intro x y dx dy F H s Q e vx vy hg ro nd
  unfold dIn at hg
  have seq : ∀ {p : Addr} {us : List V} {ys : List D} {b : Bool}, (SqL K H p us ∨ SqT K H p us) → RpL K F us ys → y = .ref p → seqIn dx ys = some b → s = .im (.bl (if neg then !b else b)) → (SqT K H p us → rInU K neg x y H Q) ∧ (H p = some (.lst us) → rInU K neg x y H Q) := by
    intro p us ys b hp ru ey hs es
    subst ey
    subst es
    unfold seqIn at hs
    split at hs
    · rename_i hc
      cases hs
      rcases Bool.or_eq_true _ _ |>.mp hc with h | h
      · obtain ⟨h1, h2⟩ := Bool.and_eq_true _ _ |>.mp h
        obtain ⟨i1, i2⟩ := flats_vw e h1 vx ru h2
        have : rInU K neg x (.ref p) H Q := .inl ⟨p, us, rfl, hp, flat_vw h1 vx, i1, by rw [i2]; exact ro.1 _ (.bl _)⟩
        exact ⟨fun _ => this, fun _ => this⟩
      · obtain ⟨h1, h2⟩ := Bool.and_eq_true _ _ |>.mp h
        obtain ⟨q, hq, sq, dq⟩ := shp_dp e h1 vx
        obtain ⟨ps, hps, s1, s2⟩ := shp_lst h2
        exact ⟨fun ht => .inr (.inr (.inl ⟨q, ps, dq, .tup ht (RpL.dp e ru hps), sq, s2, by rw [← any_py hq hps]; exact ro.1 _ (.bl _)⟩)),
          fun hl => .inr (.inl ⟨q, ps, dq, .lst (SqL.of hl) (RpL.dp e ru hps), sq, s1, by rw [← any_py hq hps]; exact ro.1 _ (.bl _)⟩)⟩
    · cases hs
  split at hg
  · rename_i ys
    obtain ⟨p, us, rfl, hp, ru⟩ := vy.lst_inv
    cases hb : seqIn dx ys with
    | none => rw [hb] at hg; cases hg
    | some b => rw [hb] at hg; cases hg; exact (seq (.inl (SqL.of hp)) ru rfl hb rfl).2 hp
  · rename_i ys
    obtain ⟨p, us, rfl, hp, ru⟩ := vy.tup_inv
    cases hb : seqIn dx ys with
    | none => rw [hb] at hg; cases hg
    | some b => rw [hb] at hg; cases hg; exact (seq (.inr (sqT_ext e hp)) ru rfl hb rfl).1 (sqT_ext e hp)
  · exact absurd rfl (nd _)
  · split at hg
    · rename_i z _ w'
      cases hc : one? w' with
      | none => rw [hc] at hg; cases hg
      | some c =>
        rw [hc] at hg
        cases hg
        obtain rfl := one?_eq hc
        exact .inr (.inr (.inr ⟨c, z, vx.str_inv, vy.str_inv, ro.1 _ (.bl _)⟩))
    · cases hg
  · cases hg
def tDInU (neg : Bool) (ty td : TE) : TE := fun σ H Q => ty σ H fun y H1 => td σ H1 fun x H2 => ∃ a o, x = .ref a ∧ DGet H2 a y o ∧ Q (.bl (if neg then !o.isSome else o.isSome)) H2
section
variable {S : Sc} {a b : Expr} {fa fb : EF} {pos : Pos}
theorem eok_in {K : PySem.W.Frag} {ta tb : TE} (neg : Bool) (ha : EOK K ta fa) (hb : EOK K tb fb) : EOK K (fun σ H Q => tOp (rInU K neg) ta tb σ H Q ∨ tDInU neg ta tb σ H Q) (eB (dIn neg) fa fb) := by
  intro σ F H O ρ s ρ' Q er hf k
  obtain ⟨x, ρ1, h1, h2⟩ := bnd_some hf
  obtain ⟨y, ρ2, h3, h4⟩ := bnd_some h2
  cases e : dIn neg x y with
  | none => rw [e] at h4; cases h4
  | some t =>
    rw [e] at h4
    cases h4
    by_cases hd : ∃ kvs, y = .dct kvs
    · obtain ⟨kvs, rfl⟩ := hd
      refine .inr (ha.fz σ F H O ρ x ρ1 _ er h1 fun v F1 H1 O1 tr1 er1 r1 => hb.fz σ F1 H1 O1 ρ1 _ _ _ er1 h3 fun u F2 H2 O2 tr2 er2 r2 => ?_)
      unfold dIn at e
      cases hk : mkKey x with
      | none => simp only [hk] at e; cases e
      | some key =>
        simp only [hk, Option.map_some] at e
        cases e
        obtain ⟨p, vs, rfl, hp, rk⟩ := r2.dct_inv
        have := mkKey_v hk (r1.vw er1.sw.ex)
        subst this
        refine ⟨p, _, rfl, DGet.k (er2.sw.ex _ _ hp), ?_⟩
        rw [lookD_some rk]
        exact k _ F2 H2 O2 (tr1.trans tr2) er2 (.bl _) fun z => by cases z
    · refine .inl (ha.fz σ F H O ρ x ρ1 _ er h1 fun v F1 H1 O1 tr1 er1 r1 => hb.fz σ F1 H1 O1 ρ1 _ _ _ er1 h3 fun u F2 H2 O2 tr2 er2 r2 => ?_)
      exact r2k_in v u x y F2 H2 _ Q er2.sw.ex ((r1.ext tr2.ex).vw er2.sw.ex) (r2.vw er2.sw.ex) e (rout_of (tr1.trans tr2) er2 k) fun kvs z => hd ⟨kvs, z⟩
theorem room65 {X : Cx} {k : Nat} (h : Room k X.A) : X.A.units + 65 < cLine := by have := h.un; omega
theorem pe_inU {X : Cx} {ta tb : TE} (h : Stc S X) (pa : PE X a ta) (pb : PE X b tb) (hm : behindInMarks .In b = false) : PE X (.Compare a [.In] [b] pos) (fun σ H Q => tOp (rInU S.G.K false) ta tb σ H Q ∨ tDInU false ta tb σ H Q) := by
  have h1 := pe_cmpR (pos := pos) (op_inU (room65 h.room)) pa pb hm
  rw [h.K] at h1
  exact PE.or h1 (pe_cmp (pc_din (hu_of h.room) pa pb) hm)
theorem pe_notInU {X : Cx} {ta tb : TE} (h : Stc S X) (pa : PE X a ta) (pb : PE X b tb) (hm : behindInMarks .NotIn b = false) : PE X (.Compare a [.NotIn] [b] pos) (fun σ H Q => tOp (rInU S.G.K true) ta tb σ H Q ∨ tDInU true ta tb σ H Q) := by
  have h1 := pe_cmpR (pos := pos) (op_notInU (room65 h.room)) pa pb hm
  rw [h.K] at h1
  exact PE.or h1 (pe_cmp (pc_dnotin (hu_of h.room) pa pb) hm)
theorem PT.or {X : Cx} {e : Expr} {t u : TT} (h1 : PT X e t) (h2 : PT X e u) : PT X e (fun σ H Q => t σ H Q ∨ u σ H Q) :=
  ⟨fun pins s σ H Q I h => h.elim (h1.run pins s σ H Q I) (h2.run pins s σ H Q I)⟩
theorem pt_inU {X : Cx} {ta tb : TE} (h : Stc S X) (pa : PE X a ta) (pb : PE X b tb) (hm : behindInMarks .In b = false) : PT X (.Compare a [.In] [b] pos) (tTest (fun σ H Q => tOp (rInU S.G.K false) ta tb σ H Q ∨ tDInU false ta tb σ H Q)) := by
  have h1 := pt_cmpR (pos := pos) (op_inU (room65 h.room)) pa pb hm
  rw [h.K] at h1
  exact PT.or h1 (pt_cmp (pc_din (hu_of h.room) pa pb) hm)
theorem pt_notInU {X : Cx} {ta tb : TE} (h : Stc S X) (pa : PE X a ta) (pb : PE X b tb) (hm : behindInMarks .NotIn b = false) : PT X (.Compare a [.NotIn] [b] pos) (tTest (fun σ H Q => tOp (rInU S.G.K true) ta tb σ H Q ∨ tDInU true ta tb σ H Q)) := by
  have h1 := pt_cmpR (pos := pos) (op_notInU (room65 h.room)) pa pb hm
  rw [h.K] at h1
  exact PT.or h1 (pt_cmp (pc_dnotin (hu_of h.room) pa pb) hm)
theorem de_in (ha : DE S a fa) (hb : DE S b fb) (hm : behindInMarks .In b = false := by rfl) : DE S (.Compare a [.In] [b] pos) (eB (dIn false) fa fb) := by
  obtain ⟨ta, pa, oa⟩ := ha
  obtain ⟨tb, pb, ob⟩ := hb
  exact ⟨_, fun X h => pe_inU h (pa X h) (pb X h) hm, eok_in false oa ob⟩
theorem de_notin (ha : DE S a fa) (hb : DE S b fb) (hm : behindInMarks .NotIn b = false := by rfl) : DE S (.Compare a [.NotIn] [b] pos) (eB (dIn true) fa fb) := by
  obtain ⟨ta, pa, oa⟩ := ha
  obtain ⟨tb, pb, ob⟩ := hb
  exact ⟨_, fun X h => pe_notInU h (pa X h) (pb X h) hm, eok_in true oa ob⟩
theorem dt_in (ha : DE S a fa) (hb : DE S b fb) (hm : behindInMarks .In b = false := by rfl) : DT S (.Compare a [.In] [b] pos) (tB1 (eB (dIn false) fa fb)) := by
  obtain ⟨ta, pa, oa⟩ := ha
  obtain ⟨tb, pb, ob⟩ := hb
  exact ⟨_, fun X h => (pt_inU h (pa X h) (pb X h) hm), tok_val (eok_in false oa ob)⟩
theorem dt_notin (ha : DE S a fa) (hb : DE S b fb) (hm : behindInMarks .NotIn b = false := by rfl) : DT S (.Compare a [.NotIn] [b] pos) (tB1 (eB (dIn true) fa fb)) := by
  obtain ⟨ta, pa, oa⟩ := ha
  obtain ⟨tb, pb, ob⟩ := hb
  exact ⟨_, fun X h => (pt_notInU h (pa X h) (pb X h) hm), tok_val (eok_in true oa ob)⟩
/-- x in y, y a slot that is not frozen by it -/
def slotD (ρ : En) (i : Nat) : Option D := match ρ[i]? with
  | some (some s) => some s.d
  | _ => none
def eInV (neg : Bool) (i : Nat) (fa : EF) : EF := bnd (eD fa) fun x ρ => match slotD ρ i with
  | none => none
  | some y => match dIn neg x y with
    | none => none
    | some s => some (s, ρ)
theorem slotD_at {K : PySem.W.Frag} {F H : Hp} {O : Own} {σ : L2.St} {ρ : En} {i : Nat} {d : D} (er : ER K F H O σ ρ) (h : slotD ρ i = some d) : ∃ v, σ[i]? = some (some v) ∧ Vw K F H v d := by
  unfold slotD at h
  split at h
  · rename_i s hs
    cases h
    obtain ⟨v, h1, h2⟩ := er.sl i s hs
    exact ⟨v, h1, h2.vw er.sw.ex⟩
  · cases h
theorem eok_inV {K : PySem.W.Frag} {ta : TE} (neg : Bool) (i : Nat) (ha : EOK K ta fa) : EOK K (fun σ H Q => tOp (rInU K neg) ta (tVar i) σ H Q ∨ tDInU neg ta (tVar i) σ H Q) (eInV neg i fa) := by
  intro σ F H O ρ s ρ' Q er hf k
  obtain ⟨x, ρ1, h1, h2⟩ := bnd_some hf
  split at h2
  · cases h2
  rename_i y hy
  split at h2
  · cases h2
  rename_i t e
  cases h2
  by_cases hd : ∃ kvs, y = .dct kvs
  · obtain ⟨kvs, rfl⟩ := hd
    refine .inr (ha.fz σ F H O ρ x _ _ er h1 fun v F1 H1 O1 tr1 er1 r1 => ?_)
    obtain ⟨u, hu, vw⟩ := slotD_at er1 hy
    refine ⟨u, hu, ?_⟩
    unfold dIn at e
    cases hk : mkKey x with
    | none => simp only [hk] at e; cases e
    | some key =>
      simp only [hk, Option.map_some] at e
      cases e
      obtain ⟨p, vs, rfl, hp, rk⟩ := vw.dct_inv
      have := mkKey_v hk (r1.vw er1.sw.ex)
      subst this
      refine ⟨p, _, rfl, DGet.k hp, ?_⟩
      rw [lookD_some rk]
      exact k _ F1 H1 O1 tr1 er1 (.bl _) fun z => by cases z
  · refine .inl (ha.fz σ F H O ρ x _ _ er h1 fun v F1 H1 O1 tr1 er1 r1 => ?_)
    obtain ⟨u, hu, vw⟩ := slotD_at er1 hy
    exact ⟨u, hu, r2k_in v u x y F1 H1 _ Q er1.sw.ex (r1.vw er1.sw.ex) vw e (rout_of tr1 er1 k) fun kvs z => hd ⟨kvs, z⟩⟩
/-- the slot of a name -/
structure NmV (S : Sc) (i : Nat) (x : Str) : Prop where
  hN : S.N[i]? = some x
  hv : S.sc.names.lookup x = some .local ∨ S.sc.names.lookup x = some .cell ∨ S.sc.names.lookup x = some .free
  hd : (x == ("__debug__" : Str)) = false
  hcd : (x == ("__classdict__" : Str)) = false
theorem NmV.pe {i : Nat} {x : Str} {p : Pos} {X : Cx} (n : NmV S i x) (h : Stc S X) : PE X (.Name x p) (tVar i) := pe_var (by rw [h.N]; exact n.hN) (by unfold Vis; rw [h.sc]; exact n.hv) n.hd n.hcd
theorem nm {i : Nat} {x : Str} (hN : S.N[i]? = some x := by rfl) (hv : S.sc.names.lookup x = some .local ∨ S.sc.names.lookup x = some .cell ∨ S.sc.names.lookup x = some .free := by first | exact Or.inl rfl | exact Or.inr (Or.inl rfl) | exact Or.inr (Or.inr rfl))
    (hd : (x == ("__debug__" : Str)) = false := by decide) (hcd : (x == ("__classdict__" : Str)) = false := by decide) : NmV S i x := ⟨hN, hv, hd, hcd⟩
theorem de_inV (i : Nat) {y : Str} {p : Pos} (n : NmV S i y) (ha : DE S a fa) : DE S (.Compare a [.In] [.Name y p] pos) (eInV false i fa) := by
  obtain ⟨ta, pa, oa⟩ := ha
  exact ⟨_, fun X h => pe_inU h (pa X h) (n.pe h) rfl, eok_inV false i oa⟩
theorem de_notinV (i : Nat) {y : Str} {p : Pos} (n : NmV S i y) (ha : DE S a fa) : DE S (.Compare a [.NotIn] [.Name y p] pos) (eInV true i fa) := by
  obtain ⟨ta, pa, oa⟩ := ha
  exact ⟨_, fun X h => pe_notInU h (pa X h) (n.pe h) rfl, eok_inV true i oa⟩
theorem dt_inV (i : Nat) {y : Str} {p : Pos} (n : NmV S i y) (ha : DE S a fa) : DT S (.Compare a [.In] [.Name y p] pos) (tB1 (eInV false i fa)) := by
  obtain ⟨ta, pa, oa⟩ := ha
  exact ⟨_, fun X h => (pt_inU h (pa X h) (n.pe h) rfl), tok_val (eok_inV false i oa)⟩
theorem dt_notinV (i : Nat) {y : Str} {p : Pos} (n : NmV S i y) (ha : DE S a fa) : DT S (.Compare a [.NotIn] [.Name y p] pos) (tB1 (eInV true i fa)) := by
  obtain ⟨ta, pa, oa⟩ := ha
  exact ⟨_, fun X h => (pt_notInU h (pa X h) (n.pe h) rfl), tok_val (eok_inV true i oa)⟩
end

/-! ### subscripts -/
def atD {α : Type} (xs : List α) (i : Int) : Option α := (ixN xs.length i).bind fun j => xs[j]?
def dIx : D → D → Option Sl
  | .lst xs, .int i => (atD xs i).map .im
  | .tup xs, .int i => (atD xs i).map .im
  | .str z, .int i => if z.length ≤ big then (atD z.cps.toList i).map fun c => .im (.str ⟨#[c]⟩) else none
  | .scr ns, .int i => (atD ns i).map fun n => .im (.int n)
  | .dct kvs, k => (mkKey k).bind fun key => (lookD kvs key).map .im
  | _, _ => none
theorem at_rp {K : PySem.W.Frag} {F : Hp} {us : List V} {xs : List D} {i : Int} {d : D} (r : RpL K F us xs) (h : atD xs i = some d) : ∃ v, atI us i = some v ∧ Rp K F v d := by
  unfold atD at h
  unfold atI
  rw [r.len]
  cases e : ixN xs.length i with
  | none => rw [e] at h; cases h
  | some j =>
    rw [e] at h
    obtain ⟨v, h1, h2⟩ := r.get' h
    exact ⟨v, h1, h2⟩
theorem r2k_ix {K : PySem.W.Frag} : ∀ (x y : V) (dx dy : D) (F H : Hp) (s : Sl) (Q : VK), Same F H → Vw K F H x dx → Vw K F H y dy → dIx dx dy = some s → ROut K F H Q s → (∀ kvs, dx ≠ .dct kvs) → rIx K x y H Q := by
  intro x y dx dy F H s Q e vx vy hg ro nd
  unfold dIx at hg
  split at hg
  · rename_i xs i
    obtain ⟨p, us, rfl, hp, ru⟩ := vx.lst_inv
    cases h : atD xs i with
    | none => rw [h] at hg; cases hg
    | some d =>
      rw [h] at hg
      cases hg
      obtain ⟨v, h1, h2⟩ := at_rp ru h
      exact .inl ⟨p, us, i, v, rfl, vy.int_inv, SqL.of hp, h1, ro.1 _ h2⟩
  · rename_i xs i
    obtain ⟨p, us, rfl, hp, ru⟩ := vx.tup_inv
    cases h : atD xs i with
    | none => rw [h] at hg; cases hg
    | some d =>
      rw [h] at hg
      cases hg
      obtain ⟨v, h1, h2⟩ := at_rp ru h
      exact .inr (.inl ⟨p, us, i, v, rfl, vy.int_inv, sqT_ext e hp, h1, ro.1 _ h2⟩)
  · rename_i z i
    split at hg
    · rename_i hz
      cases h : atD z.cps.toList i with
      | none => rw [h] at hg; cases hg
      | some c =>
        rw [h] at hg
        cases hg
        exact .inr (.inr ⟨z, i, c, vx.str_inv, vy.int_inv, big_line hz, h, ro.1 _ (.str _)⟩)
    · cases hg
  · rename_i ns i
    obtain ⟨p, rfl, hp⟩ := vx.scr_inv
    cases h : atD ns i with
    | none => rw [h] at hg; cases hg
    | some n =>
      rw [h] at hg
      cases hg
      refine .inl ⟨p, _, i, .int n, rfl, vy.int_inv, hp, ?_, ro.1 _ (.int n)⟩
      unfold atD at h
      unfold atI
      rw [List.length_map]
      cases e2 : ixN ns.length i with
      | none => rw [e2] at h; cases h
      | some j =>
        rw [e2] at h
        have h : ns[j]? = some n := h
        show (ns.map V.int)[j]? = some (.int n)
        rw [List.getElem?_map, h]
        rfl
  · exact absurd rfl (nd _)
  · cases hg
section
variable {S : Sc} {a b : Expr} {fa fb : EF} {pos : Pos}
theorem pe_ixU {X : Cx} {ta tb : TE} (h : Stc S X) (pa : PE X a ta) (pb : PE X b tb) (hs : PlainIx b) : PE X (.Subscript a b pos) (fun σ H Q => tOp (rIx S.G.K) ta tb σ H Q ∨ tDGet ta tb σ H Q) := by
  have h1 := pe_ix (pos := pos) (ix_seq (X := X)) pa pb hs
  rw [h.K] at h1
  exact PE.or h1 (pe_dget (hu_of h.room) pa pb hs)
theorem eok_ix {K : PySem.W.Frag} {ta tb : TE} (ha : EOK K ta fa) (hb : EOK K tb fb) : EOK K (fun σ H Q => tOp (rIx K) ta tb σ H Q ∨ tDGet ta tb σ H Q) (eB dIx fa fb) := by
  intro σ F H O ρ s ρ' Q er hf k
  obtain ⟨x, ρ1, h1, h2⟩ := bnd_some hf
  obtain ⟨y, ρ2, h3, h4⟩ := bnd_some h2
  cases e : dIx x y with
  | none => rw [e] at h4; cases h4
  | some t =>
    rw [e] at h4
    cases h4
    by_cases hd : ∃ kvs, x = .dct kvs
    · obtain ⟨kvs, rfl⟩ := hd
      refine .inr (ha.fz σ F H O ρ _ ρ1 _ er h1 fun v F1 H1 O1 tr1 er1 r1 => hb.fz σ F1 H1 O1 ρ1 _ _ _ er1 h3 fun u F2 H2 O2 tr2 er2 r2 => ?_)
      unfold dIx at e
      cases hk : mkKey y with
      | none => simp only [hk] at e; cases e
      | some key =>
        simp only [hk, Option.bind_some] at e
        cases hl : lookD kvs key with
        | none => rw [hl] at e; cases e
        | some d =>
          rw [hl] at e
          cases e
          obtain ⟨p, vs, rfl, hp, rk⟩ := (r1.ext tr2.ex).dct_inv
          obtain ⟨v2, h5, h6⟩ := (lookD_rp rk).1 d hl
          have := mkKey_v hk (r2.vw er2.sw.ex)
          subst this
          refine ⟨p, v2, rfl, ?_, k _ F2 H2 O2 (tr1.trans tr2) er2 h6 fun z => by cases z⟩
          rw [← h5]
          exact DGet.k (er2.sw.ex _ _ hp)
    · refine .inl (ha.fz σ F H O ρ x ρ1 _ er h1 fun v F1 H1 O1 tr1 er1 r1 => hb.fz σ F1 H1 O1 ρ1 _ _ _ er1 h3 fun u F2 H2 O2 tr2 er2 r2 => ?_)
      exact r2k_ix v u x y F2 H2 _ Q er2.sw.ex ((r1.ext tr2.ex).vw er2.sw.ex) (r2.vw er2.sw.ex) e (rout_of (tr1.trans tr2) er2 k) fun kvs z => hd ⟨kvs, z⟩
theorem de_ix (ha : DE S a fa) (hb : DE S b fb) (hs : PlainIx b := by exact fun _ _ => rfl) : DE S (.Subscript a b pos) (eB dIx fa fb) := by
  obtain ⟨ta, pa, oa⟩ := ha
  obtain ⟨tb, pb, ob⟩ := hb
  exact ⟨_, fun X h => pe_ixU h (pa X h) (pb X h) hs, eok_ix oa ob⟩
/-- an operation whose first operand is a slot that is not frozen by it -/
def eIxV (i : Nat) (fb : EF) : EF := fun ρ => match slotD ρ i with
  | none => none
  | some _ => bnd (eD fb) (fun y ρ => match slotD ρ i with
    | none => none
    | some x => match dIx x y with
      | none => none
      | some s => some (s, ρ)) ρ
theorem eok_ixV {K : PySem.W.Frag} {tb : TE} (i : Nat) (hb : EOK K tb fb) : EOK K (fun σ H Q => tOp (rIx K) (tVar i) tb σ H Q ∨ tDGet (tVar i) tb σ H Q) (eIxV i fb) := by
  intro σ F H O ρ s ρ' Q er hf k
  unfold eIxV at hf
  split at hf
  · cases hf
  rename_i x0 hx0
  obtain ⟨v0, hv0, _⟩ := slotD_at er hx0
  obtain ⟨y, ρ1, h1, h2⟩ := bnd_some hf
  split at h2
  · cases h2
  rename_i x hx
  split at h2
  · cases h2
  rename_i t e
  cases h2
  have view : ∀ {F1 H1 O1}, ER K F1 H1 O1 σ ρ' → Vw K F1 H1 v0 x := fun {F1 H1 O1} er1 => by
    obtain ⟨v, hv, vw⟩ := slotD_at er1 hx
    rw [hv0] at hv
    cases hv
    exact vw
  by_cases hd : ∃ kvs, x = .dct kvs
  · obtain ⟨kvs, rfl⟩ := hd
    refine .inr ⟨v0, hv0, hb.fz σ F H O ρ _ _ _ er h1 fun u F2 H2 O2 tr2 er2 r2 => ?_⟩
    unfold dIx at e
    cases hk : mkKey y with
    | none => simp only [hk] at e; cases e
    | some key =>
      simp only [hk, Option.bind_some] at e
      cases hl : lookD kvs key with
      | none => rw [hl] at e; cases e
      | some d =>
        rw [hl] at e
        cases e
        obtain ⟨p, vs, rfl, hp, rk⟩ := (view er2).dct_inv
        obtain ⟨v2, h5, h6⟩ := (lookD_rp rk).1 d hl
        have := mkKey_v hk (r2.vw er2.sw.ex)
        subst this
        refine ⟨p, v2, rfl, ?_, k _ F2 H2 O2 tr2 er2 h6 fun z => by cases z⟩
        rw [← h5]
        exact DGet.k hp
  · refine .inl ⟨v0, hv0, hb.fz σ F H O ρ _ _ _ er h1 fun u F2 H2 O2 tr2 er2 r2 => ?_⟩
    exact r2k_ix v0 u x y F2 H2 _ Q er2.sw.ex (view er2) (r2.vw er2.sw.ex) e (rout_of tr2 er2 k) fun kvs z => hd ⟨kvs, z⟩
theorem de_ixV (i : Nat) {y : Str} {p : Pos} (n : NmV S i y) (hb : DE S b fb) (hs : PlainIx b := by exact fun _ _ => rfl) : DE S (.Subscript (.Name y p) b pos) (eIxV i fb) := by
  obtain ⟨tb, pb, ob⟩ := hb
  exact ⟨_, fun X h => pe_ixU h (n.pe h) (pb X h) hs, eok_ixV i ob⟩
end

/-! ### slices -/
def PF := En → Option (Option Int × En)
def OOK (K : PySem.W.Frag) (t : TO) (f : PF) : Prop := ∀ (σ : L2.St) (F H : Hp) (O : Own) (ρ : En) (o : Option Int) (ρ' : En) (Q : Option Int → Hp → Prop), ER K F H O σ ρ → f ρ = some (o, ρ') →
  (∀ F' H' O', Tr F H O F' H' O' → ER K F' H' O' σ ρ' → Q o H') → t σ H Q
def DO (S : Sc) (e : Option Expr) (f : PF) : Prop := ∃ t : TO, (∀ X, Stc S X → PO X e t) ∧ OOK S.G.K t f
def oNone : PF := fun ρ => some (none, ρ)
def oSome (f : EF) : PF := bnd (eD f) fun d ρ => match d with
  | .int i => some (some i, ρ)
  | _ => none
section
variable {S : Sc} {a b : Expr} {fa fb : EF} {pos p2 : Pos} {lo hi : Option Expr} {fl fh : PF}
theorem do_none : DO S none oNone := ⟨tNoPart, fun _ _ => po_none, by
  intro σ F H O ρ o ρ' Q er hf k
  cases hf
  exact k F H O Tr.refl er⟩
theorem do_some (h : DE S a fa) : DO S (some a) (oSome fa) := by
  obtain ⟨t, p, o⟩ := h
  refine ⟨tPart t, fun X hX => po_some (p X hX), ?_⟩
  intro σ F H O ρ q ρ' Q er hf k
  obtain ⟨d, ρ1, h1, h2⟩ := bnd_some hf
  split at h2
  · cases h2
    exact o.fz σ F H O ρ _ _ _ er h1 fun v F1 H1 O1 tr1 er1 r1 => ⟨_, r1.int_inv, k F1 H1 O1 tr1 er1⟩
  · cases h2
def cutD {α : Type} (xs : List α) (lo hi : Option Int) : List α := (xs.drop (HT.sIx xs.length 0 lo)).take (HT.sIx xs.length xs.length hi - HT.sIx xs.length 0 lo)
def dSl : D → Option Int → Option Int → Option Sl
  | .lst xs, lo, hi => some (.ol (cutD xs lo hi))
  | .tup xs, lo, hi => some (.im (.tup (cutD xs lo hi)))
  | .str z, lo, hi => if z.length ≤ big then some (.im (.str (cutS z lo hi))) else none
  | .scr ns, lo, hi => some (.ol ((cutD ns lo hi).map .int))
  | _, _, _ => none
def rSlU (K : PySem.W.Frag) : V → Option Int → Option Int → Hp → VK → Prop := fun x lo hi H Q => rSlL K x lo hi H Q ∨ rSlA K x lo hi H Q ∨ rSlS x lo hi H Q
theorem sl_U {X : Cx} : L2.SlR X (rSlU X.K) := L2.SlR.or sl_list (L2.SlR.or sl_tupA sl_str)
theorem cut_rp {K : PySem.W.Frag} {F : Hp} {us : List V} {xs : List D} (r : RpL K F us xs) (lo hi : Option Int) : RpL K F (cutV us lo hi) (cutD xs lo hi) := by
  unfold cutV cutD
  rw [r.len]
  exact (r.drop _).take _
theorem r2k_sl {K : PySem.W.Frag} : ∀ (x : V) (dx : D) (lo hi : Option Int) (F H : Hp) (s : Sl) (Q : VK), Same F H → Vw K F H x dx → dSl dx lo hi = some s → ROut K F H Q s → rSlU K x lo hi H Q := by
  intro x dx lo hi F H s Q e vx hg ro
  unfold dSl at hg
  split at hg
  · cases hg
    obtain ⟨p, us, rfl, hp, ru⟩ := vx.lst_inv
    exact .inl ⟨p, us, rfl, SqL.of hp, fun q hq => ro q _ hq (cut_rp ru lo hi)⟩
  · cases hg
    rename_i xs
    obtain ⟨p, us, rfl, hp, ru⟩ := vx.tup_inv
    refine .inr (.inl ⟨p, us, rfl, sqT_ext e hp, fun hw => ?_, fun _ q hq => ?_⟩)
    · have : cutD xs lo hi = xs := by
        unfold cutD
        rw [← ru.len, hw.1, hw.2, List.drop_zero, ru.len, Nat.sub_zero, List.take_length]
      rw [this] at ro
      exact ro.1 _ (.tup hp ru)
    · exact ro.2 q _ hq (.tup (SqT.of upd_same) ((cut_rp ru lo hi).ext (same_new (same_none e hq))))
  · split at hg
    · rename_i hz
      cases hg
      exact .inr (.inr ⟨_, vx.str_inv, big_line hz, ro.1 _ (.str _)⟩)
    · cases hg
  · cases hg
    obtain ⟨p, rfl, hp⟩ := vx.scr_inv
    refine .inl ⟨p, _, rfl, hp, fun q hq => ro q _ hq ?_⟩
    rename_i ns
    have : cutV (List.map V.int ns) lo hi = (cutD ns lo hi).map V.int := by
      unfold cutV cutD
      rw [List.length_map, List.map_take, List.map_drop]
    rw [this]
    exact rpL_ints _
  · cases hg
def eSl (fa : EF) (fl fh : PF) : EF := bnd (eD fa) fun x => bnd fl fun lo => bnd fh fun hi ρ => match dSl x lo hi with
  | none => none
  | some s => some (s, ρ)
theorem de_slice (ha : DE S a fa) (hl : DO S lo fl) (hh : DO S hi fh) : DE S (.Subscript a (.Slice lo hi none p2) pos) (eSl fa fl fh) := by
  obtain ⟨ta, pa, oa⟩ := ha
  obtain ⟨tl, pl, ol⟩ := hl
  obtain ⟨th, ph, oh⟩ := hh
  refine ⟨tSl (rSlU S.G.K) ta tl th, fun X h => by have := pe_slice (pos := pos) (p2 := p2) (sl_U (X := X)) (pa X h) (pl X h) (ph X h); rw [h.K] at this; exact this, ?_⟩
  intro σ F H O ρ s ρ' Q er hf k
  obtain ⟨x, ρ1, h1, h2⟩ := bnd_some hf
  obtain ⟨l, ρ2, h3, h4⟩ := bnd_some h2
  obtain ⟨u, ρ3, h5, h6⟩ := bnd_some h4
  split at h6
  · cases h6
  rename_i t e
  cases h6
  refine oa.fz σ F H O ρ x ρ1 _ er h1 fun v F1 H1 O1 tr1 er1 r1 => ?_
  refine ol σ F1 H1 O1 ρ1 l ρ2 _ er1 h3 fun F2 H2 O2 tr2 er2 => ?_
  refine oh σ F2 H2 O2 ρ2 u _ _ er2 h5 fun F3 H3 O3 tr3 er3 => ?_
  exact r2k_sl v x l u F3 H3 _ Q er3.sw.ex ((r1.ext (tr2.ex.trans tr3.ex)).vw er3.sw.ex) e (rout_of ((tr1.trans tr2).trans tr3) er3 k)
end

/-! ### built-in functions -/
def dLen : D → Option Nat
  | .lst xs => some xs.length
  | .tup xs => some xs.length
  | .str z => if z.length ≤ big then some z.length else none
  | .dct kvs => some kvs.length
  | .scr ns => some ns.length
  | _ => none
def gLen : List D → Option Sl
  | [d] => (dLen d).map fun n => .im (.int (n : Nat))
  | _ => none
def rLenU (K : PySem.W.Frag) : List V → Hp → VK → Prop := fun xs H Q => (∃ p ys, xs = [.ref p] ∧ (SqL K H p ys ∨ SqT K H p ys) ∧ Q (.int ys.length) H) ∨ (∃ z, xs = [.str z] ∧ z.length ≤ sizeLine ∧ Q (.int z.length) H) ∨ (∃ a kvs, xs = [V.ref a] ∧ H a = some (.dK kvs) ∧ Q (.int kvs.length) H)
theorem call_lenU {X : Cx} : CallR X (.builtin "len") (rLenU X.K) := call_len_seq.or (call_len_str.or call_lenD)
theorem len_vw {K : PySem.W.Frag} {F H : Hp} {x : V} {d : D} {s : Sl} {Q : VK} (e : Same F H) (vx : Vw K F H x d) (hg : gLen [d] = some s) (ro : ROut K F H Q s) : rLenU K [x] H Q := by
  unfold gLen dLen at hg
  cases vx with
  | lst hp ru => cases hg; exact .inl ⟨_, _, rfl, .inl (SqL.of hp), by rw [ru.len]; exact ro.1 _ (.int _)⟩
  | tup hp ru => cases hg; exact .inl ⟨_, _, rfl, .inr (sqT_ext e hp), by rw [ru.len]; exact ro.1 _ (.int _)⟩
  | str z =>
    simp only at hg
    split at hg
    · rename_i hz
      cases hg
      exact .inr (.inl ⟨_, rfl, big_line hz, ro.1 _ (.int _)⟩)
    · cases hg
  | dct hp rk => cases hg; exact .inr (.inr ⟨_, _, rfl, hp, by rw [rk.len]; exact ro.1 _ (.int _)⟩)
  | scr hp => cases hg; exact .inl ⟨_, _, rfl, .inl hp, by rw [List.length_map]; exact ro.1 _ (.int _)⟩
  | _ => cases hg
theorem rck_len {K : PySem.W.Frag} : RCK K (rLenU K) gLen := by
  intro xs ds F H s Q e r hg ro
  unfold gLen at hg
  split at hg
  · rename_i d
    cases r with
    | cons r1 r2 =>
      cases r2
      exact len_vw e (r1.vw e) hg ro
  · cases hg
section
variable {S : Sc} {a : Expr} {es : List Expr} {r : AF} {p pos : Pos}
theorem de_len (hg : S.sc.names.lookup ("len" : Str) = some .globalImplicit) (hm : S.G.mg "len" = none) (ha : DA S (a :: es) r) (he : ∀ X, Stc S X → starEach (a :: es) X.env = (false, eval a X.env) :: starEach es X.env := by intros; rfl) (hpl : ∀ X, Stc S X → (backTo pos (starEach es X.env)).any (·.1) = false := by intros; rfl) :
    DE S (.Call (.Name "len" p) (a :: es) [] pos) (eCa gLen r) := de_callB (fun X h => by rw [← h.K]; exact call_lenU) rck_len hg hm boot_len ha (by decide) (by decide) he hpl
/-- len(x), x a slot that is not frozen by it -/
def eLenV (i : Nat) : EF := fun ρ => match slotD ρ i with
  | none => none
  | some d => match gLen [d] with
    | none => none
    | some s => some (s, ρ)
theorem de_lenV (i : Nat) {y : Str} {py : Pos} (n : NmV S i y) (hg : S.sc.names.lookup ("len" : Str) = some .globalImplicit) (hm : S.G.mg "len" = none) (he : ∀ X, Stc S X → starEach [.Name y py] X.env = (false, eval (.Name y py) X.env) :: starEach [] X.env := by intros; rfl) (hpl : ∀ X, Stc S X → (backTo pos (starEach [] X.env)).any (·.1) = false := by intros; rfl) :
    DE S (.Call (.Name "len" p) [.Name y py] [] pos) (eLenV i) := by
  refine ⟨tCB (rLenU S.G.K) (tCons (tVar i) tNil), fun X h => ?_, ?_⟩
  · have hc : CallR X (.builtin "len") (rLenU S.G.K) := by rw [← h.K]; exact call_lenU
    exact pe_callB hc (by unfold Gl Env.kindOf; rw [h.sc]; exact hg) (by rw [h.mg]; exact hm) boot_len (pa_cons (n.pe h) pa_nil (he X h)) (by decide) (by decide) (he X h) (hpl X h)
  · intro σ F H O ρ s ρ' Q er hf k
    unfold eLenV at hf
    split at hf
    · cases hf
    rename_i d hd
    split at hf
    · cases hf
    rename_i t e
    cases hf
    obtain ⟨v, hv, vw⟩ := slotD_at er hd
    exact ⟨v, hv, len_vw er.sw.ex vw e (rout_of Tr.refl er k)⟩
end
/-- the built-in class of a value -/
def D.ty : D → Option String
  | .non => some "NoneType"
  | .bl _ => some "bool"
  | .int _ => some "int"
  | .str _ => some "str"
  | .lst _ => some "list"
  | .tup _ => some "tuple"
  | .dct _ => some "dict"
  | _ => none
def gIsi : List D → Option Sl
  | [d, .typ T] => match d.ty with
    | some t => (kitB t T).map fun b => .im (.bl b)
    | none => none
  | _ => none
theorem rck_isi {K : PySem.W.Frag} : RCK K (rIsi K) gIsi := by
  intro xs ds F H s Q e r hg ro
  unfold gIsi at hg
  split at hg
  · rename_i d T
    cases r with
    | cons r1 r2 =>
      cases r2 with
      | cons r2 r3 =>
        cases r3
        cases r2
        split at hg
        · rename_i t ht
          cases hb : kitB t T with
          | none => rw [hb] at hg; cases hg
          | some b =>
            rw [hb] at hg
            cases hg
            refine ⟨_, .ty T, .type t, .type T, b, rfl, .ty T, ?_, kit_ty hb, ro.1 _ (.bl b)⟩
            cases r1 <;> unfold D.ty at ht <;> cases ht
            · exact .base .non
            · exact .base (.bl _)
            · exact .base (.int _)
            · exact .base (.str _)
            · exact .base (.lst (e _ _ (by assumption)))
            · rename_i hp ru
              rcases sqT_ext e hp with (h | ⟨o, h⟩) | ⟨o, its, n, h1, h2, _⟩
              · exact .base (.tup h)
              · exact .fTuple h
              · exact .kTuple h1 h2
            · exact .base (.dK (e _ _ (by assumption)))
        · cases hg
  · cases hg
section
variable {S : Sc} {a : Expr} {es : List Expr} {r : AF} {p pos : Pos} {x : Str}
theorem de_typ {T : String} (hg : S.sc.names.lookup x = some .globalImplicit) (hm : S.G.mg x = none) (hv : bootBuiltins x = some (.type T)) (hn : x ≠ "__name__" := by decide) (hd : (x == ("__debug__" : Str)) = false := by decide) : DE S (.Name x pos) (eC (.typ T)) :=
  ⟨tC (.ty T), fun X h => pe_bltn (by unfold Gl Env.kindOf; rw [h.sc]; exact hg) (by rw [h.mg]; exact hm) hv rfl hn hd, eok_c fun _ => .typ T⟩
theorem de_isi (hg : S.sc.names.lookup ("isinstance" : Str) = some .globalImplicit) (hm : S.G.mg "isinstance" = none) (ha : DA S (a :: es) r) (he : ∀ X, Stc S X → starEach (a :: es) X.env = (false, eval a X.env) :: starEach es X.env := by intros; rfl) (hpl : ∀ X, Stc S X → (backTo pos (starEach es X.env)).any (·.1) = false := by intros; rfl) :
    DE S (.Call (.Name "isinstance" p) (a :: es) [] pos) (eCa gIsi r) := de_callB (fun X h => by rw [← h.K]; exact call_isi) rck_isi hg hm (by decide +kernel) ha (by decide) (by decide) he hpl
end
end DL

set_option Elab.async false
set_option linter.all false
set_option maxRecDepth 100000
set_option maxHeartbeats 4000000
/-! DLOps3: built-ins over lists, methods of texts, lists, dicts, stores into own lists and dicts, several targets at once. -/
namespace DL
open PySem PySem.Spec PyProof.Rows L2

/-- code that is never reached -/
theorem de_stuck {S : Sc} {e : Expr} : DE S e (fun _ => none) := ⟨fun _ _ _ => False, fun X h => ⟨fun _ _ _ _ _ _ h => h.elim⟩, fun _ _ _ _ _ _ _ _ _ h => nomatch h⟩
theorem ds_stuck {S : Sc} {e : Stmt} : DS S e (fun _ => none) := ⟨fun _ _ _ => False, fun X h => ⟨fun _ _ _ _ _ _ h => h.elim⟩, fun _ _ _ _ _ _ _ _ h => nomatch h⟩
theorem dss_stuck {S : Sc} {e : List Stmt} : DSs S e (fun _ => none) := ⟨fun _ _ _ => False, fun X h => ⟨fun _ _ _ _ _ _ h => h.elim⟩, fun _ _ _ _ _ _ _ _ h => nomatch h⟩

/-! ### lists of one kind -/
def asB : List D → Option (List Bool)
  | [] => some []
  | .bl b :: r => (asB r).map (b :: ·)
  | _ => none
def asI : List D → Option (List Int)
  | [] => some []
  | .int b :: r => (asI r).map (b :: ·)
  | _ => none
def asS : List D → Option (List Str)
  | [] => some []
  | .str b :: r => (asS r).map (b :: ·)
  | _ => none
section
variable {K : PySem.W.Frag} {F : Hp}
theorem asB_rp : ∀ {vs : List V} {ds : List D} {bs : List Bool}, RpL K F vs ds → asB ds = some bs → vs = bs.map V.bl
  | _, _, _, .nil, h => by cases h; rfl
  | _, d :: ds, bs, .cons r t, h => by
    unfold asB at h
    split at h
    · rename_i e; cases e
    · rename_i b r' e
      cases e
      cases q : asB ds with
      | none => rw [q] at h; cases h
      | some cs => rw [q] at h; cases h; rw [List.map_cons, asB_rp t q, r.bl_inv]
    · cases h
theorem asI_rp : ∀ {vs : List V} {ds : List D} {bs : List Int}, RpL K F vs ds → asI ds = some bs → vs = bs.map V.int
  | _, _, _, .nil, h => by cases h; rfl
  | _, d :: ds, bs, .cons r t, h => by
    unfold asI at h
    split at h
    · rename_i e; cases e
    · rename_i b r' e
      cases e
      cases q : asI ds with
      | none => rw [q] at h; cases h
      | some cs => rw [q] at h; cases h; rw [List.map_cons, asI_rp t q, r.int_inv]
    · cases h
theorem asS_rp : ∀ {vs : List V} {ds : List D} {bs : List Str}, RpL K F vs ds → asS ds = some bs → vs = bs.map V.str
  | _, _, _, .nil, h => by cases h; rfl
  | _, d :: ds, bs, .cons r t, h => by
    unfold asS at h
    split at h
    · rename_i e; cases e
    · rename_i b r' e
      cases e
      cases q : asS ds with
      | none => rw [q] at h; cases h
      | some cs => rw [q] at h; cases h; rw [List.map_cons, asS_rp t q, r.str_inv]
    · cases h
theorem rpL_strs : ∀ ns : List Str, RpL K F (ns.map V.str) (ns.map D.str)
  | [] => .nil
  | n :: ns => .cons (.str n) (rpL_strs ns)
end
theorem asB_map (bs : List Bool) : asB (bs.map .bl) = some bs := by
  induction bs with
  | nil => rfl
  | cons b r ih => rw [List.map_cons, asB, ih]; rfl
theorem asI_map (bs : List Int) : asI (bs.map .int) = some bs := by
  induction bs with
  | nil => rfl
  | cons b r ih => rw [List.map_cons, asI, ih]; rfl
theorem asS_map (bs : List Str) : asS (bs.map .str) = some bs := by
  induction bs with
  | nil => rfl
  | cons b r ih => rw [List.map_cons, asS, ih]; rfl

/-! ### tuple(x), list(x) -/
def gTup : List D → Option Sl
  | [.lst xs] => some (.im (.tup xs))
  | [.tup xs] => some (.im (.tup xs))
  | _ => none
def rTupU (K : PySem.W.Frag) : List V → Hp → VK → Prop := fun xs H Q => ∃ p ys, xs = [.ref p] ∧ ((SqL K H p ys ∧ ∀ l, H l = none → Q (.ref l) (upd H l (.tup ys))) ∨ (SqT K H p ys ∧ Q (.ref p) H))
theorem rck_tup {K : PySem.W.Frag} : RCK K (rTupU K) gTup := by
  intro xs ds F H s Q e r hg ro
  unfold gTup at hg
  split at hg
  · cases hg
    cases r with
    | cons r1 r2 =>
      cases r2
      obtain ⟨a, us, rfl, ha, ra⟩ := r1.lst_inv
      exact ⟨a, us, rfl, .inl ⟨SqL.of (e _ _ ha), fun p hp => ro.2 p _ hp (.tup (SqT.of upd_same) (ra.ext (same_new (same_none e hp))))⟩⟩
  · cases hg
    cases r with
    | cons r1 r2 =>
      cases r2
      obtain ⟨a, us, rfl, ha, ra⟩ := r1.tup_inv
      exact ⟨a, us, rfl, .inr ⟨sqT_ext e ha, ro.1 _ (.tup ha ra)⟩⟩
  · cases hg
def keyD : Key → D
  | .inl i => .int i
  | .inr x => .str x
theorem rp_key {K : PySem.W.Frag} {F : Hp} (k : Key) : Rp K F (kV k) (keyD k) := by
  cases k with
  | inl i => exact .int i
  | inr x => exact .str x
theorem rpK_keys {K : PySem.W.Frag} {F : Hp} : ∀ {vs : List (Key × V)} {ds : List (Key × D)}, RpK K F vs ds → RpL K F (vs.map fun kv => kV kv.1) (ds.map fun kv => keyD kv.1)
  | _, _, .nil => .nil
  | _, _, .cons _ t => .cons (rp_key _) (rpK_keys t)
def gLst : List D → Option Sl
  | [.lst xs] => some (.ol xs)
  | [.tup xs] => some (.ol xs)
  | [.dct kvs] => some (.ol (kvs.map fun kv => keyD kv.1))
  | _ => none
def rLstU (K : PySem.W.Frag) : List V → Hp → VK → Prop := fun xs H Q => (∃ p ys, xs = [.ref p] ∧ (SqL K H p ys ∨ SqT K H p ys) ∧ ∀ l, H l = none → Q (.ref l) (upd H l (.lst ys))) ∨
  ∃ (a : Addr) (kvs : List (Key × V)), xs = [.ref a] ∧ Rd H a (.dK kvs) ∧ ∀ p, H p = none → Q (.ref p) (upd H p (.lst (kvs.map fun kv => kV kv.1)))
theorem rck_lst {K : PySem.W.Frag} : RCK K (rLstU K) gLst := by
  intro xs ds F H s Q e r hg ro
  unfold gLst at hg
  split at hg
  · cases hg
    cases r with
    | cons r1 r2 =>
      cases r2
      obtain ⟨a, us, rfl, ha, ra⟩ := r1.lst_inv
      exact .inl ⟨a, us, rfl, .inl (SqL.of (e _ _ ha)), fun p hp => ro p _ hp ra⟩
  · cases hg
    cases r with
    | cons r1 r2 =>
      cases r2
      obtain ⟨a, us, rfl, ha, ra⟩ := r1.tup_inv
      exact .inl ⟨a, us, rfl, .inr (sqT_ext e ha), fun p hp => ro p _ hp ra⟩
  · cases hg
    cases r with
    | cons r1 r2 =>
      cases r2
      obtain ⟨a, us, rfl, ha, ra⟩ := r1.dct_inv
      exact .inr ⟨a, us, rfl, .inl (e _ _ ha), fun p hp => ro p _ hp (rpK_keys ra)⟩
  · cases hg

/-! ### all, any, sum, max, min -/
def gAll : List D → Option Sl
  | [.lst xs] => (asB xs).map fun bs => .im (.bl (bs.all id))
  | _ => none
def gAny : List D → Option Sl
  | [.lst xs] => (asB xs).map fun bs => .im (.bl (bs.any id))
  | _ => none
def gSum : List D → Option Sl
  | [.lst xs] => (asI xs).map fun bs => .im (.int bs.sum)
  | _ => none
theorem rck_all {K : PySem.W.Frag} : RCK K (rAll K) gAll := by
  intro xs ds F H s Q e r hg ro
  unfold gAll at hg
  split at hg
  · rename_i ys
    cases r with
    | cons r1 r2 =>
      cases r2
      obtain ⟨a, us, rfl, ha, ra⟩ := r1.lst_inv
      cases h : asB ys with
      | none => rw [h] at hg; cases hg
      | some bs =>
        rw [h] at hg
        cases hg
        have := asB_rp ra h
        subst this
        exact ⟨a, bs, rfl, SqL.of (e _ _ ha), ro.1 _ (.bl _)⟩
  · cases hg
theorem rck_any {K : PySem.W.Frag} : RCK K (rAny K) gAny := by
  intro xs ds F H s Q e r hg ro
  unfold gAny at hg
  split at hg
  · rename_i ys
    cases r with
    | cons r1 r2 =>
      cases r2
      obtain ⟨a, us, rfl, ha, ra⟩ := r1.lst_inv
      cases h : asB ys with
      | none => rw [h] at hg; cases hg
      | some bs =>
        rw [h] at hg
        cases hg
        have := asB_rp ra h
        subst this
        exact ⟨a, bs, rfl, SqL.of (e _ _ ha), ro.1 _ (.bl _)⟩
  · cases hg
theorem rck_sum {K : PySem.W.Frag} : RCK K (rSum K) gSum := by
  intro xs ds F H s Q e r hg ro
  unfold gSum at hg
  split at hg
  · rename_i ys
    cases r with
    | cons r1 r2 =>
      cases r2
      obtain ⟨a, us, rfl, ha, ra⟩ := r1.lst_inv
      cases h : asI ys with
      | none => rw [h] at hg; cases hg
      | some bs =>
        rw [h] at hg
        cases hg
        have := asI_rp ra h
        subst this
        exact ⟨a, bs, rfl, SqL.of (e _ _ ha), ro.1 _ (.int _)⟩
  · cases hg
def maxI : List Int → Int
  | [] => 0
  | [a] => a
  | a :: b :: r => max a (maxI (b :: r))
def minI : List Int → Int
  | [] => 0
  | [a] => a
  | a :: b :: r => min a (minI (b :: r))
theorem maxI_ge : ∀ {xs : List Int} {x : Int}, x ∈ xs → x ≤ maxI xs
  | [a], x, h => by simp at h; subst h; exact Int.le_refl _
  | a :: b :: r, x, h => by
    unfold maxI
    rcases List.mem_cons.mp h with rfl | h
    · omega
    · have := maxI_ge h; omega
theorem maxI_mem : ∀ {xs : List Int}, xs ≠ [] → maxI xs ∈ xs
  | [a], _ => by simp [maxI]
  | a :: b :: r, _ => by
    unfold maxI
    have ih := maxI_mem (xs := b :: r) (by simp)
    by_cases h : maxI (b :: r) ≤ a
    · rw [Int.max_eq_left h]; exact List.mem_cons_self
    · rw [Int.max_eq_right (by omega)]; exact List.mem_cons_of_mem _ ih
theorem minI_le : ∀ {xs : List Int} {x : Int}, x ∈ xs → minI xs ≤ x
  | [a], x, h => by simp at h; subst h; exact Int.le_refl _
  | a :: b :: r, x, h => by
    unfold minI
    rcases List.mem_cons.mp h with rfl | h
    · omega
    · have := minI_le h; omega
theorem minI_mem : ∀ {xs : List Int}, xs ≠ [] → minI xs ∈ xs
  | [a], _ => by simp [minI]
  | a :: b :: r, _ => by
    unfold minI
    have ih := minI_mem (xs := b :: r) (by simp)
    by_cases h : a ≤ minI (b :: r)
    · rw [Int.min_eq_left h]; exact List.mem_cons_self
    · rw [Int.min_eq_right (by omega)]; exact List.mem_cons_of_mem _ ih
def gMax : List D → Option Sl
  | [.lst xs] => match asI xs with
    | some (b :: bs) => some (.im (.int (maxI (b :: bs))))
    | _ => none
  | [.int i, .int j] => some (.im (.int (if j > i then j else i)))
  | _ => none
def gMin : List D → Option Sl
  | [.lst xs] => match asI xs with
    | some (b :: bs) => some (.im (.int (minI (b :: bs))))
    | _ => none
  | [.int i, .int j] => some (.im (.int (if j < i then j else i)))
  | _ => none
def rMaxU (K : PySem.W.Frag) : List V → Hp → VK → Prop := fun xs H Q => rMax K xs H Q ∨ ∃ i j, xs = [.int i, .int j] ∧ Q (.int (if j > i then j else i)) H
def rMinU (K : PySem.W.Frag) : List V → Hp → VK → Prop := fun xs H Q => rMin K xs H Q ∨ ∃ i j, xs = [.int i, .int j] ∧ Q (.int (if j < i then j else i)) H
theorem rck_max {K : PySem.W.Frag} : RCK K (rMaxU K) gMax := by
  intro xs ds F H s Q e r hg ro
  unfold gMax at hg
  split at hg
  · split at hg
    · rename_i ys b bs h
      cases hg
      cases r with
      | cons r1 r2 =>
        cases r2
        obtain ⟨a, us, rfl, ha, ra⟩ := r1.lst_inv
        have := asI_rp ra h
        subst this
        refine .inl ⟨a, b :: bs, rfl, SqL.of (e _ _ ha), by simp, fun m hm hy => ?_⟩
        have : m = maxI (b :: bs) := Int.le_antisymm (maxI_ge hm) (hy _ (maxI_mem (by simp)))
        rw [this]
        exact ro.1 _ (.int _)
    · cases hg
  · cases hg
    cases r with
    | cons r1 r2 =>
      cases r2 with
      | cons r2 r3 =>
        cases r3
        obtain rfl := r1.int_inv
        obtain rfl := r2.int_inv
        exact .inr ⟨_, _, rfl, ro.1 _ (.int _)⟩
  · cases hg
theorem rck_min {K : PySem.W.Frag} : RCK K (rMinU K) gMin := by
  intro xs ds F H s Q e r hg ro
  unfold gMin at hg
  split at hg
  · split at hg
    · rename_i ys b bs h
      cases hg
      cases r with
      | cons r1 r2 =>
        cases r2
        obtain ⟨a, us, rfl, ha, ra⟩ := r1.lst_inv
        have := asI_rp ra h
        subst this
        refine .inl ⟨a, b :: bs, rfl, SqL.of (e _ _ ha), by simp, fun m hm hy => ?_⟩
        have : m = minI (b :: bs) := Int.le_antisymm (hy _ (minI_mem (by simp))) (minI_le hm)
        rw [this]
        exact ro.1 _ (.int _)
    · cases hg
  · cases hg
    cases r with
    | cons r1 r2 =>
      cases r2 with
      | cons r2 r3 =>
        cases r3
        obtain rfl := r1.int_inv
        obtain rfl := r2.int_inv
        exact .inr ⟨_, _, rfl, ro.1 _ (.int _)⟩
  · cases hg

/-! ### int, str, repr, divmod -/
def gInt : List D → Option Sl
  | [.int i] => some (.im (.int i))
  | [.bl k] => some (.im (.int (if k then 1 else 0)))
  | [.str a] => if a.length ≤ 640 then (PySem.intText? a).map fun n => .im (.int n) else none
  | _ => none
def rIntU : List V → Hp → VK → Prop := fun xs H Q => ((∃ i, xs = [.int i] ∧ Q (.int i) H) ∨ ∃ k, xs = [.bl k] ∧ Q (.int (if k then 1 else 0)) H) ∨ ∃ a n, xs = [.str a] ∧ PySem.intText? a = some n ∧ a.length ≤ 640 ∧ Q (.int n) H
theorem rck_int {K : PySem.W.Frag} : RCK K rIntU gInt := by
  intro xs ds F H s Q e r hg ro
  unfold gInt at hg
  split at hg
  · cases hg
    cases r with
    | cons r1 r2 =>
      cases r2
      obtain rfl := r1.int_inv
      exact .inl (.inl ⟨_, rfl, ro.1 _ (.int _)⟩)
  · cases hg
    cases r with
    | cons r1 r2 =>
      cases r2
      obtain rfl := r1.bl_inv
      exact .inl (.inr ⟨_, rfl, ro.1 _ (.int _)⟩)
  · split at hg
    · rename_i a hz
      cases h : PySem.intText? a with
      | none => rw [h] at hg; cases hg
      | some n =>
        rw [h] at hg
        cases hg
        cases r with
        | cons r1 r2 =>
          cases r2
          obtain rfl := r1.str_inv
          exact .inr ⟨_, _, rfl, h, hz, ro.1 _ (.int _)⟩
    · cases hg
  · cases hg
def gStr : List D → Option Sl
  | [.int i] => if i.natAbs.log2 < 1920 then some (.im (.str (toString i))) else none
  | _ => none
theorem rck_str {K : PySem.W.Frag} : RCK K (fun xs H Q => ∃ i, xs = [.int i] ∧ i.natAbs.log2 < 1920 ∧ Q (.str (toString i)) H) gStr := by
  intro xs ds F H s Q e r hg ro
  unfold gStr at hg
  split at hg
  · split at hg
    · rename_i i hz
      cases hg
      cases r with
      | cons r1 r2 =>
        cases r2
        obtain rfl := r1.int_inv
        exact ⟨_, rfl, hz, ro.1 _ (.str _)⟩
    · cases hg
  · cases hg
def rRepB : List V → Hp → VK → Prop := fun xs H Q => ∃ b, xs = [.bl b] ∧ Q (.str (if b then "True" else "False")) H
theorem call_reprB {X : Cx} : CallR X (.builtin "repr") rRepB := by
  intro pins s σ H xs us Q I r h
  obtain ⟨i, rfl, q⟩ := h
  obtain ⟨u, rfl, r1⟩ := vals1 r
  cases r1
  exact PySem.P.repr_of_bool ⟨.str _, H, I.tok _, ⟨_, rfl⟩, q⟩
/-- repr of data -/
def rRepD (K : PySem.W.Frag) : List V → Hp → VK → Prop := fun xs H Q => ∃ x p, xs = [x] ∧ Dp K H x p ∧ p.showable = true ∧ p.canLay0 = true ∧ p.depth ≤ 100 ∧ p.shown.length ≤ sizeLine ∧ Q (.str p.shown) H
theorem call_reprD {X : Cx} (gd : X.A.guards = some []) (hu : X.A.units + 200 < cLine) : CallR X (.builtin "repr") (rRepD X.K) := by
  intro pins s σ H xs us Q I r h
  obtain ⟨x, p, rfl, hd, h1, h2, h3, h4, q⟩ := h
  obtain ⟨u, rfl, r1⟩ := vals1 r
  obtain ⟨as, rd⟩ := Dp.reads I p x u hd r1
  cases p with
  | none => cases rd; exact PySem.P.repr_of_none ⟨.str _, H, I.tok _, ⟨s.toks, by simp only [PyData.shown]⟩, q⟩
  | bool b => cases rd; exact PySem.P.repr_of_bool ⟨.str _, H, I.tok _, ⟨s.toks, by simp only [PyData.shown]⟩, q⟩
  | int i => cases rd; exact PySem.P.repr_of_int (by simpa [PyData.showable] using h1) ⟨.str _, H, I.tok _, ⟨s.toks, by simp only [PyData.shown]⟩, q⟩
  | str z => cases rd; exact PySem.P.repr_of_str ⟨.str _, H, I.tok _, ⟨s.toks, by simp only [PyData.shown]⟩, q⟩ (by simpa only [PyData.shown] using h4)
  | list ps =>
    obtain ⟨a, rfl⟩ : ∃ a, u = .ref a := by cases rd; exact ⟨_, rfl⟩
    exact PySem.repr_of_reads' rd h1 (PyData.noDict_hsm (PyData.hasDict_of_canLay _ h2)) gd (by omega) (fun _ _ e => e) (fun h' v tk kp => ⟨.str _, H, I.kept kp, ⟨_, rfl⟩, q⟩) h4
  | tuple ps =>
    obtain ⟨a, rfl⟩ : ∃ a, u = .ref a := by cases rd; exact ⟨_, rfl⟩
    exact PySem.repr_of_reads' rd h1 (PyData.noDict_hsm (PyData.hasDict_of_canLay _ h2)) gd (by omega) (fun _ _ e => e) (fun h' v tk kp => ⟨.str _, H, I.kept kp, ⟨_, rfl⟩, q⟩) h4
  | dict kvs => simp [PyData.canLay0] at h2
def repOk (p : PyData) : Bool := p.showable && p.canLay0 && decide (p.depth ≤ 100) && decide (p.shown.length ≤ big)
def gRep : List D → Option Sl
  | [.bl b] => some (.im (.str (if b then "True" else "False")))
  | [d] => match d.py with
    | some p => if repOk p = true then some (.im (.str p.shown)) else none
    | none => none
  | _ => none
theorem rck_rep {K : PySem.W.Frag} : RCK K (fun xs H Q => rRepB xs H Q ∨ rRepD K xs H Q) gRep := by
  intro xs ds F H s Q e r hg ro
  unfold gRep at hg
  split at hg
  · cases hg
    cases r with
    | cons r1 r2 =>
      cases r2
      obtain rfl := r1.bl_inv
      exact .inl ⟨_, rfl, ro.1 _ (.str _)⟩
  · split at hg
    · rename_i p hp
      split at hg
      · rename_i ok
        cases hg
        cases r with
        | cons r1 r2 =>
          cases r2
          unfold repOk at ok
          simp only [Bool.and_eq_true, decide_eq_true_eq] at ok
          obtain ⟨⟨⟨o1, o2⟩, o3⟩, o4⟩ := ok
          exact .inr ⟨_, p, rfl, Rp.dp (Same.refl _) (r1.ext e) hp, o1, o2, o3, big_line o4, ro.1 _ (.str _)⟩
      · cases hg
    · cases hg
  · cases hg
def gDm : List D → Option Sl
  | [.int i, .int j] => if CDiv i j then some (.im (.tup [.int (i / j), .int (i % j)])) else none
  | _ => none
theorem rck_dm {K : PySem.W.Frag} : RCK K (fun xs H Q => ∃ i j, xs = [.int i, .int j] ∧ CDiv i j ∧ ∀ p, H p = none → Q (.ref p) (upd H p (.tup [.int (i / j), .int (i % j)]))) gDm := by
  intro xs ds F H s Q e r hg ro
  unfold gDm at hg
  split at hg
  · split at hg
    · rename_i hc
      cases hg
      cases r with
      | cons r1 r2 =>
        cases r2 with
        | cons r2 r3 =>
          cases r3
          obtain rfl := r1.int_inv
          obtain rfl := r2.int_inv
          exact ⟨_, _, rfl, hc, fun p hp => ro.2 p _ hp (.tup (SqT.of upd_same) (.cons (.int _) (.cons (.int _) .nil)))⟩
    · cases hg
  · cases hg
section
variable {S : Sc} {a : Expr} {es : List Expr} {r : AF} {p pos : Pos}
theorem de_btup (hg : S.sc.names.lookup ("tuple" : Str) = some .globalImplicit) (hm : S.G.mg "tuple" = none) (ha : DA S (a :: es) r) (he : ∀ X, Stc S X → starEach (a :: es) X.env = (false, eval a X.env) :: starEach es X.env := by intros; rfl) (hpl : ∀ X, Stc S X → (backTo pos (starEach es X.env)).any (·.1) = false := by intros; rfl) :
    DE S (.Call (.Name "tuple" p) (a :: es) [] pos) (eCa gTup r) := de_callTy (T := "tuple") (fun X h => by rw [← h.K]; exact call_tuple_of) rck_tup hg hm (by decide +kernel) ha (by decide) (by decide) he hpl
theorem de_blst (hg : S.sc.names.lookup ("list" : Str) = some .globalImplicit) (hm : S.G.mg "list" = none) (ha : DA S (a :: es) r) (he : ∀ X, Stc S X → starEach (a :: es) X.env = (false, eval a X.env) :: starEach es X.env := by intros; rfl) (hpl : ∀ X, Stc S X → (backTo pos (starEach es X.env)).any (·.1) = false := by intros; rfl) :
    DE S (.Call (.Name "list" p) (a :: es) [] pos) (eCa gLst r) := de_callTy (T := "list") (fun X h => by rw [← h.K]; exact call_list_of.or (call_listD h.calm)) rck_lst hg hm (by decide +kernel) ha (by decide) (by decide) he hpl
theorem de_ball (hg : S.sc.names.lookup ("all" : Str) = some .globalImplicit) (hm : S.G.mg "all" = none) (ha : DA S (a :: es) r) (he : ∀ X, Stc S X → starEach (a :: es) X.env = (false, eval a X.env) :: starEach es X.env := by intros; rfl) (hpl : ∀ X, Stc S X → (backTo pos (starEach es X.env)).any (·.1) = false := by intros; rfl) :
    DE S (.Call (.Name "all" p) (a :: es) [] pos) (eCa gAll r) := de_callB (fun X h => by rw [← h.K]; exact cr_all h.calm) rck_all hg hm (by decide +kernel) ha (by decide) (by decide) he hpl
theorem de_bany (hg : S.sc.names.lookup ("any" : Str) = some .globalImplicit) (hm : S.G.mg "any" = none) (ha : DA S (a :: es) r) (he : ∀ X, Stc S X → starEach (a :: es) X.env = (false, eval a X.env) :: starEach es X.env := by intros; rfl) (hpl : ∀ X, Stc S X → (backTo pos (starEach es X.env)).any (·.1) = false := by intros; rfl) :
    DE S (.Call (.Name "any" p) (a :: es) [] pos) (eCa gAny r) := de_callB (fun X h => by rw [← h.K]; exact cr_any h.calm) rck_any hg hm (by decide +kernel) ha (by decide) (by decide) he hpl
theorem de_bsum (hg : S.sc.names.lookup ("sum" : Str) = some .globalImplicit) (hm : S.G.mg "sum" = none) (ha : DA S (a :: es) r) (he : ∀ X, Stc S X → starEach (a :: es) X.env = (false, eval a X.env) :: starEach es X.env := by intros; rfl) (hpl : ∀ X, Stc S X → (backTo pos (starEach es X.env)).any (·.1) = false := by intros; rfl) :
    DE S (.Call (.Name "sum" p) (a :: es) [] pos) (eCa gSum r) := de_callB (fun X h => by rw [← h.K]; exact cr_sum h.calm) rck_sum hg hm (by decide +kernel) ha (by decide) (by decide) he hpl
theorem de_bmax (hg : S.sc.names.lookup ("max" : Str) = some .globalImplicit) (hm : S.G.mg "max" = none) (ha : DA S (a :: es) r) (he : ∀ X, Stc S X → starEach (a :: es) X.env = (false, eval a X.env) :: starEach es X.env := by intros; rfl) (hpl : ∀ X, Stc S X → (backTo pos (starEach es X.env)).any (·.1) = false := by intros; rfl) :
    DE S (.Call (.Name "max" p) (a :: es) [] pos) (eCa gMax r) := de_callB (fun X h => by rw [← h.K]; exact CallR.or (cr_max h.calm) (call_max2 h.calm)) rck_max hg hm (by decide +kernel) ha (by decide) (by decide) he hpl
theorem de_bmin (hg : S.sc.names.lookup ("min" : Str) = some .globalImplicit) (hm : S.G.mg "min" = none) (ha : DA S (a :: es) r) (he : ∀ X, Stc S X → starEach (a :: es) X.env = (false, eval a X.env) :: starEach es X.env := by intros; rfl) (hpl : ∀ X, Stc S X → (backTo pos (starEach es X.env)).any (·.1) = false := by intros; rfl) :
    DE S (.Call (.Name "min" p) (a :: es) [] pos) (eCa gMin r) := de_callB (fun X h => by rw [← h.K]; exact CallR.or (cr_min h.calm) (call_min2 h.calm)) rck_min hg hm (by decide +kernel) ha (by decide) (by decide) he hpl
theorem de_bint (hg : S.sc.names.lookup ("int" : Str) = some .globalImplicit) (hm : S.G.mg "int" = none) (ha : DA S (a :: es) r) (he : ∀ X, Stc S X → starEach (a :: es) X.env = (false, eval a X.env) :: starEach es X.env := by intros; rfl) (hpl : ∀ X, Stc S X → (backTo pos (starEach es X.env)).any (·.1) = false := by intros; rfl) :
    DE S (.Call (.Name "int" p) (a :: es) [] pos) (eCa gInt r) := de_callTy (T := "int") (fun X h => CallR.or call_int1 call_int_str) rck_int hg hm (by decide +kernel) ha (by decide) (by decide) he hpl
theorem de_bstr (hg : S.sc.names.lookup ("str" : Str) = some .globalImplicit) (hm : S.G.mg "str" = none) (ha : DA S (a :: es) r) (he : ∀ X, Stc S X → starEach (a :: es) X.env = (false, eval a X.env) :: starEach es X.env := by intros; rfl) (hpl : ∀ X, Stc S X → (backTo pos (starEach es X.env)).any (·.1) = false := by intros; rfl) :
    DE S (.Call (.Name "str" p) (a :: es) [] pos) (eCa gStr r) := de_callTy (T := "str") (fun X h => call_str_int) rck_str hg hm (by decide +kernel) ha (by decide) (by decide) he hpl
theorem de_brep (hg : S.sc.names.lookup ("repr" : Str) = some .globalImplicit) (hm : S.G.mg "repr" = none) (ha : DA S (a :: es) r) (he : ∀ X, Stc S X → starEach (a :: es) X.env = (false, eval a X.env) :: starEach es X.env := by intros; rfl) (hpl : ∀ X, Stc S X → (backTo pos (starEach es X.env)).any (·.1) = false := by intros; rfl) :
    DE S (.Call (.Name "repr" p) (a :: es) [] pos) (eCa gRep r) := de_callB (fun X h => by rw [← h.K]; exact call_reprB.or (call_reprD h.gd (by have := h.room.un; omega))) rck_rep hg hm (by decide +kernel) ha (by decide) (by decide) he hpl
theorem de_bdm (hg : S.sc.names.lookup ("divmod" : Str) = some .globalImplicit) (hm : S.G.mg "divmod" = none) (ha : DA S (a :: es) r) (he : ∀ X, Stc S X → starEach (a :: es) X.env = (false, eval a X.env) :: starEach es X.env := by intros; rfl) (hpl : ∀ X, Stc S X → (backTo pos (starEach es X.env)).any (·.1) = false := by intros; rfl) :
    DE S (.Call (.Name "divmod" p) (a :: es) [] pos) (eCa gDm r) := de_callB (fun X h => call_divmod) rck_dm hg hm (by decide +kernel) ha (by decide) (by decide) he hpl
end
end DL

set_option Elab.async false
set_option linter.all false
set_option maxRecDepth 100000
set_option maxHeartbeats 4000000
/-! DLOps4: methods of texts, lists, dicts, stores into own lists and dicts, several targets at once. -/
namespace DL
open PySem PySem.Spec PyProof.Rows L2

section
variable {S : Sc} {a b o e : Expr} {fa fb fo : EF} {es : List Expr} {fr : AF} {apos pos p : Pos}
/-! ### methods of texts -/
theorem eok_m1 {K : PySem.W.Frag} {ta tb : TE} {r : V → List V → Hp → VK → Prop} {g : D → D → Option Sl} (hr : ∀ (x : V) (dx : D) (y : V) (dy : D) (F H : Hp) (s : Sl) (Q : VK), Same F H → Rp K F x dx → Rp K F y dy → g dx dy = some s → ROut K F H Q s → r x [y] H Q)
    (hs : ∀ x y s, g x y = some s → ∃ z, x = .str z) (oa : EOK K ta fa) (ob : EOK K tb fb) : EOK K (tM1 r ta tb) (eB g fa fb) := by
  intro σ F H O ρ s ρ' Q er hf k
  obtain ⟨x, ρ1, h1, h2⟩ := bnd_some hf
  obtain ⟨y, ρ2, h3, h4⟩ := bnd_some h2
  cases e : g x y with
  | none => rw [e] at h4; cases h4
  | some t =>
    rw [e] at h4
    cases h4
    obtain ⟨z, rfl⟩ := hs x y _ e
    refine oa.fz σ F H O ρ _ _ _ er h1 fun v F1 H1 O1 tr1 er1 r1 => ?_
    obtain rfl := r1.str_inv
    refine ⟨⟨_, rfl⟩, ob.fz σ F1 H1 O1 ρ1 y _ _ er1 h3 fun u F2 H2 O2 tr2 er2 r2 => ?_⟩
    exact hr _ _ u y F2 H2 _ Q er2.sw.ex (.str _) r2 e (rout_of (tr1.trans tr2) er2 k)
def dSplit : D → D → Option Sl
  | .str a, .str b => if (b.length == 0) = false ∧ a.length ≤ big then some (.ol ((Txt.split a b).map .str)) else none
  | _, _ => none
theorem de_split (ho : DE S o fo) (he : DE S e fa) (hs : ∀ X, Stc S X → starEach [e] X.env = [(false, eval e X.env)] := by intros; rfl) (hbase : ∀ X, Stc S X → attributeBase o "split" X.env (eval o X.env) = eval o X.env := by intros; rfl) (hline : (apos.endLine == pos.line) = true := by rfl) :
    DE S (.Call (.Attribute o "split" apos) [e] [] pos) (eB dSplit fo fa) := by
  obtain ⟨ta, pa, oa⟩ := ho
  obtain ⟨tb, pb, ob⟩ := he
  refine ⟨_, fun X h => pe_split (pa X h) (pb X h) (hs X h) (hbase X h) hline, eok_m1 ?_ ?_ oa ob⟩
  · intro x dx y dy F H s Q e vx vy hg ro
    unfold dSplit at hg
    split at hg
    · split at hg
      · rename_i hz
        cases hg
        obtain rfl := vx.str_inv
        obtain rfl := vy.str_inv
        exact ⟨_, _, rfl, rfl, hz.1, Nat.le_trans (Nat.add_le_add_right hz.2 2) (by decide), fun p hp => ro p _ hp (rpL_strs _)⟩
      · cases hg
    · cases hg
  · intro x y s h
    unfold dSplit at h
    split at h
    · exact ⟨_, rfl⟩
    · cases h
def dJoin : D → D → Option Sl
  | .str a, .lst ys => match asS ys with
    | some zs => if (zs.map (·.length)).sum + zs.length * a.length ≤ 16777216 then some (.im (.str (Txt.join a zs))) else none
    | none => none
  | .str a, .tup ys => match asS ys with
    | some zs => if (zs.map (·.length)).sum + zs.length * a.length ≤ 16777216 then some (.im (.str (Txt.join a zs))) else none
    | none => none
  | _, _ => none
theorem de_join (ho : DE S o fo) (he : DE S e fa) (hs : ∀ X, Stc S X → starEach [e] X.env = [(false, eval e X.env)] := by intros; rfl) (hbase : ∀ X, Stc S X → attributeBase o "join" X.env (eval o X.env) = eval o X.env := by intros; rfl) (hline : (apos.endLine == pos.line) = true := by rfl) :
    DE S (.Call (.Attribute o "join" apos) [e] [] pos) (eB dJoin fo fa) := by
  obtain ⟨ta, pa, oa⟩ := ho
  obtain ⟨tb, pb, ob⟩ := he
  refine ⟨_, fun X h => by have := pe_join (pa X h) (pb X h) (hs X h) (hbase X h) hline; rw [h.K] at this; exact this, eok_m1 ?_ ?_ oa ob⟩
  · intro x dx y dy F H s Q e vx vy hg ro
    unfold dJoin at hg
    split at hg
    · split at hg
      · rename_i hz
        split at hg
        · rename_i hl
          cases hg
          obtain rfl := vx.str_inv
          obtain ⟨p, us, rfl, hp, ru⟩ := vy.lst_inv
          have := asS_rp ru hz
          subst this
          exact ⟨_, _, _, rfl, rfl, .inl (SqL.of (e _ _ hp)), hl, ro.1 _ (.str _)⟩
        · cases hg
      · cases hg
    · split at hg
      · rename_i hz
        split at hg
        · rename_i hl
          cases hg
          obtain rfl := vx.str_inv
          obtain ⟨p, us, rfl, hp, ru⟩ := vy.tup_inv
          have := asS_rp ru hz
          subst this
          exact ⟨_, _, _, rfl, rfl, .inr (sqT_ext e hp), hl, ro.1 _ (.str _)⟩
        · cases hg
      · cases hg
    · cases hg
  · intro x y s h
    unfold dJoin at h
    split at h
    · exact ⟨_, rfl⟩
    · exact ⟨_, rfl⟩
    · cases h
def dEndsw : D → D → Option Sl
  | .str a, .str b => some (.im (.bl (Txt.endswith a b)))
  | _, _ => none
theorem de_endsw (ho : DE S o fo) (he : DE S e fa) (hs : ∀ X, Stc S X → starEach [e] X.env = [(false, eval e X.env)] := by intros; rfl) (hbase : ∀ X, Stc S X → attributeBase o "endswith" X.env (eval o X.env) = eval o X.env := by intros; rfl) (hline : (apos.endLine == pos.line) = true := by rfl) :
    DE S (.Call (.Attribute o "endswith" apos) [e] [] pos) (eB dEndsw fo fa) := by
  obtain ⟨ta, pa, oa⟩ := ho
  obtain ⟨tb, pb, ob⟩ := he
  refine ⟨_, fun X h => pe_m1 PySem.F.slot_str_endswith PySem.F.type_str_endswith mt_endswith (pa X h) (pb X h) (hs X h) (hbase X h) hline, eok_m1 ?_ ?_ oa ob⟩
  · intro x dx y dy F H s Q e vx vy hg ro
    unfold dEndsw at hg
    split at hg
    · cases hg
      obtain rfl := vx.str_inv
      obtain rfl := vy.str_inv
      exact ⟨_, _, rfl, rfl, ro.1 _ (.bl _)⟩
    · cases hg
  · intro x y s h
    unfold dEndsw at h
    split at h
    · exact ⟨_, rfl⟩
    · cases h

/-! ### methods of own lists -/
def eMutV (i : Nat) (g : List D → List D → Option (D × List D)) (r : AF) : EF := fun ρ => match ρ[i]? with
  | some (some (.ol _)) => bnd r (fun ds ρ1 => match ρ1[i]? with
    | some (some (.ol xs)) => match g xs ds with
      | some (d, ys) => some (.im d, ρ1.set i (some (.ol ys)))
      | none => none
    | _ => none) ρ
  | _ => none
def MutK (K : PySem.W.Frag) (r : V → List V → Hp → VK → Prop) (g : List D → List D → Option (D × List D)) : Prop := ∀ (F H : Hp) (p : Addr) (us vs : List V) (xs ds : List D) (d : D) (ys : List D) (Q : VK), Same F H → F p = none → H p = some (.lst us) → RpL K F us xs → RpL K F vs ds →
  g xs ds = some (d, ys) → (∀ v us', Rp K F v d → RpL K F us' ys → Q v (upd H p (.lst us'))) → r (.ref p) vs H Q
theorem eok_mutV {K : PySem.W.Frag} {t : TA} {r : V → List V → Hp → VK → Prop} {g : List D → List D → Option (D × List D)} (i : Nat) (hr : MutK K r g) (o : AOK K t fr) : EOK K (tBM K "list" r (tVar i) t) (eMutV i g fr) := by
  intro σ F H O ρ s ρ' Q er hf k
  unfold eMutV at hf
  split at hf
  rotate_left
  · cases hf
  rename_i xs0 hi0
  obtain ⟨v0, hv0, p0, us0, rfl, op0, hp0, rl0⟩ := er.sl i _ hi0
  obtain ⟨ds, ρ1, h1, h2⟩ := bnd_some hf
  split at h2
  rotate_left
  · cases h2
  rename_i xs hi
  split at h2
  rotate_left
  · cases h2
  rename_i d ys hg
  cases h2
  refine ⟨_, hv0, .inl ⟨rfl, us0, SqL.of hp0⟩, o σ F H O ρ ds ρ1 _ er h1 fun vs F1 H1 O1 tr1 er1 rl => ?_⟩
  obtain ⟨v1, hv1, p1, us1, e1, op1, hp1, rl1⟩ := er1.sl i _ hi
  rw [hv0] at hv1
  cases hv1
  cases e1
  refine hr F1 H1 p0 us1 vs xs ds d ys Q er1.sw.ex (er1.sw.off _ op1) hp1 rl1 rl hg fun v us' rv rl' => ?_
  exact k v F1 _ O1 (tr1.trans (Tr.wr er1.sw op1)) (er1.wrL hi hv0 hp1 op1 rl') rv fun z => by cases z
theorem eok_mutV0 {K : PySem.W.Frag} {r : V → List V → Hp → VK → Prop} {g : List D → List D → Option (D × List D)} (i : Nat) (hr : MutK K r g) : EOK K (tBM0 K "list" r (tVar i)) (eMutV i g aNil) := by
  intro σ F H O ρ s ρ' Q er hf k
  unfold eMutV at hf
  split at hf
  rotate_left
  · cases hf
  rename_i xs0 hi0
  obtain ⟨v0, hv0, p0, us0, rfl, op0, hp0, rl0⟩ := er.sl i _ hi0
  obtain ⟨ds, ρ1, h1, h2⟩ := bnd_some hf
  cases h1
  rw [hi0] at h2
  simp only at h2
  split at h2
  rotate_left
  · cases h2
  rename_i d ys hg
  cases h2
  refine ⟨_, hv0, .inl ⟨rfl, us0, SqL.of hp0⟩, ?_⟩
  refine hr F H p0 us0 [] xs0 [] d ys Q er.sw.ex (er.sw.off _ op0) hp0 rl0 .nil hg fun v us' rv rl' => ?_
  exact k v F _ O (Tr.wr er.sw op0) (er.wrL hi0 hv0 hp0 op0 rl') rv fun z => by cases z
def mApp : List D → List D → Option (D × List D) := fun xs ds => match ds with
  | [d] => if xs.length < big then some (.non, xs ++ [d]) else none
  | _ => none
theorem lt_line {n : Nat} (h : n < big) : n < sizeLine := Nat.lt_of_lt_of_le h (by decide)
theorem mutk_app {K : PySem.W.Frag} : MutK K rAppend mApp := by
  intro F H p us vs xs ds d ys Q ex fp hp rl rd hg k
  unfold mApp at hg
  split at hg
  · split at hg
    · rename_i hz
      cases hg
      cases rd with
      | cons r1 r2 =>
        cases r2
        exact ⟨p, us, _, rfl, rfl, hp, by rw [rl.len]; exact lt_line hz, k _ _ .non (rl.app (.cons r1 .nil))⟩
    · cases hg
  · cases hg
def mExt : List D → List D → Option (D × List D) := fun xs ds => match ds with
  | [.lst zs] => if xs.length + zs.length ≤ big then some (.non, xs ++ zs) else none
  | _ => none
theorem mutk_ext {K : PySem.W.Frag} : MutK K rExtend mExt := by
  intro F H p us vs xs ds d ys Q ex fp hp rl rd hg k
  unfold mExt at hg
  split at hg
  · split at hg
    · rename_i hz
      cases hg
      cases rd with
      | cons r1 r2 =>
        cases r2
        obtain ⟨b, ws, rfl, hb, rb⟩ := r1.lst_inv
        exact ⟨p, b, us, ws, rfl, rfl, hp, ex _ _ hb, by rw [rl.len, rb.len]; exact big_line hz, k _ _ .non (rl.app rb)⟩
    · cases hg
  · cases hg
theorem rpL_dropLast {K : PySem.W.Frag} {F : Hp} : ∀ {us : List V} {xs : List D}, RpL K F us xs → RpL K F us.dropLast xs.dropLast
  | _, _, .nil => .nil
  | _, _, .cons r .nil => .nil
  | _, _, .cons r (.cons r2 t) => .cons r (rpL_dropLast (.cons r2 t))
def mPop : List D → List D → Option (D × List D) := fun xs ds => match ds with
  | [] => (xs[xs.length - 1]?).map fun d => (d, xs.dropLast)
  | _ => none
theorem mutk_pop {K : PySem.W.Frag} : MutK K rPop mPop := by
  intro F H p us vs xs ds d ys Q ex fp hp rl rd hg k
  unfold mPop at hg
  split at hg
  · cases h : xs[xs.length - 1]? with
    | none => rw [h] at hg; cases hg
    | some y =>
      rw [h] at hg
      cases hg
      cases rd
      obtain ⟨v, h1, h2⟩ := rl.get' h
      exact ⟨p, us, v, rfl, rfl, hp, by rw [rl.len]; exact h1, k _ _ h2 (rpL_dropLast rl)⟩
  · cases hg
def mIns : List D → List D → Option (D × List D) := fun xs ds => match ds with
  | [.int i, d] => if xs.length < big ∧ 0 ≤ i ∧ i < 2 ^ 63 then some (.non, xs.take i.toNat ++ [d] ++ xs.drop i.toNat) else none
  | _ => none
def rInsL : V → List V → Hp → VK → Prop := fun x vs H Q => ∃ (l : Addr) (xs : List V) (i : Int) (y : V), x = .ref l ∧ vs = [.int i, y] ∧ H l = some (.lst xs) ∧ xs.length < sizeLine ∧ 0 ≤ i ∧ i < 2 ^ 63 ∧ Q .non (upd H l (.lst (xs.take i.toNat ++ [y] ++ xs.drop i.toNat)))
theorem mutk_ins {K : PySem.W.Frag} : MutK K rInsL mIns := by
  intro F H p us vs xs ds d ys Q ex fp hp rl rd hg k
  unfold mIns at hg
  split at hg
  · split at hg
    · rename_i hz
      cases hg
      cases rd with
      | cons r1 r2 =>
        cases r2 with
        | cons r2 r3 =>
          cases r3
          obtain rfl := r1.int_inv
          exact ⟨p, us, _, _, rfl, rfl, hp, by rw [rl.len]; exact lt_line hz.1, hz.2.1, hz.2.2, k _ _ .non (((rl.take _).app (.cons r2 .nil)).app (rl.drop _))⟩
    · cases hg
  · cases hg
section
variable {y : Str} {py : Pos}
theorem de_append (i : Nat) (n : NmV S i y) (ha : DA S (e :: es) fr) (hbase : ∀ X, Stc S X → attributeBase (.Name y py) "append" X.env (eval (.Name y py) X.env) = eval (.Name y py) X.env := by intros; rfl)
    (hfew : ∀ X, Stc S X → ((backTo pos (starEach (e :: es) X.env)).all (fun x => !x.1) && (backToKw pos (keywordEach [] X.env)).all (fun x => x.1.isSome) && decide ((e :: es).length + ([] : List Keyword).length + (if ([] : List Keyword).isEmpty then 0 else 1) < 30)) = true := by intros; rfl)
    (hline : (apos.endLine == pos.line) = true := by rfl) (hs : ∀ X, Stc S X → starEach (e :: es) X.env = (false, eval e X.env) :: starEach es X.env := by intros; rfl) (hpl : ∀ X, Stc S X → (backTo pos (starEach es X.env)).any (·.1) = false := by intros; rfl) :
    DE S (.Call (.Attribute (.Name y py) "append" apos) (e :: es) [] pos) (eMutV i mApp fr) := by
  obtain ⟨t, pt, o⟩ := ha
  exact ⟨_, fun X h => by
    have := pe_bm PySem.F.plainAttrs_list PySem.F.slot_list_append PySem.F.type_list_append mt_append (n.pe (p := py) h) (pt X h) (hbase X h) (hfew X h) hline (hs X h) (hpl X h)
    rw [h.K] at this
    exact this, eok_mutV i mutk_app o⟩
theorem de_extend (i : Nat) (n : NmV S i y) (ha : DA S (e :: es) fr) (hbase : ∀ X, Stc S X → attributeBase (.Name y py) "extend" X.env (eval (.Name y py) X.env) = eval (.Name y py) X.env := by intros; rfl)
    (hfew : ∀ X, Stc S X → ((backTo pos (starEach (e :: es) X.env)).all (fun x => !x.1) && (backToKw pos (keywordEach [] X.env)).all (fun x => x.1.isSome) && decide ((e :: es).length + ([] : List Keyword).length + (if ([] : List Keyword).isEmpty then 0 else 1) < 30)) = true := by intros; rfl)
    (hline : (apos.endLine == pos.line) = true := by rfl) (hs : ∀ X, Stc S X → starEach (e :: es) X.env = (false, eval e X.env) :: starEach es X.env := by intros; rfl) (hpl : ∀ X, Stc S X → (backTo pos (starEach es X.env)).any (·.1) = false := by intros; rfl) :
    DE S (.Call (.Attribute (.Name y py) "extend" apos) (e :: es) [] pos) (eMutV i mExt fr) := by
  obtain ⟨t, pt, o⟩ := ha
  exact ⟨_, fun X h => by
    have := pe_bm PySem.F.plainAttrs_list PySem.F.slot_list_extend PySem.F.type_list_extend mt_extend (n.pe (p := py) h) (pt X h) (hbase X h) (hfew X h) hline (hs X h) (hpl X h)
    rw [h.K] at this
    exact this, eok_mutV i mutk_ext o⟩
theorem de_insert (i : Nat) (n : NmV S i y) (ha : DA S (e :: es) fr) (hbase : ∀ X, Stc S X → attributeBase (.Name y py) "insert" X.env (eval (.Name y py) X.env) = eval (.Name y py) X.env := by intros; rfl)
    (hfew : ∀ X, Stc S X → ((backTo pos (starEach (e :: es) X.env)).all (fun x => !x.1) && (backToKw pos (keywordEach [] X.env)).all (fun x => x.1.isSome) && decide ((e :: es).length + ([] : List Keyword).length + (if ([] : List Keyword).isEmpty then 0 else 1) < 30)) = true := by intros; rfl)
    (hline : (apos.endLine == pos.line) = true := by rfl) (hs : ∀ X, Stc S X → starEach (e :: es) X.env = (false, eval e X.env) :: starEach es X.env := by intros; rfl) (hpl : ∀ X, Stc S X → (backTo pos (starEach es X.env)).any (·.1) = false := by intros; rfl) :
    DE S (.Call (.Attribute (.Name y py) "insert" apos) (e :: es) [] pos) (eMutV i mIns fr) := by
  obtain ⟨t, pt, o⟩ := ha
  exact ⟨_, fun X h => by
    have := pe_bm PySem.F.plainAttrs_list PySem.F.slot_list_insert PySem.F.type_list_insert mt_insert (n.pe (p := py) h) (pt X h) (hbase X h) (hfew X h) hline (hs X h) (hpl X h)
    rw [h.K] at this
    exact this, eok_mutV i mutk_ins o⟩
theorem de_pop (i : Nat) (n : NmV S i y) (hbase : ∀ X, Stc S X → attributeBase (.Name y py) "pop" X.env (eval (.Name y py) X.env) = eval (.Name y py) X.env := by intros; rfl) (hline : (apos.endLine == pos.line) = true := by rfl) :
    DE S (.Call (.Attribute (.Name y py) "pop" apos) [] [] pos) (eMutV i mPop aNil) :=
  ⟨_, fun X h => by
    have := pe_bm0 PySem.F.plainAttrs_list PySem.F.slot_list_pop PySem.F.type_list_pop mt_pop (n.pe (p := py) (X := X) h) (hbase X h) hline
    rw [h.K] at this
    exact this, eok_mutV0 i mutk_pop⟩
end

/-! ### dicts -/
def eDct0 : EF := fun ρ => some (.od [], ρ)
theorem de_dct0 : DE S (.Dict [] [] pos) eDct0 := ⟨tDNewK, fun X h => pe_dnewK, by
  intro σ F H O ρ s ρ' Q er hf k
  cases hf
  exact fun p hp => rout_of (s := .od []) Tr.refl er k p [] hp .nil⟩
theorem getD_rp {K : PySem.W.Frag} {F : Hp} {k : Key} {vs : List (Key × V)} {ds : List (Key × D)} {z : V} {d : D} (r : RpK K F vs ds) (rz : Rp K F z d) : Rp K F ((valV vs k).getD z) ((lookD ds k).getD d) := by
  obtain ⟨h1, h2⟩ := lookD_rp (k := k) r
  cases e : lookD ds k with
  | none => rw [h2 e]; exact rz
  | some y => obtain ⟨v, h3, h4⟩ := h1 y e; rw [h3]; exact h4
def eGet2 (fd fk fz : EF) : EF := bnd (eD fd) fun d => match d with
  | .dct kvs => bnd (eD fk) fun k => bnd (eD fz) fun z ρ => match mkKey k with
    | some key => some (.im ((lookD kvs key).getD z), ρ)
    | none => none
  | _ => fun _ => none
theorem de_get2 {f : Expr} {fk fz : EF} (hd : DE S o fo) (hk : DE S e fk) (hz : DE S f fz) (hM : ∀ X, Stc S X → M2 X o "get" apos e f pos := by intros; exact ⟨rfl, rfl, rfl, rfl⟩) : DE S (.Call (.Attribute o "get" apos) [e, f] [] pos) (eGet2 fo fk fz) := by
  obtain ⟨td, pd, od⟩ := hd
  obtain ⟨tk, pk, ok⟩ := hk
  obtain ⟨tz, pz, oz⟩ := hz
  refine ⟨_, fun X h => pe_dget2 (hu_of h.room) (pd X h) (pk X h) (pz X h) (hM X h), ?_⟩
  intro σ F H O ρ s ρ' Q er hf k
  obtain ⟨d, ρ1, h1, h2⟩ := bnd_some hf
  split at h2
  rotate_left
  · cases h2
  rename_i kvs
  obtain ⟨y, ρ2, h3, h4⟩ := bnd_some h2
  obtain ⟨z, ρ3, h5, h6⟩ := bnd_some h4
  split at h6
  rotate_left
  · cases h6
  rename_i key hkey
  cases h6
  refine od.fz σ F H O ρ _ _ _ er h1 fun v F1 H1 O1 tr1 er1 r1 => ?_
  obtain ⟨p, vs, rfl, hp, rk⟩ := r1.dct_inv
  refine ⟨p, rfl, .inl ⟨vs, .inl (er1.sw.ex _ _ hp)⟩, ok.fz σ F1 H1 O1 ρ1 _ _ _ er1 h3 fun u F2 H2 O2 tr2 er2 r2 => ?_⟩
  refine oz.fz σ F2 H2 O2 ρ2 _ _ _ er2 h5 fun w F3 H3 O3 tr3 er3 r3 => ?_
  have := mkKey_v hkey (r2.vw er2.sw.ex)
  subst this
  have e13 := tr2.ex.trans tr3.ex
  exact ⟨_, DGet.k (er3.sw.ex _ _ (e13 _ _ hp)), k _ F3 H3 O3 ((tr1.trans tr2).trans tr3) er3 (getD_rp (rk.ext e13) r3) fun z => by cases z⟩
def eGet2V (i : Nat) (fk fz : EF) : EF := fun ρ => match slotD ρ i with
  | some (.dct _) => bnd (eD fk) (fun k => bnd (eD fz) fun z ρ => match slotD ρ i, mkKey k with
    | some (.dct kvs), some key => some (.im ((lookD kvs key).getD z), ρ)
    | _, _ => none) ρ
  | _ => none
theorem de_get2V (i : Nat) {y : Str} {py : Pos} {f : Expr} {fk fz : EF} (n : NmV S i y) (hk : DE S e fk) (hz : DE S f fz) (hM : ∀ X, Stc S X → M2 X (.Name y py) "get" apos e f pos := by intros; exact ⟨rfl, rfl, rfl, rfl⟩) : DE S (.Call (.Attribute (.Name y py) "get" apos) [e, f] [] pos) (eGet2V i fk fz) := by
  obtain ⟨tk, pk, ok⟩ := hk
  obtain ⟨tz, pz, oz⟩ := hz
  refine ⟨_, fun X h => pe_dget2 (hu_of h.room) (n.pe h) (pk X h) (pz X h) (hM X h), ?_⟩
  intro σ F H O ρ s ρ' Q er hf k
  unfold eGet2V at hf
  split at hf
  rotate_left
  · cases hf
  rename_i kvs0 hs0
  obtain ⟨v0, hv0, vw0⟩ := slotD_at er hs0
  obtain ⟨p, vs0, rfl, hp0, _⟩ := vw0.dct_inv
  obtain ⟨y2, ρ2, h3, h4⟩ := bnd_some hf
  obtain ⟨z, ρ3, h5, h6⟩ := bnd_some h4
  split at h6
  rotate_left
  · cases h6
  rename_i kvs key hs hkey
  cases h6
  refine ⟨_, hv0, p, rfl, .inl ⟨vs0, .inl hp0⟩, ok.fz σ F H O ρ _ _ _ er h3 fun u F2 H2 O2 tr2 er2 r2 => ?_⟩
  refine oz.fz σ F2 H2 O2 ρ2 _ _ _ er2 h5 fun w F3 H3 O3 tr3 er3 r3 => ?_
  have := mkKey_v hkey (r2.vw er2.sw.ex)
  subst this
  obtain ⟨v3, hv3, vw3⟩ := slotD_at er3 hs
  rw [hv0] at hv3
  cases hv3
  obtain ⟨p', vs, e', hp, rk⟩ := vw3.dct_inv
  cases e'
  exact ⟨_, DGet.k hp, k _ F3 H3 O3 (tr2.trans tr3) er3 (getD_rp rk r3) fun z => by cases z⟩
def sPutV (i : Nat) (fv fk : EF) : SF := bnd (eD fv) fun d ρ => match ρ[i]? with
  | some (some (.od _)) => bnd (eD fk) (fun k ρ1 => match ρ1[i]?, mkKey k with
    | some (some (.od kvs)), some key => if kvs.length < big then some (.nx (ρ1.set i (some (.od (putD kvs key d))))) else none
    | _, _ => none) ρ
  | _ => none
theorem ds_putV (i : Nat) {y : Str} {py p1 : Pos} {k v : Expr} {fk fv : EF} (n : NmV S i y) (hv : DE S v fv) (hk : DE S k fk) (hs : ∀ X, Stc S X → swapsWith v (some (.Subscript (.Name y py) k p1)) pos.line X.env = pure false := by intros; rfl) :
    DS S (.Assign [.Subscript (.Name y py) k p1] v pos) (sPutV i fv fk) := by
  obtain ⟨tk, pk, ok⟩ := hk
  obtain ⟨tv, pv, ov⟩ := hv
  refine ⟨_, fun X h => ps_dput (hu_of h.room) (n.pe h) (pk X h) (pv X h) (hs X h), ?_⟩
  intro D σ F H O ρ out er hf kk
  obtain ⟨d, ρ1, h1, h2⟩ := bnd_some hf
  split at h2
  rotate_left
  · cases h2
  rename_i kvs0 hi0
  obtain ⟨key0, ρ2, h3, h4⟩ := bnd_some h2
  split at h4
  rotate_left
  · cases h4
  rename_i kvs key hi hkey
  split at h4
  rotate_left
  · cases h4
  rename_i hz
  cases h4
  refine ov.fz σ F H O ρ d _ _ er h1 fun v F1 H1 O1 tr1 er1 r1 => ?_
  obtain ⟨v0, hv0, p, vs0, rfl, op0, hp0, rl0⟩ := er1.sl i _ hi0
  refine ⟨_, hv0, ok.fz σ F1 H1 O1 ρ1 _ _ _ er1 h3 fun u F2 H2 O2 tr2 er2 r2 => ?_⟩
  have := mkKey_v hkey (r2.vw er2.sw.ex)
  subst this
  obtain ⟨v3, hv3, p', vs, e', op, hp, rk⟩ := er2.sl i _ hi
  rw [hv0] at hv3
  cases hv3
  cases e'
  refine ⟨p, _, rfl, DPut.k hp (by rw [rk.len]; exact lt_line hz), ?_⟩
  exact kk σ F2 _ O2 ((tr1.trans tr2).trans (Tr.wr er2.sw op)) (er2.wrD hi hv0 hp op (putD_rp (r1.ext tr2.ex) rk)) FxR.refl

/-! ### own lists by index -/
def gIx (i : Nat) (fk : EF) : D → En → Option En := fun d ρ => match ρ[i]? with
  | some (some (.ol _)) => bnd (eD fk) (fun k ρ1 => match ρ1[i]?, k with
    | some (some (.ol xs)), .int z => (ixN xs.length z).map fun j => ρ1.set i (some (.ol (xs.set j d)))
    | _, _ => none) ρ
  | _ => none
theorem dg_ix (i : Nat) {y : Str} {py : Pos} {k : Expr} {fk : EF} (n : NmV S i y) (hk : DE S k fk)
    (ha : ∀ X, Stc S X → ∀ v, assign (.Subscript (.Name y py) k pos) X.env v = (do
      let ov ← holding [v] (eval (.Name y py) X.env)
      let iv ← holding [v, ov] (eval k X.env)
      standAt pos
      holding [v, ov, iv] (setItem ov iv v)
      release [v, ov, iv] []) := by intros; rfl) : DG S (.Subscript (.Name y py) k pos) (gIx i fk) := by
  obtain ⟨tk, pk, ok⟩ := hk
  refine ⟨_, fun X h => pg_sub (n.pe h) (pk X h) set_list (ha X h), ?_⟩
  intro v d σ F H O ρ ρ' Q er r hf kk
  unfold gIx at hf
  split at hf
  rotate_left
  · cases hf
  rename_i xs0 hi0
  obtain ⟨v0, hv0, p, us0, rfl, op0, hp0, rl0⟩ := er.sl i _ hi0
  obtain ⟨key, ρ1, h1, h2⟩ := bnd_some hf
  split at h2
  rotate_left
  · cases h2
  rename_i xs z hi
  cases hj : ixN xs.length z with
  | none => rw [hj] at h2; cases h2
  | some j =>
    rw [hj] at h2
    cases h2
    refine ⟨_, hv0, ok.fz σ F H O ρ _ _ _ er h1 fun u F2 H2 O2 tr2 er2 r2 => ?_⟩
    obtain rfl := r2.int_inv
    obtain ⟨v3, hv3, p', us, e', op, hp, rl⟩ := er2.sl i _ hi
    rw [hv0] at hv3
    cases hv3
    cases e'
    refine ⟨p, us, z, j, rfl, rfl, hp, by rw [rl.len]; exact hj, ?_⟩
    exact kk σ F2 _ O2 (tr2.trans (Tr.wr er2.sw op)) (er2.wrL hi hv0 hp op (RpL.set (r.ext tr2.ex) j rl)) FxR.refl
/-! ### a tuple or a list taken apart -/
theorem PG.or {X : Cx} {e : Expr} {t u : TG} (h1 : PG X e t) (h2 : PG X e u) : PG X e (fun v σ H Q => t v σ H Q ∨ u v σ H Q) :=
  ⟨fun pins s σ H v w Q I r h => h.elim (h1.run pins s σ H v w Q I r) (h2.run pins s σ H v w Q I r)⟩
def gTU (n : Nat) (f : List D → En → Option En) : D → En → Option En := fun d ρ => match d with
  | .tup ds => if ds.length = n then f ds ρ else none
  | .lst ds => if ds.length = n then f ds ρ else none
  | _ => none
theorem dg_tupU {es : List Expr} {kk n : Nat} {f : List D → En → Option En} (h : DGs S es f) (hn : ∀ X, Stc S X → (assignEach es X.env).length = n := by intros; rfl) (hst : ∀ X, Stc S X → (assignEach es X.env).findIdx? (·.1) = none := by intros; rfl) : DG S (.Tuple es kk pos) (gTU n f) := by
  obtain ⟨t, p, o⟩ := h
  refine ⟨fun v σ H Q => L2.gTup S.G.K n t v σ H Q ∨ gUnl S.G.K n t v σ H Q, fun X hX => by
    have h1 := pg_tup (k := kk) (pos := pos) hX.calm (p X hX) (hn X hX) (hst X hX)
    have h2 := pg_unl (k := kk) (pos := pos) hX.calm (p X hX) (hn X hX) (hst X hX)
    rw [hX.K] at h1 h2
    exact PG.or h1 h2, ?_⟩
  intro v d σ F H O ρ ρ' Q er r hf k
  unfold gTU at hf
  split at hf
  · split at hf
    · rename_i hl
      obtain ⟨a, vs, rfl, hq, rl⟩ := r.tup_inv
      exact .inl ⟨a, vs, rfl, sqT_ext er.sw.ex hq, by rw [rl.len]; exact hl, o vs _ σ F H O ρ ρ' Q er rl hf k⟩
    · cases hf
  · split at hf
    · rename_i hl
      obtain ⟨a, vs, rfl, hq, rl⟩ := r.lst_inv
      exact .inr ⟨a, vs, rfl, SqL.of (er.sw.ex _ _ hq), by rw [rl.len]; exact hl, o vs _ σ F H O ρ ρ' Q er rl hf k⟩
    · cases hf
  · cases hf
/-! ### *e in a display -/
def aStar (f : EF) (r : AF) : AF := bnd (eD f) fun d => match d with
  | .tup xs => bnd r fun ys ρ => some (xs ++ ys, ρ)
  | .lst xs => bnd r fun ys ρ => some (xs ++ ys, ρ)
  | _ => fun _ => none
theorem da_star (ha : DE S a fa) (hr : DA S es fr) (hs : ∀ X, Stc S X → starEach (.Starred a p :: es) X.env = (true, eval a X.env) :: starEach es X.env := by intros; rfl) : DA S (.Starred a p :: es) (aStar fa fr) := by
  obtain ⟨ta, pa, oa⟩ := ha
  obtain ⟨tr, pr, or⟩ := hr
  refine ⟨StX.tStar S.G.K ta tr, fun X h => by have := StX.pa_star (p := p) (pa X h) (pr X h) (hs X h); rw [h.K] at this; exact this, ?_⟩
  intro σ F H O ρ ds ρ' Q er hf k
  obtain ⟨d, ρ1, h1, h2⟩ := bnd_some hf
  refine oa.fz σ F H O ρ d _ _ er h1 fun v F1 H1 O1 tr1 er1 r1 => ?_
  split at h2
  · obtain ⟨ds', ρ2, h3, h4⟩ := bnd_some h2
    cases h4
    obtain ⟨p, us, rfl, hp, ru⟩ := r1.tup_inv
    exact ⟨p, us, rfl, .inl (sqT_ext er1.sw.ex hp), or σ F1 H1 O1 ρ1 ds' _ _ er1 h3 fun vs F2 H2 O2 tr2 er2 r2 => k _ F2 H2 O2 (tr1.trans tr2) er2 ((ru.ext tr2.ex).app r2)⟩
  · obtain ⟨ds', ρ2, h3, h4⟩ := bnd_some h2
    cases h4
    obtain ⟨p, us, rfl, hp, ru⟩ := r1.lst_inv
    exact ⟨p, us, rfl, .inr (SqL.of (er1.sw.ex _ _ hp)), or σ F1 H1 O1 ρ1 ds' _ _ er1 h3 fun vs F2 H2 O2 tr2 er2 r2 => k _ F2 H2 O2 (tr1.trans tr2) er2 ((ru.ext tr2.ex).app r2)⟩
  · cases h2

/-! ### values kept as they are made: own lists and dicts stay own -/
inductive SlRs (K : PySem.W.Frag) (F H : Hp) (O : Own) : List V → List Sl → Prop
  | nil : SlRs K F H O [] []
  | cons {v s vs ss} : SlR K F H O s v → (s.own = true → ∀ (j : Nat) (t : Sl), ss[j]? = some t → t.own = true → vs[j]? ≠ some v) → SlRs K F H O vs ss → SlRs K F H O (v :: vs) (s :: ss)
abbrev SAF := En → Option (List Sl × En)
def AsOK (K : PySem.W.Frag) (t : TA) (f : SAF) : Prop := ∀ (σ : L2.St) (F H : Hp) (O : Own) (ρ : En) (ss : List Sl) (ρ' : En) (Q : List V → Hp → Prop), ER K F H O σ ρ → f ρ = some (ss, ρ') →
  (∀ vs F' H' O', Tr F H O F' H' O' → ER K F' H' O' σ ρ' → SlRs K F' H' O' vs ss → (∀ (j : Nat) (s : Sl) (v : V), ss[j]? = some s → vs[j]? = some v → Frs σ ρ' s v) → Q vs H') → t σ H Q
def DAs (S : Sc) (es : List Expr) (f : SAF) : Prop := ∃ t : TA, (∀ X, Stc S X → PA X es t) ∧ AsOK S.G.K t f
def asNil : SAF := fun ρ => some ([], ρ)
def asCons (f : EF) (r : SAF) : SAF := bnd f fun s => bnd r fun ss ρ => some (s :: ss, ρ)
theorem das_nil : DAs S [] asNil := ⟨tNil, fun _ _ => pa_nil, by
  intro σ F H O ρ ds ρ' Q er hf k
  cases hf
  exact k [] F H O Tr.refl er .nil (fun j s v h => by simp at h)⟩
theorem SlRs.own_at {K : PySem.W.Frag} {F H : Hp} {O : Own} : ∀ {vs : List V} {ss : List Sl} {j : Nat} {s : Sl} {v : V}, SlRs K F H O vs ss → ss[j]? = some s → vs[j]? = some v → SlR K F H O s v
  | _, _, _, _, _, .nil, h, _ => by simp at h
  | _, _, 0, _, _, .cons r _ _, h, h' => by
    simp at h h'
    subst h h'
    exact r
  | _, _, j + 1, _, _, .cons _ _ t, h, h' => SlRs.own_at (j := j) t (by simpa using h) (by simpa using h')
theorem SlRs.mono {K : PySem.W.Frag} {F H : Hp} {O O' : Own} (h : ∀ a, O a → O' a) : ∀ {vs : List V} {ss : List Sl}, SlRs K F H O vs ss → SlRs K F H O' vs ss
  | _, _, .nil => .nil
  | _, _, .cons r d t => .cons (r.mono (Same.refl _) fun p o _ a b => ⟨b, h p a⟩) d (SlRs.mono h t)
theorem SlR.rpOf {K : PySem.W.Frag} {F H : Hp} {O : Own} {s : Sl} {v : V} (h : SlR K F H O s v) (ho : s.own = false) : ∃ d, s = .im d ∧ Rp K F v d := by
  cases s with
  | im d => exact ⟨d, rfl, h⟩
  | ol _ => cases ho
  | od _ => cases ho
theorem das_cons (ha : DE S a fa) {fr : SAF} (hr : DAs S es fr) (hs : ∀ X, Stc S X → starEach (a :: es) X.env = (false, eval a X.env) :: starEach es X.env := by intros; rfl) : DAs S (a :: es) (asCons fa fr) := by
  obtain ⟨ta, pa, oa⟩ := ha
  obtain ⟨tr, pr, or⟩ := hr
  refine ⟨tCons ta tr, fun X h => pa_cons (pa X h) (pr X h) (hs X h), ?_⟩
  intro σ F H O ρ ss0 ρ' Q er hf k
  obtain ⟨s, ρ1, h1, h2⟩ := bnd_some hf
  obtain ⟨ss, ρ2, h3, h4⟩ := bnd_some h2
  cases h4
  refine oa σ F H O ρ s _ _ er h1 fun v F1 H1 O1 tr1 er1 r1 f1 => ?_
  cases ho : s.own with
  | false =>
    obtain ⟨d, rfl, rd⟩ := r1.rpOf ho
    refine or σ F1 H1 O1 ρ1 ss _ _ er1 h3 fun vs F2 H2 O2 tr2 er2 r2 f2 => k _ F2 H2 O2 (tr1.trans tr2) er2 (.cons (rd.ext tr2.ex) (fun z => by cases z) r2) fun j t w hj hw => ?_
    cases j with
    | zero =>
      simp at hj hw
      subst hj hw
      exact fun z => by cases z
    | succ j => exact f2 j t w (by simpa using hj) (by simpa using hw)
  | true =>
    obtain ⟨p, rfl, op⟩ := r1.own_at ho
    obtain ⟨o, hp⟩ : ∃ o, H1 p = some o := by
      cases q : H1 p with
      | none => exact absurd q (er1.sw.live p op)
      | some o => exact ⟨o, rfl⟩
    have fp : F1 p = none := er1.sw.off p op
    have w1 : SW F1 H1 (OD O1 p) := ⟨er1.sw.ex, fun a q => er1.sw.off a q.1, fun a q => er1.sw.live a q.1⟩
    have erD : ER S.G.K F1 H1 (OD O1 p) σ ρ1 := by
      refine ⟨w1, er1.len, fun i t hi => ?_, er1.dis⟩
      obtain ⟨w', h5, h6⟩ := er1.sl i t hi
      refine ⟨w', h5, ?_⟩
      cases hto : t.own with
      | false =>
        obtain ⟨d, rfl, rd⟩ := h6.rpOf hto
        exact rd
      | true => exact h6.mono (Same.refl _) fun q u e oq hq => ⟨hq, oq, fun z => f1 ho i t hi hto (by rw [h5, e, z])⟩
    refine or σ F1 H1 (OD O1 p) ρ1 ss _ _ erD h3 fun vs F2 H2 O2 tr2 er2 r2 f2 => ?_
    have hp2 : H2 p = some o := tr2.keep p o hp fun z => z.2 rfl
    have no2 : ¬ O2 p := fun z => by
      rcases tr2.own p z with q | q
      · exact q.2 rfl
      · rw [hp] at q; cases q
    have fp2 : F2 p = none := by
      cases q : F2 p with
      | none => rfl
      | some u =>
        rcases tr2.frz p (by rw [q]; simp) with z | z | z
        · exact absurd fp z
        · exact absurd rfl z.2
        · rw [hp] at z; cases z
    have er2' : ER S.G.K F2 H2 (OA O2 p) σ ρ' := er2.addO fp2 (by rw [hp2]; simp)
    have tr2' : Tr F1 H1 O1 F2 H2 (OA O2 p) := by
      have t := tr2.more (p := p)
      exact ⟨t.ex, fun a u e n => t.keep a u e fun z => by
        rcases z with z | z
        · exact n z.1
        · rw [z] at n; exact n op, fun a q => by
        rcases t.own a q with (z | z) | z
        · exact .inl z.1
        · rw [z]; exact .inl op
        · exact .inr z, fun a q => by
        rcases t.frz a q with z | (z | z) | z
        · exact .inl z
        · exact .inr (.inl z.1)
        · rw [z]; exact .inr (.inl op)
        · exact .inr (.inr z), t.live⟩
    have r1' : SlR S.G.K F2 H2 (OA O2 p) s (.ref p) := r1.mono tr2.ex fun q u e oq hq => by
      cases e
      rw [hp] at hq
      cases hq
      exact ⟨hp2, .inr rfl⟩
    refine k _ F2 H2 _ (tr1.trans tr2') er2' (.cons r1' (fun _ j t hj hto hv => ?_) (r2.mono fun a q => .inl q)) fun j t w hj hw => ?_
    · obtain ⟨q, e, oq⟩ := (r2.own_at hj hv).own_at hto
      cases e
      exact no2 oq
    · cases j with
      | zero =>
        simp at hj hw
        subst hj hw
        intro _ j' t' hj' ht' e
        obtain ⟨w', h5, h6⟩ := er2.sl j' t' hj'
        rw [e] at h5
        cases h5
        obtain ⟨q, e2, oq⟩ := h6.own_at ht'
        cases e2
        exact no2 oq
      | succ j => exact f2 j t w (by simpa using hj) (by simpa using hw)
theorem ER.setF {K : PySem.W.Frag} {F H : Hp} {O : Own} {σ : L2.St} {ρ : En} {i : Nat} {s : Sl} {v : V} (h : ER K F H O σ ρ) (r : SlR K F H O s v) (f : Frs σ ρ s v) : ER K F H O (σ.set i (some v)) (ρ.set i (some s)) := h.set r fun ho j t _ => f ho j t
theorem Frs.set {σ : L2.St} {ρ : En} {i : Nat} {s s1 : Sl} {v v1 : V} (f : Frs σ ρ s v) (d : s.own = true → s1.own = true → v1 ≠ v) : Frs (σ.set i (some v1)) (ρ.set i (some s1)) s v := by
  intro ho j t hj ht e
  by_cases hji : i = j
  · subst hji
    have hl : i < ρ.length := by obtain ⟨z, _⟩ := List.getElem?_eq_some_iff.mp hj; simpa using z
    rw [List.getElem?_set_self hl] at hj
    cases hj
    have hl2 : i < σ.length := by obtain ⟨z, _⟩ := List.getElem?_eq_some_iff.mp e; simpa using z
    rw [List.getElem?_set_self hl2] at e
    cases e
    exact d ho ht rfl
  · rw [List.getElem?_set_ne hji] at hj e
    exact f ho j t hj ht e
def sPar2 (i j : Nat) (r : SAF) : SF := bnd r fun ss ρ => match ss with
  | [s1, s2] => some (.nx ((ρ.set i (some s1)).set j (some s2)))
  | _ => none
def sPar3 (i j l : Nat) (r : SAF) : SF := bnd r fun ss ρ => match ss with
  | [s1, s2, s3] => some (.nx (((ρ.set i (some s1)).set j (some s2)).set l (some s3)))
  | _ => none
theorem ds_par2 (i j : Nat) {x y : Str} {px py pt p2 : Pos} {kt k2 : Nat} {fr : SAF} (h : DAs S [a, b] fr) (hN1 : S.N[i]? = some x := by rfl) (hN2 : S.N[j]? = some y := by rfl) (h1 : S.sc.names.lookup x = some .local := by rfl) (h2 : S.sc.names.lookup y = some .local := by rfl)
    (hij : i ≠ j := by decide) (hw : ∀ X, Stc S X → swappedStores [.Tuple [.Name x px, .Name y py] kt pt] (.Tuple [a, b] k2 p2) X.env = pure (some [x, y]) := by intros; rfl)
    (hs : ∀ X, Stc S X → swapsWithSole [.Tuple [.Name x px, .Name y py] kt pt] (.Tuple [a, b] k2 p2) pos.line X.env = pure false := by intros; rfl) (hx1 : S.fx i = false := by rfl) (hx2 : S.fx j = false := by rfl) :
    DS S (.Assign [.Tuple [.Name x px, .Name y py] kt pt] (.Tuple [a, b] k2 p2) pos) (sPar2 i j fr) := by
  obtain ⟨t, pt, o⟩ := h
  refine ⟨tPar i j t, fun X hX => ps_par hX.calm (by rw [hX.N]; exact S.nd) (by rw [hX.N]; exact hN1) (by rw [hX.N]; exact hN2) hij (by rw [hX.sc]; exact h1) (by rw [hX.sc]; exact h2) (pt X hX) (hw X hX) (hs X hX), ?_⟩
  intro D σ F H O ρ out er hf k
  obtain ⟨ss, ρ1, h3, h4⟩ := bnd_some hf
  refine o σ F H O ρ ss ρ1 _ er h3 fun vs F1 H1 O1 tr er1 rl f => ?_
  split at h4
  · cases h4
    cases rl with
    | cons r1 d1 rl =>
      cases rl with
      | cons r2 d2 rl =>
        cases rl
        refine ⟨_, _, rfl, k _ F1 H1 O1 tr ((er1.setF r1 (f 0 _ _ rfl rfl)).setF r2 ((f 1 _ _ rfl rfl).set fun z1 z2 e => d1 z2 0 _ rfl z1 (by rw [e]; rfl))) ((FxR.set hx1).trans (FxR.set hx2))⟩
  · cases h4
theorem ds_par3 (i j l : Nat) {c : Expr} {x y z : Str} {px py pz pt p2 : Pos} {kt k2 : Nat} {fr : SAF} (h : DAs S [a, b, c] fr) (hN1 : S.N[i]? = some x := by rfl) (hN2 : S.N[j]? = some y := by rfl) (hN3 : S.N[l]? = some z := by rfl) (h1 : S.sc.names.lookup x = some .local := by rfl) (h2 : S.sc.names.lookup y = some .local := by rfl) (h3 : S.sc.names.lookup z = some .local := by rfl)
    (hij : i ≠ j := by decide) (hil : i ≠ l := by decide) (hjl : j ≠ l := by decide) (hw : ∀ X, Stc S X → swappedStores [.Tuple [.Name x px, .Name y py, .Name z pz] kt pt] (.Tuple [a, b, c] k2 p2) X.env = pure (some [x, y, z]) := by intros; rfl)
    (hs : ∀ X, Stc S X → swapsWithSole [.Tuple [.Name x px, .Name y py, .Name z pz] kt pt] (.Tuple [a, b, c] k2 p2) pos.line X.env = pure false := by intros; rfl) (hx1 : S.fx i = false := by rfl) (hx2 : S.fx j = false := by rfl) (hx3 : S.fx l = false := by rfl) :
    DS S (.Assign [.Tuple [.Name x px, .Name y py, .Name z pz] kt pt] (.Tuple [a, b, c] k2 p2) pos) (sPar3 i j l fr) := by
  obtain ⟨t, pt, o⟩ := h
  refine ⟨tPar3 i j l t, fun X hX => ps_par3 hX.calm (by rw [hX.N]; exact S.nd) (by rw [hX.N]; exact hN1) (by rw [hX.N]; exact hN2) (by rw [hX.N]; exact hN3) hij hil hjl (by rw [hX.sc]; exact h1) (by rw [hX.sc]; exact h2) (by rw [hX.sc]; exact h3) (pt X hX) (hw X hX) (hs X hX), ?_⟩
  intro D σ F H O ρ out er hf k
  obtain ⟨ss, ρ1, h3, h4⟩ := bnd_some hf
  refine o σ F H O ρ ss ρ1 _ er h3 fun vs F1 H1 O1 tr er1 rl f => ?_
  split at h4
  · cases h4
    cases rl with
    | cons r1 d1 rl =>
      cases rl with
      | cons r2 d2 rl =>
        cases rl with
        | cons r3 d3 rl =>
          cases rl
          refine ⟨_, _, _, rfl, k _ F1 H1 O1 tr (((er1.setF r1 (f 0 _ _ rfl rfl)).setF r2 ((f 1 _ _ rfl rfl).set fun z1 z2 e => d1 z2 0 _ rfl z1 (by rw [e]; rfl))).setF r3
            (((f 2 _ _ rfl rfl).set fun z1 z2 e => d1 z2 1 _ rfl z1 (by rw [e]; rfl)).set fun z1 z2 e => d2 z2 0 _ rfl z1 (by rw [e]; rfl))) (((FxR.set hx1).trans (FxR.set hx2)).trans (FxR.set hx3))⟩
  · cases h4
end
end DL

set_option Elab.async false
set_option linter.all false
set_option maxRecDepth 100000
set_option maxHeartbeats 4000000
/-! DLZip: list(zip(s, t)) of two tuples. -/
namespace DL
open PySem PySem.Spec PyProof.Rows L2 RZ PySem.W

theorem znl_len : typeLookup (.type "zip") "__len__" = pure none := by rw [typeLookup_type, builtinLookup_eq_fast]; kernel_rfl
theorem znl_hint : typeLookup (.type "zip") "__length_hint__" = pure none := by rw [typeLookup_type, builtinLookup_eq_fast]; kernel_rfl

section
variable {prog : Program} {w : World} {A : Around} {E : Value → Shared → Prop} {s : Shared}
variable {z TI TO T i1 i2 l1 l2 : Addr} {f : Bool} {oT : Obj} {k1 k2 : Nat} {xs ys : Array Value} {x y : Value}
/-- one more pair, the last one still out -/
theorem zt_item {Q : Value → Shared → Prop} (D : ZipApart z TI TO i1 i2 l1 l2) (hz : IsZipHeld s.heap z TI TO T f) (hT : s.heap.get? T = some oT) (hTI : IsPair s.heap TI (.ref i1) (.ref i2))
    (h1 : s.heap.IsTupleIter i1 l1 k1) (h2 : s.heap.IsTupleIter i2 l2 k2) (hl1 : s.heap.IsTuple l1 xs) (hl2 : s.heap.IsTuple l2 ys) (hx : xs[k1]? = some x) (hy : ys[k2]? = some y)
    (hQ : ∀ h', IsZipHeld h' z TI TO T true → h'.IsTupleIter i1 l1 (k1 + 1) → h'.IsTupleIter i2 l2 (k2 + 1) → IsPair h' s.heap.objs.size x y → h'.objs.size = s.heap.objs.size + 1 →
      (∀ c o, c ≠ z → c ≠ i1 → c ≠ i2 → s.heap.get? c = some o → h'.get? c = some o) → Q (.ref s.heap.objs.size) { s with heap := h' }) :
    wpAny (model prog w) A (Builtin.«zip.__next__» ⟨[.ref z], []⟩) (fun fin s' => ∃ v, fin = .done (.ret v) ∧ Q v s') E s := by
  show wpAny _ _ (field (.ref z) 2 >>= _) _ _ _
  refine wpAny_bind (wpAny_field hz rfl (x := .bool false) rfl ?_)
  show wpAny _ _ (field (.ref z) 3 >>= _) _ _ _
  refine wpAny_bind (wpAny_field hz rfl (x := .ref TI) rfl (wpAny_bind (wpAny_seqItems hTI rfl ?_)))
  show wpAny _ _ (Builtin.SmallTypes.ownedTupleIsFree (.ref z) >>= _) _ _ _
  refine wpAny_bind (wpAny_tupleHeld_zip hz hT fun g1 hz1 e1 => ?_)
  simp only [Bool.false_eq_true, if_false]
  refine wpAny_bind ?_
  rw [← Array.forIn_toList]
  simp only [List.forIn_cons, List.forIn_nil]
  refine wpAny_bind (wpAny_bind (wpAny_holding ?_))
  show wpAny _ _ (Builtin.SmallTypes.nextOf (.ref i1) >>= _) _ _ _
  refine wpAny_bind (nextOf_tuple_item (s := { s with heap := g1 }) (h1.extBut e1.extBut D.i1z) (hl1.extBut e1.extBut D.l1z) hx fun g2 a1 e2 => wpAny_pure (wpAny_pure ?_))
  refine wpAny_bind (wpAny_bind (wpAny_holding ?_))
  show wpAny _ _ (Builtin.SmallTypes.nextOf (.ref i2) >>= _) _ _ _
  refine wpAny_bind (nextOf_tuple_item (s := { s with heap := g2 }) ((h2.extBut e1.extBut D.i2z).extBut e2.extBut D.i12.symm) ((hl2.extBut e1.extBut D.l2z).extBut e2.extBut D.l2i1) hy fun g3 a2 e3 => wpAny_pure (wpAny_pure (wpAny_pure ?_)))
  show wpAny _ _ (newTuple [x, y] >>= _) _ _ _
  refine wpAny_bind (wpAny_newTuple ?_)
  have sz : g3.objs.size = s.heap.objs.size := by rw [e3.1, e2.1, e1.1]
  have z3 : IsZipHeld g3 z TI TO T true := e3.extBut _ _ D.i2z.symm (e2.extBut _ _ D.i1z.symm hz1)
  have kp : ∀ c o, c ≠ z → c ≠ i1 → c ≠ i2 → s.heap.get? c = some o → g3.get? c = some o := fun c o c1 c2 c3 e => e3.extBut _ _ c3 (e2.extBut _ _ c2 (e1.extBut _ _ c1 e))
  have a13 : g3.IsTupleIter i1 l1 (k1 + 1) := a1.extBut e3.extBut D.i12
  refine wpAny_pure ⟨_, rfl, ?_⟩
  show Q (.ref g3.objs.size) _
  have hp : IsPair (g3.push { cls := .type "tuple", data := .seq #[x, y] }) g3.objs.size x y := Heap.get?_push_size _ rfl
  have s4 : (g3.push { cls := .type "tuple", data := .seq #[x, y] }).objs.size = g3.objs.size + 1 := Heap.size_push ..
  rw [sz] at hp s4 ⊢
  exact hQ _ (Heap.get?_push_of_some _ z3) (a13.at fun o e => Heap.get?_push_of_some _ e) (a2.at fun o e => Heap.get?_push_of_some _ e) hp s4 fun c o c1 c2 c3 e => Heap.get?_push_of_some _ (kp c o c1 c2 c3 e)
theorem zt_end {Q : Fin → Shared → Prop} (hh : A.handled = none) (D : ZipApart z TI TO i1 i2 l1 l2) (hz : IsZipHeld s.heap z TI TO T f) (hT : s.heap.get? T = some oT) (hTI : IsPair s.heap TI (.ref i1) (.ref i2))
    (h1 : s.heap.IsTupleIter i1 l1 k1) (h2 : s.heap.IsTupleIter i2 l2 k2) (hl1 : s.heap.IsTuple l1 xs) (hl2 : s.heap.IsTuple l2 ys) (hend : xs[k1]? = none ∨ ys[k2]? = none)
    (hE : ∀ h' e, (∀ c o, c ≠ z → c ≠ i1 → c ≠ i2 → s.heap.get? c = some o → h'.get? c = some o) → (∃ o, h'.get? e = some o ∧ o.cls = .type "StopIteration") → E (.ref e) { s with heap := h' }) :
    wpAny (model prog w) A (Builtin.«zip.__next__» ⟨[.ref z], []⟩) Q E s := by
  show wpAny _ _ (field (.ref z) 2 >>= _) _ _ _
  refine wpAny_bind (wpAny_field hz rfl (x := .bool false) rfl ?_)
  show wpAny _ _ (field (.ref z) 3 >>= _) _ _ _
  refine wpAny_bind (wpAny_field hz rfl (x := .ref TI) rfl (wpAny_bind (wpAny_seqItems hTI rfl ?_)))
  show wpAny _ _ (Builtin.SmallTypes.ownedTupleIsFree (.ref z) >>= _) _ _ _
  refine wpAny_bind (wpAny_tupleHeld_zip hz hT fun g1 hz1 e1 => ?_)
  simp only [Bool.false_eq_true, if_false]
  refine wpAny_bind ?_
  rw [← Array.forIn_toList]
  simp only [List.forIn_cons, List.forIn_nil]
  refine wpAny_bind (wpAny_bind (wpAny_holding ?_))
  show wpAny _ _ (Builtin.SmallTypes.nextOf (.ref i1) >>= _) _ _ _
  cases hx : xs[k1]? with
  | none =>
    refine wpAny_bind (nextOf_tuple_end (s := { s with heap := g1 }) hh (h1.extBut e1.extBut D.i1z) (hl1.extBut e1.extBut D.l1z) hx fun g2 e e2 he => ?_)
    exact hE g2 e (fun c o c1 c2 _ x => e2 _ _ c2 (e1.extBut _ _ c1 x)) he
  | some x =>
    have hy : ys[k2]? = none := by rcases hend with h | h; rw [hx] at h; cases h; exact h
    refine wpAny_bind (nextOf_tuple_item (s := { s with heap := g1 }) (h1.extBut e1.extBut D.i1z) (hl1.extBut e1.extBut D.l1z) hx fun g2 a1 e2 => wpAny_pure (wpAny_pure ?_))
    refine wpAny_bind (wpAny_bind (wpAny_holding ?_))
    show wpAny _ _ (Builtin.SmallTypes.nextOf (.ref i2) >>= _) _ _ _
    refine wpAny_bind (nextOf_tuple_end (s := { s with heap := g2 }) hh ((h2.extBut e1.extBut D.i2z).extBut e2.extBut D.i12.symm) ((hl2.extBut e1.extBut D.l2z).extBut e2.extBut D.l2i1) hy fun g3 e e3 he => ?_)
    exact hE g3 e (fun c o c1 c2 c3 x => e3 _ _ c3 (e2.extBut _ _ c2 (e1.extBut _ _ c1 x))) he

/-- the iterators as they stand before turn k; S: what they keep off -/
structure ZSt (h : Heap) (S z TI TO i1 i2 l1 l2 : Addr) (xs ys : Array Value) (k : Nat) : Prop where
  st : (IsZip h z TI TO .none ∧ ∃ a b, IsPair h TO a b) ∨ ∃ T f oT, IsZipHeld h z TI TO T f ∧ h.get? T = some oT ∧ T ≠ z ∧ T ≠ i1 ∧ T ≠ i2 ∧ T ≠ S
  ti : IsPair h TI (.ref i1) (.ref i2)
  a1 : h.IsTupleIter i1 l1 k
  a2 : h.IsTupleIter i2 l2 k
  t1 : h.IsTuple l1 xs
  t2 : h.IsTuple l2 ys
variable {S : Addr} {h h' : Heap} {k : Nat}
theorem ZSt.keep (Z : ZSt h S z TI TO i1 i2 l1 l2 xs ys k) (n : S ≠ z ∧ S ≠ TI ∧ S ≠ TO ∧ S ≠ i1 ∧ S ≠ i2 ∧ S ≠ l1 ∧ S ≠ l2) (e : ∀ b o, b ≠ S → h.get? b = some o → h'.get? b = some o) : ZSt h' S z TI TO i1 i2 l1 l2 xs ys k where
  st := by
    rcases Z.st with ⟨a, x, y, b⟩ | ⟨T, f, oT, a, b, c, d, g, q⟩
    · exact .inl ⟨e _ _ n.1.symm a, x, y, e _ _ n.2.2.1.symm b⟩
    · exact .inr ⟨T, f, oT, e _ _ n.1.symm a, e _ _ q b, c, d, g, q⟩
  ti := e _ _ n.2.1.symm Z.ti
  a1 := Z.a1.at fun o x => e _ _ n.2.2.2.1.symm x
  a2 := Z.a2.at fun o x => e _ _ n.2.2.2.2.1.symm x
  t1 := Z.t1.at fun o x => e _ _ n.2.2.2.2.2.1.symm x
  t2 := Z.t2.at fun o x => e _ _ n.2.2.2.2.2.2.symm x
theorem zs_item {Q : Option Value → Shared → Prop} (D : ZipApart z TI TO i1 i2 l1 l2) (Z : ZSt s.heap S z TI TO i1 i2 l1 l2 xs ys k) (hS : S < s.heap.objs.size) (hx : xs[k]? = some x) (hy : ys[k]? = some y)
    (hQ : ∀ h', ZSt h' S z TI TO i1 i2 l1 l2 xs ys (k + 1) → IsPair h' s.heap.objs.size x y → h'.objs.size = s.heap.objs.size + 1 → (∀ c o, c ≠ z → c ≠ TO → c ≠ i1 → c ≠ i2 → s.heap.get? c = some o → h'.get? c = some o) → Q (some (.ref s.heap.objs.size)) { s with heap := h' }) :
    wpAny (model prog w) A (pyNext (.ref z)) Q E s := by
  have lt : ∀ {c o}, s.heap.get? c = some o → s.heap.objs.size ≠ c := fun e => Nat.ne_of_gt (Heap.lt_size e)
  have lz : s.heap.objs.size ≠ z := by
    rcases Z.st with ⟨a, _⟩ | ⟨T, f, oT, a, _⟩ <;> exact lt a
  have li1 : s.heap.objs.size ≠ i1 := by obtain ⟨_, e, _⟩ := Z.a1; exact lt e
  have li2 : s.heap.objs.size ≠ i2 := by obtain ⟨_, e, _⟩ := Z.a2; exact lt e
  rcases Z.st with ⟨a, u, v, b⟩ | ⟨T, f, oT, a, b, c, d, g, q⟩
  · refine pyNext_zipT_item D a Z.ti b Z.a1 Z.a2 Z.t1 Z.t2 hx hy fun h' b1 b2 b3 b4 b5 b6 b7 => hQ h' ?_ b5 b6 b7
    refine ⟨.inr ⟨s.heap.objs.size, false, _, b1, b5, lz, li1, li2, Nat.ne_of_gt hS⟩, b7 _ _ D.TIz D.TITO D.TIi1 D.TIi2 Z.ti, b3, b4, Z.t1.at fun o e => b7 _ o D.l1z D.l1TO D.l1i1 D.l1i2 e, Z.t2.at fun o e => b7 _ o D.l2z D.l2TO D.l2i1 D.l2i2 e⟩
  · have hTy : s.TypeIs (.ref z) "zip" := ⟨_, a, rfl⟩
    unfold pyNext
    refine wpAny_bind (wpAny_attempt (wpAny_callSpecial?_slot (name := Str.ofString "__next__") hTy F.slot_zip_next (wpAny_call_entry F.slot_zip_next hTy F.entry_zip_next
      (zt_item D a b Z.ti Z.a1 Z.a2 Z.t1 Z.t2 hx hy fun h' b1 b3 b4 b5 b6 b7 => wpAny_pure (hQ h' ?_ b5 b6 fun c o c1 _ c3 c4 e => b7 c o c1 c3 c4 e)) (F.args_zip_next_1 _))))
    exact ⟨.inr ⟨T, true, oT, b1, b7 _ _ c d g b, c, d, g, q⟩, b7 _ _ D.TIz D.TIi1 D.TIi2 Z.ti, b3, b4, Z.t1.at fun o e => b7 _ o D.l1z D.l1i1 D.l1i2 e, Z.t2.at fun o e => b7 _ o D.l2z D.l2i1 D.l2i2 e⟩
theorem zs_end {Q : Option Value → Shared → Prop} (hh : A.handled = none) (D : ZipApart z TI TO i1 i2 l1 l2) (Z : ZSt s.heap S z TI TO i1 i2 l1 l2 xs ys k) (hend : xs[k]? = none ∨ ys[k]? = none)
    (hQ : ∀ h', (∀ c o, c ≠ z → c ≠ TO → c ≠ i1 → c ≠ i2 → s.heap.get? c = some o → h'.get? c = some o) → Q none { s with heap := h' }) :
    wpAny (model prog w) A (pyNext (.ref z)) Q E s := by
  rcases Z.st with ⟨a, u, v, b⟩ | ⟨T, f, oT, a, b, c, d, g, q⟩
  · exact pyNext_zipT_end hh D a Z.ti b Z.a1 Z.a2 Z.t1 Z.t2 hend hQ
  · have hTy : s.TypeIs (.ref z) "zip" := ⟨_, a, rfl⟩
    unfold pyNext
    refine wpAny_bind (wpAny_attempt (wpAny_callSpecial?_slot (name := Str.ofString "__next__") hTy F.slot_zip_next (wpAny_call_entry F.slot_zip_next hTy F.entry_zip_next
      (zt_end hh D a b Z.ti Z.a1 Z.a2 Z.t1 Z.t2 hend fun h' e hk he => ?_) (F.args_zip_next_1 _))))
    obtain ⟨o, ho, hc⟩ := he
    exact wpAny_bind (wpAny_isInstance (T := "StopIteration") (b := true) ⟨o, ho, hc⟩ isSubtype_stop (wpAny_pure (hQ _ fun c o c1 _ c3 c4 e => hk c o c1 c3 c4 e)))

/-- what has been gathered: the pairs at as, above lo -/
structure ZG (h : Heap) (lo : Addr) (xs ys : Array Value) (as : List Addr) : Prop where
  rise : as.Pairwise (· < ·)
  above : ∀ a ∈ as, lo < a
  pair : ∀ (j : Nat) (a : Addr), as[j]? = some a → ∃ x y, xs[j]? = some x ∧ ys[j]? = some y ∧ IsPair h a x y
def zmin (xs ys : Array Value) : Nat := min xs.size ys.size
theorem z_loop {R : Result → Shared → Prop} (hh : A.handled = none) (D : ZipApart z TI TO i1 i2 l1 l2) (nS : S ≠ z ∧ S ≠ TI ∧ S ≠ TO ∧ S ≠ i1 ∧ S ≠ i2 ∧ S ≠ l1 ∧ S ≠ l2) (hn : zmin xs ys ≤ sizeLine) {lo : Addr} (hlo : S ≤ lo ∧ z ≤ lo ∧ TO ≤ lo ∧ i1 ≤ lo ∧ i2 ≤ lo) {h₁ : Heap}
    (hR : ∀ h' acc c as, (∀ b o, b ≠ S → b ≠ z → b ≠ TO → b ≠ i1 → b ≠ i2 → h₁.get? b = some o → h'.get? b = some o) → h'.get? S = some { cls := .type "list", dict := none, data := .seq acc c, slots := #[] } → as.length = zmin xs ys → ZG h' lo xs ys as → acc.toList = as.map Value.ref → R (.ok (.ret .none)) { s with heap := h' }) :
    ∀ (k i : Nat) (h : Heap) (c : Nat) (acc : Array Value) (as : List Addr), zmin xs ys - i = k → i ≤ zmin xs ys → ZSt h S z TI TO i1 i2 l1 l2 xs ys i → (∀ b o, b ≠ S → b ≠ z → b ≠ TO → b ≠ i1 → b ≠ i2 → h₁.get? b = some o → h.get? b = some o) →
      h.get? S = some { cls := .type "list", dict := none, data := .seq acc c, slots := #[] } → acc.toList = as.map Value.ref → as.length = i → ZG h lo xs ys as → lo < h.objs.size →
      codeAny (model prog w) A (.builtin "list.extend.loop" ⟨[.ref S, .ref z, .none], []⟩) R { s with heap := h } := by
  intro k
  induction k with
  | zero =>
    intro i h c acc as hk hi Z hkeep hS hacc hal hG hIs
    have hin : i = zmin xs ys := by omega
    refine codeAny_builtin PySem.F.entry_extend_loop ?_
    rw [Around.under_plainId PySem.F.plain_extend_loop _]
    show wpAny _ A.in1 (pyNext (.ref z) >>= _) _ _ _
    have hend : xs[i]? = none ∨ ys[i]? = none := by
      unfold zmin at hin
      rcases Nat.le_total xs.size ys.size with h | h
      · exact .inl (Array.getElem?_eq_none (by omega))
      · exact .inr (Array.getElem?_eq_none (by omega))
    refine wpAny_bind (zs_end (s := { s with heap := h }) (A := A.in1) hh D Z hend fun h' he => ?_)
    refine wpAny_pure (hR h' acc c as (fun b o q1 q2 q3 q4 q5 e => he b o q2 q3 q4 q5 (hkeep b o q1 q2 q3 q4 q5 e)) (he S _ nS.1 nS.2.2.1 nS.2.2.2.1 nS.2.2.2.2.1 hS) (by omega) ⟨hG.rise, hG.above, fun j a hj => ?_⟩ hacc)
    obtain ⟨x, y, e1, e2, e3⟩ := hG.pair j a hj
    have hb := hG.above a (List.mem_of_getElem? hj)
    exact ⟨x, y, e1, e2, he a _ (Nat.ne_of_gt (Nat.lt_of_le_of_lt hlo.2.1 hb)) (Nat.ne_of_gt (Nat.lt_of_le_of_lt hlo.2.2.1 hb)) (Nat.ne_of_gt (Nat.lt_of_le_of_lt hlo.2.2.2.1 hb)) (Nat.ne_of_gt (Nat.lt_of_le_of_lt hlo.2.2.2.2 hb)) e3⟩
  | succ k ih =>
    intro i h c acc as hk hi Z hkeep hS hacc hal hG hIs
    have hlt : i < zmin xs ys := by omega
    obtain ⟨x, hx⟩ : ∃ x, xs[i]? = some x := ⟨_, Array.getElem?_eq_getElem (by unfold zmin at hlt; omega)⟩
    obtain ⟨y, hy⟩ : ∃ y, ys[i]? = some y := ⟨_, Array.getElem?_eq_getElem (by unfold zmin at hlt; omega)⟩
    have hsz : acc.size = i := by rw [← Array.length_toList, hacc, List.length_map, hal]
    refine codeAny_builtin PySem.F.entry_extend_loop ?_
    rw [Around.under_plainId PySem.F.plain_extend_loop _]
    show wpAny _ A.in1 (pyNext (.ref z) >>= _) _ _ _
    refine wpAny_bind (zs_item (s := { s with heap := h }) D Z (Heap.lt_size hS) hx hy fun h' Z' ht hz hkp => ?_)
    dsimp only at ht hz hkp ⊢
    have hS' := hkp S _ nS.1 nS.2.2.1 nS.2.2.2.1 nS.2.2.2.2.1 hS
    have up : ∀ b o, b ≠ S → h'.get? b = some o → (h'.update S (Obj.mapSeq (·.push (Value.ref h.objs.size)))).get? b = some o := fun b o hb e => (Heap.get?_update_other _ _ (Ne.symm hb)).trans e
    have hSl : S < h.objs.size := Heap.lt_size hS
    show wpAny _ A.in1 (updateSeq S (·.push (Value.ref h.objs.size)) >>= _) _ _ _
    refine wpAny_bind ?_
    refine wpAny_updateSeq hS' rfl (wpAny_pure ⟨plainId_quiet PySem.F.plain_extend_loop _, ih (i + 1) _ _ (acc.push (Value.ref h.objs.size)) (as ++ [h.objs.size]) (by omega) hlt (Z'.keep nS up)
      (fun b o q1 q2 q3 q4 q5 e => up b o q1 (hkp b o q2 q3 q4 q5 (hkeep b o q1 q2 q3 q4 q5 e))) (Heap.get?_update_self _ hS' rfl) (by rw [Array.toList_push, hacc, List.map_append]; rfl) (by rw [List.length_append, hal]; rfl) ⟨?_, ?_, ?_⟩ ?_⟩) (by rw [hsz]; omega) (by show (acc.push (Value.ref h.objs.size)).size ≤ sizeLine + 1; rw [Array.size_push, hsz]; omega)
    · refine List.pairwise_append.mpr ⟨hG.rise, List.pairwise_singleton _ _, fun a ha b hb => ?_⟩
      rw [List.mem_singleton.mp hb]
      obtain ⟨j, hj⟩ := List.getElem?_of_mem ha
      obtain ⟨_, _, _, _, e3⟩ := hG.pair j a hj
      exact Heap.lt_size e3
    · intro a ha
      rcases List.mem_append.mp ha with ha | ha
      · exact hG.above a ha
      · rw [List.mem_singleton.mp ha]; exact hIs
    · intro j b hj
      rcases Nat.lt_trichotomy j as.length with q1 | q1 | q1
      · rw [List.getElem?_append_left q1] at hj
        obtain ⟨x', y', e1, e2, e3⟩ := hG.pair j b hj
        have hb := hG.above b (List.mem_of_getElem? hj)
        exact ⟨x', y', e1, e2, up b _ (Nat.ne_of_gt (Nat.lt_of_le_of_lt hlo.1 hb)) (hkp b _ (Nat.ne_of_gt (Nat.lt_of_le_of_lt hlo.2.1 hb)) (Nat.ne_of_gt (Nat.lt_of_le_of_lt hlo.2.2.1 hb)) (Nat.ne_of_gt (Nat.lt_of_le_of_lt hlo.2.2.2.1 hb)) (Nat.ne_of_gt (Nat.lt_of_le_of_lt hlo.2.2.2.2 hb)) e3)⟩
      · subst q1
        have hb : h.objs.size = b := by simpa using hj
        subst hb
        exact ⟨x, y, by rw [hal]; exact hx, by rw [hal]; exact hy, up _ _ (Nat.ne_of_gt hSl) ht⟩
      · have hnone : (as ++ [h.objs.size])[j]? = none := List.getElem?_eq_none (by rw [List.length_append, List.length_singleton]; omega)
        rw [hnone] at hj; cases hj
    · have e : (h'.update S (Obj.mapSeq (·.push (Value.ref h.objs.size)))).get? h.objs.size = _ := up _ _ (Nat.ne_of_gt hSl) ht
      exact Nat.lt_trans hIs (Heap.lt_size e)
/-- list(z), z a zip of two tuples -/
theorem call_listZ {Q : Value → Shared → Prop} (hh : A.handled = none) (D : ZipApart z TI TO i1 i2 l1 l2) (hz : IsZip s.heap z TI TO .none) (hTO : ∃ a b, IsPair s.heap TO a b) (hTI : IsPair s.heap TI (.ref i1) (.ref i2)) (h1 : s.heap.IsTupleIter i1 l1 0) (h2 : s.heap.IsTupleIter i2 l2 0)
    (t1 : s.heap.IsTuple l1 xs) (t2 : s.heap.IsTuple l2 ys) (hn : zmin xs ys ≤ sizeLine)
    (hQ : ∀ h' acc c as, (∀ b o, b ≠ z → b ≠ TO → b ≠ i1 → b ≠ i2 → s.heap.get? b = some o → h'.get? b = some o) → h'.get? s.heap.objs.size = some { cls := .type "list", dict := none, data := .seq acc c, slots := #[] } → as.length = zmin xs ys → ZG h' s.heap.objs.size xs ys as → acc.toList = as.map Value.ref →
      Q (.ref s.heap.objs.size) { s with heap := h' }) : wpAny (model prog w) A (call (.type "list") [.ref z]) Q E s := by
  refine callType_codes (Q₁ := fun obj s₁ => obj = .ref s.heap.objs.size ∧ s₁ = { s with heap := s.heap.push { cls := .type "list", data := .seq #[] } }) PySem.F.called_list (PySem.F.typeCall_list_1 _) PySem.F.entry_list_init (code_list_new _ ⟨rfl, rfl⟩) fun obj s₁ q₁ => ?_
  obtain ⟨rfl, rfl⟩ := q₁
  have hS : (s.heap.push { cls := .type "list", data := .seq #[] }).get? s.heap.objs.size = some { cls := .type "list", data := .seq #[] } := Heap.get?_push_size _ rfl
  refine ⟨⟨_, hS, rfl⟩, PySem.F.args_list_init_2 _ _, ?_⟩
  have lt : ∀ {c o}, s.heap.get? c = some o → s.heap.objs.size ≠ c := fun e => Nat.ne_of_gt (Heap.lt_size e)
  have nS : s.heap.objs.size ≠ z ∧ s.heap.objs.size ≠ TI ∧ s.heap.objs.size ≠ TO ∧ s.heap.objs.size ≠ i1 ∧ s.heap.objs.size ≠ i2 ∧ s.heap.objs.size ≠ l1 ∧ s.heap.objs.size ≠ l2 := by
    obtain ⟨u, v, e⟩ := hTO
    obtain ⟨_, e1, _⟩ := h1
    obtain ⟨_, e2, _⟩ := h2
    obtain ⟨_, e3, _⟩ := t1
    obtain ⟨_, e4, _⟩ := t2
    exact ⟨lt hz, lt hTI, lt e, lt e1, lt e2, lt e3, lt e4⟩
  have le : s.heap.objs.size ≤ s.heap.objs.size ∧ z ≤ s.heap.objs.size ∧ TO ≤ s.heap.objs.size ∧ i1 ≤ s.heap.objs.size ∧ i2 ≤ s.heap.objs.size := by
    obtain ⟨u, v, e⟩ := hTO
    obtain ⟨_, e1, _⟩ := h1
    obtain ⟨_, e2, _⟩ := h2
    exact ⟨Nat.le_refl _, Nat.le_of_lt (Heap.lt_size hz), Nat.le_of_lt (Heap.lt_size e), Nat.le_of_lt (Heap.lt_size e1), Nat.le_of_lt (Heap.lt_size e2)⟩
  have Z0 : ZSt s.heap s.heap.objs.size z TI TO i1 i2 l1 l2 xs ys 0 := ⟨.inl ⟨hz, hTO⟩, hTI, h1, h2, t1, t2⟩
  show wpAny _ A.in1.in1 (do let old ← Builtin.List.listItems (.ref s.heap.objs.size); Builtin.List.listUpdate (.ref s.heap.objs.size) (fun _ => #[]); letGo old.toList.reverse; Builtin.List.listExtendWith (.ref s.heap.objs.size) (.ref z) .none) _ _ _
  refine wpAny_bind ?_
  unfold Builtin.List.listItems
  refine wpAny_bind (wpAny_seqItems hS rfl (wpAny_pure ?_))
  show wpAny _ A.in1.in1 (updateSeq s.heap.objs.size (fun _ => #[]) >>= fun _ => letGo (#[] : Array Value).toList.reverse >>= fun _ => Builtin.List.listExtendWith (.ref s.heap.objs.size) (.ref z) .none) _ _ _
  refine wpAny_bind (wpAny_updateSeq hS rfl ?_)
  have hS2 := Heap.get?_update_self (Obj.mapSeq (fun _ => (#[] : Array Value))) hS rfl
  refine wpAny_bind (wpAny_letGo ?_)
  have up : ∀ (h : Heap) (f : Obj → Obj), (∀ b o, b ≠ s.heap.objs.size → s.heap.get? b = some o → h.get? b = some o) → ∀ b o, b ≠ s.heap.objs.size → s.heap.get? b = some o → (h.update s.heap.objs.size f).get? b = some o := fun h f q b o hb e =>
    (Heap.get?_update_other _ _ (Ne.symm hb)).trans (q b o hb e)
  have k1 : ∀ b o, b ≠ s.heap.objs.size → s.heap.get? b = some o → (s.heap.push { cls := .type "list", data := .seq #[] }).get? b = some o := fun b o _ e => Heap.get?_push_of_some _ e
  have k2 := up _ (Obj.mapSeq (fun _ => (#[] : Array Value))) k1
  have Z2 := Z0.keep nS k2
  have hT2 : Shared.TypeIs { s with heap := (s.heap.push { cls := .type "list", data := .seq #[] }).update s.heap.objs.size (Obj.mapSeq (fun _ => (#[] : Array Value))) } (.ref z) "zip" := ⟨_, k2 _ _ nS.1.symm hz, rfl⟩
  unfold Builtin.List.listExtendWith
  refine wpAny_bind (wpAny_typeOf hT2 ?_)
  have q1 : Builtin.List.listSameRef (.ref s.heap.objs.size) (.ref z) = false := by simp [Builtin.List.listSameRef, nS.1]
  have q2 : (Value.type "zip" == Value.type "list") = false := by decide
  have q3 : (Value.type "zip" == Value.type "tuple") = false := by decide
  simp only [q1, q2, q3, Bool.or_false, Bool.false_eq_true, if_false]
  refine wpAny_bind (wpAny_pyIter_zip (k2 _ _ nS.1.symm hz) (wpAny_bind (wpAny_holding ?_)))
  unfold Builtin.List.listLengthHint
  refine wpAny_bind (wpAny_specialOf hT2 znl_len ?_)
  show wpAny _ A.in1.in1 (specialOf (Value.ref z) (Str.ofString "__length_hint__") >>= _) _ _ _
  refine wpAny_bind (wpAny_specialOf hT2 znl_hint (wpAny_pure ?_))
  show wpAny _ A.in1.in1 (rule "list.extend.makes-room" >>= fun _ => Builtin.List.listTouch (.ref s.heap.objs.size) >>= fun _ => again (.builtin "list.extend.loop" ⟨[.ref s.heap.objs.size, .ref z, .none], []⟩)) _ _ _
  refine wpAny_bind (wpAny_rule (wpAny_bind ?_))
  show wpAny _ A.in1.in1 (updateSeq s.heap.objs.size (·.push .none) >>= fun _ => updateSeq s.heap.objs.size (·.pop)) _ _ _
  refine wpAny_bind (wpAny_updateSeq hS2 rfl ?_)
  have hS3 := Heap.get?_update_self (Obj.mapSeq (·.push Value.none)) hS2 rfl
  refine wpAny_updateSeq (hz := by seq_fits) hS3 rfl ?_
  have hS4 := Heap.get?_update_self (Obj.mapSeq (·.pop)) hS3 rfl
  have k4 := up _ (Obj.mapSeq (·.pop)) (up _ (Obj.mapSeq (·.push Value.none)) k2)
  refine wpAny_pure ⟨plainId_quiet PySem.F.plain_extend_loop _, ?_⟩
  refine z_loop (s := s) (A := A.in1) (h₁ := s.heap) (lo := s.heap.objs.size) hh D nS hn le (fun h' acc c as hk hS' hl hG hacc => ⟨rfl, hQ h' acc c as (fun b o b2 b3 b4 b5 e => hk b o (Nat.ne_of_lt (Heap.lt_size e)) b2 b3 b4 b5 e) hS' hl hG hacc⟩)
    (zmin xs ys) 0 _ _ _ [] (Nat.sub_zero _) (Nat.zero_le _) (Z0.keep nS k4) (fun b o b1 _ _ _ _ e => k4 b o b1 e) hS4 rfl rfl ⟨List.Pairwise.nil, (fun _ ha => nomatch ha), (fun j a hj => by simp at hj)⟩ (Heap.lt_size hS4)
end
end DL

set_option Elab.async false
set_option linter.all false
set_option maxRecDepth 100000
set_option maxHeartbeats 4000000
/-! DLZip2: list(zip(s, t)) over data. -/
namespace DL
open PySem PySem.Spec PyProof.Rows L2 RZ PySem.W

/-- pairs tracked at their addresses -/
def putZ : Hp → List Addr → List (V × V) → Hp
  | H, a :: as, p :: ps => putZ (upd H a (.tup [p.1, p.2])) as ps
  | H, _, _ => H
theorem putZ_off {b : Addr} : ∀ (as : List Addr) (ps : List (V × V)) (H : Hp), b ∉ as → putZ H as ps b = H b
  | [], _, _, _ => rfl
  | _ :: _, [], _, _ => rfl
  | a :: as, p :: ps, H, h => by
    show putZ (upd H a (.tup [p.1, p.2])) as ps b = H b
    rw [putZ_off as ps _ (fun q => h (List.mem_cons_of_mem _ q)), upd_ne (fun q => h (by rw [q]; exact List.mem_cons_self))]
theorem putZ_at : ∀ (as : List Addr) (ps : List (V × V)) (H : Hp) (j : Nat) (a : Addr) (p : V × V), as.Nodup → as[j]? = some a → ps[j]? = some p → putZ H as ps a = some (.tup [p.1, p.2])
  | [], _, _, _, _, _, _, h, _ => by simp at h
  | _ :: _, [], _, _, _, _, _, _, h => by simp at h
  | a :: as, p :: ps, H, 0, a', p', hn, h1, h2 => by
    simp at h1 h2
    subst h1 h2
    show putZ (upd H a (.tup [p.1, p.2])) as ps a = _
    rw [putZ_off as ps _ (List.nodup_cons.mp hn).1, upd_same]
  | a :: as, p :: ps, H, j + 1, a', p', hn, h1, h2 => putZ_at as ps _ j a' p' (List.nodup_cons.mp hn).2 (by simpa using h1) (by simpa using h2)
theorem pair_get {α β : Type} {F : α → β → Prop} : ∀ {xs : List α} {ys : List β}, Paired F xs ys → ∀ {i : Nat} {y : β}, ys[i]? = some y → ∃ x, xs[i]? = some x ∧ F x y
  | _, _, .nil, i, x, h => by simp at h
  | _, _, .cons r t, 0, x, h => by
    simp at h
    subst h
    exact ⟨_, rfl, r⟩
  | _, _, .cons r t, i + 1, x, h => by
    obtain ⟨z, h1, h2⟩ := pair_get t (i := i) (by simpa using h)
    exact ⟨z, by simpa using h1, h2⟩
theorem vals_at {xs : List V} {us : List Value} (h : Vals xs us) {i : Nat} {u : Value} (e : us[i]? = some u) : ∃ x, xs[i]? = some x ∧ RelV x u := by
  induction h generalizing i with
  | nil => simp at e
  | cons r t ih =>
    cases i with
    | zero =>
      simp at e
      subst e
      exact ⟨_, rfl, r⟩
    | succ i =>
      obtain ⟨x, h1, h2⟩ := ih (by simpa using e)
      exact ⟨x, by simpa using h1, h2⟩
section
variable {X : Cx} {pins : List (Addr × Obj)} {σ : L2.St} {H : Hp} {s : Shared} {h' : Heap}
theorem z_laid {S : Addr} {xs ys : List V} {us ws : List Value} {acc : Array Value} {c : Nat} {as : List Addr} (I : Inv X pins σ H s) (r1 : Vals xs us) (r2 : Vals ys ws) (hz : as.length ≤ sizeLine) (hl : as.length = min xs.length ys.length)
    (hk : ∀ b o, s.heap.get? b = some o → h'.get? b = some o) (hlo : s.heap.objs.size ≤ S) (hS : h'.get? S = some { cls := .type "list", dict := none, data := .seq acc c, slots := #[] }) (hG : ZG h' S us.toArray ws.toArray as) (hacc : acc.toList = as.map Value.ref) :
    ∃ H' : Hp, (∀ b o, H b = some o → H' b = some o) ∧ H S = none ∧ (∀ t ∈ as, H t = none) ∧ S ∉ as ∧ H' S = some (.lst (as.map V.ref)) ∧ (∀ (j : Nat) (t : Addr), as[j]? = some t → ∃ x y, xs[j]? = some x ∧ ys[j]? = some y ∧ H' t = some (.tup [x, y])) ∧ Inv X pins σ H' { s with heap := h' } := by
  have hSn : S ∉ as := fun q => Nat.lt_irrefl _ (hG.above _ q)
  have nd : as.Nodup := List.Pairwise.imp (fun {a b} (h : a < b) => Nat.ne_of_lt h) hG.rise
  have new : ∀ t ∈ as, H t = none := fun t ht => I.hok.fresh (Nat.le_of_lt (Nat.lt_of_le_of_lt hlo (hG.above t ht)))
  have newS : H S = none := I.hok.fresh hlo
  have off : ∀ b, b ∉ as → b ≠ S → putZ (upd H S (.lst (as.map V.ref))) as (List.zip xs ys) b = H b := fun b h1 h2 => by rw [putZ_off as _ _ h1, upd_ne h2]
  have low : ∀ b o, s.heap.get? b = some o → b ∉ as ∧ b ≠ S := fun b o e => ⟨fun q => absurd (Heap.lt_size e) (Nat.not_lt.mpr (Nat.le_of_lt (Nat.lt_of_le_of_lt hlo (hG.above b q)))), Nat.ne_of_lt (Nat.lt_of_lt_of_le (Heap.lt_size e) hlo)⟩
  have kp : ∀ b u, H b = some u → putZ (upd H S (.lst (as.map V.ref))) as (List.zip xs ys) b = some u := fun b u e => by
    rw [off b (fun q => by rw [new b q] at e; cases e) (fun q => by rw [q, newS] at e; cases e)]
    exact e
  have eS : putZ (upd H S (.lst (as.map V.ref))) as (List.zip xs ys) S = some (.lst (as.map V.ref)) := by rw [putZ_off as _ _ hSn, upd_same]
  have atP : ∀ (j : Nat) (t : Addr), as[j]? = some t → ∃ x y u w, xs[j]? = some x ∧ ys[j]? = some y ∧ us[j]? = some u ∧ ws[j]? = some w ∧ RelV x u ∧ RelV y w ∧ putZ (upd H S (.lst (as.map V.ref))) as (List.zip xs ys) t = some (.tup [x, y]) ∧ IsPair h' t u w := fun j t hj => by
    obtain ⟨u, w, e1, e2, e3⟩ := hG.pair j t hj
    obtain ⟨x, h1, h2⟩ := vals_at r1 (i := j) (u := u) (by simpa using e1)
    obtain ⟨y, h3, h4⟩ := vals_at r2 (i := j) (u := w) (by simpa using e2)
    exact ⟨x, y, u, w, h1, h3, by simpa using e1, by simpa using e2, h2, h4, putZ_at as _ _ j t (x, y) nd hj (by simp [List.getElem?_zip_eq_some, h1, h3]), e3⟩
  refine ⟨putZ (upd H S (.lst (as.map V.ref))) as (List.zip xs ys), kp, newS, new, hSn, eS, fun j t hj => ?_, ?_⟩
  · obtain ⟨x, y, _, _, h1, h2, _, _, _, _, h3, _⟩ := atP j t hj
    exact ⟨x, y, h1, h2, h3⟩
  refine I.call' (ch := []) rfl ⟨fun b o q _ _ _ => hk b o q, fun b o q _ _ _ => ⟨o.slots, hk b o q⟩, fun b o q n _ => ?_, fun b o q _ => ⟨o, hk b o q⟩, fun b xs q => kp b _ q, fun b o u q => kp b _ q, fun b ps q => ⟨#[], by rw [kp b _ q]; simp⟩⟩ (fun b u q => ?_) I.bare fun b q => by simp at q
  · obtain ⟨q1, q2⟩ := low b o q
    rw [off b q1 q2]
    exact n
  · by_cases hb : b ∈ as
    · obtain ⟨j, hj⟩ := List.getElem?_of_mem hb
      obtain ⟨x, y, u', w', _, _, _, _, f1, f2, f3, f4⟩ := atP j b hj
      rw [f3] at q
      cases q
      exact ⟨by show 2 ≤ sizeLine; decide, [u', w'], .cons f1 (.cons f2 .nil), ⟨_, f4, rfl, _, rfl⟩⟩
    · by_cases hb2 : b = S
      · rw [hb2] at q ⊢
        rw [eS] at q
        cases q
        refine ⟨by rw [List.length_map]; exact hz, acc.toList, c, by rw [hacc]; exact LiI.vals_refs as, ?_⟩
        rw [Array.toArray_toList]
        exact hS
      · rw [off b hb hb2] at q
        exact (I.hok b u q).stay (fun d v _ y => hk d v y) (fun d y => kp d _ y) fun d xs y => kp d _ y
/-- list(zip(a, b)), a and b tuples -/
def tLZ (K : PySem.W.Frag) (ta : TA) : TE := fun σ H Q => ta σ H fun vs H1 => ∃ (a b : Addr) (xs ys : List V), vs = [.ref a, .ref b] ∧ SqT K H1 a xs ∧ SqT K H1 b ys ∧ min xs.length ys.length ≤ sizeLine ∧
  ∀ (H' : Hp) (p : Addr) (ts : List Addr), (∀ b o, H1 b = some o → H' b = some o) → H1 p = none → (∀ t ∈ ts, H1 t = none) → p ∉ ts → H' p = some (.lst (ts.map V.ref)) → ts.length = min xs.length ys.length →
    (∀ (j : Nat) (t : Addr), ts[j]? = some t → ∃ x y, xs[j]? = some x ∧ ys[j]? = some y ∧ H' t = some (.tup [x, y])) → Q (.ref p) H'
theorem pe_listZip {e e2 : Expr} {ta : TA} {p p2 pos cpos : Pos} (hc : X.calm = true) (hg : Gl X "list") (hm : X.mg "list" = none) (hg2 : Gl X "zip") (hm2 : X.mg "zip" = none) (ha : PA X [e, e2] ta)
    (hs : starEach [.Call (.Name "zip" p2) [e, e2] [] cpos] X.env = (false, eval (.Call (.Name "zip" p2) [e, e2] [] cpos) X.env) :: starEach [] X.env := by rfl) (hs2 : starEach [e, e2] X.env = (false, eval e X.env) :: starEach [e2] X.env := by rfl) (hpl : (backTo cpos (starEach [e2] X.env)).any (·.1) = false := by rfl) :
    PE X (.Call (.Name "list" p) [.Call (.Name "zip" p2) [e, e2] [] cpos] [] pos) (tLZ X.K ta) := by
  refine ⟨fun pins s σ H Q I hq => ?_⟩
  refine wpAny_Call_Name_kw (ld_blt I hg hm (u := .type "list") (by decide +kernel) ?_)
  refine PyProof.Rows.callWith_type1 ?_ hs rfl
  rw [hs]
  show wpAny _ _ (spliced ((false, eval (.Call (.Name "zip" p2) [e, e2] [] cpos) X.env) :: backTo pos (starEach [] X.env))) _ _ s
  refine Calls.spliced_cons ?_
  refine Call_ (ld_blt I hg2 hm2 PyProof.Rows.boot_zip (PyProof.Rows.callWith_type1 (thn (ha.run cpos pins s σ H _ I hq) fun us s1 ⟨vs, H1, I1, r1, q1⟩ => ?_) hs2 hpl))
  obtain ⟨a, b, xs, ys, ex, hqx, hqy, hn, q⟩ := q1
  subst ex
  cases r1 with
  | cons r rr =>
    cases rr with
    | cons r' rr =>
      cases rr
      cases r
      cases r'
      obtain ⟨its, rv, p1, _⟩ := I1.tuple hqx
      obtain ⟨its2, rv2, p2', _⟩ := I1.tuple hqy
      have n1 := rv.length
      have n2 := rv2.length
      obtain ⟨o1, ho1, _⟩ := id p1
      obtain ⟨o2, ho2, _⟩ := id p2'
      refine call_zipT (show s1.heap.IsTuple a its.toArray from p1) (show s1.heap.IsTuple b its2.toArray from p2') fun g hz hTI hTO h1 h2 hsz hk => ?_
      refine Calls.spliced_nil ?_
      have D := PySem.W.ktu_apart s1.heap.objs.size a b (Heap.lt_size ho1) (Heap.lt_size ho2)
      refine call_listZ (s := { s1 with heap := g }) (I1.ok.hd hc) D hz ⟨_, _, hTO⟩ hTI h1 h2 ((show s1.heap.IsTuple a its.toArray from p1).at fun o q => hk _ o q) ((show s1.heap.IsTuple b its2.toArray from p2').at fun o q => hk _ o q) (by unfold zmin; simp; omega) fun h' acc c as hk2 hS hl hG hacc => ?_
      have hlo : s1.heap.objs.size ≤ g.objs.size := by rw [hsz]; exact Nat.le_add_right _ _
      have hkk : ∀ b o, s1.heap.get? b = some o → h'.get? b = some o := fun b o q => by
        have lt := Heap.lt_size q
        exact hk2 b o (Nat.ne_of_lt (Nat.lt_of_lt_of_le lt (Nat.le_add_right _ _))) (Nat.ne_of_lt (Nat.lt_of_lt_of_le lt (Nat.le_add_right _ _))) (Nat.ne_of_lt lt) (Nat.ne_of_lt (Nat.lt_of_lt_of_le lt (Nat.le_add_right _ _))) (hk b o q)
      have hl' : as.length = min xs.length ys.length := by rw [hl]; unfold zmin; simp; omega
      obtain ⟨H', k1, k2, k3, k4, k5, k6, J⟩ := z_laid I1 rv rv2 (by omega) hl' hkk hlo hS hG hacc
      exact ⟨.ref _, H', J, rfl, q H' _ as k1 k2 k3 k4 k5 hl' k6⟩
end
section
variable {S : Sc} {a b : Expr} {r : AF} {p p2 pos cpos : Pos}
def eLZ (r : AF) : EF := bnd r fun ds ρ => match ds with
  | [.tup xs, .tup ys] => if xs.length ≤ big then some (.ol (zipD xs ys), ρ) else none
  | _ => none
theorem rpL_of {K : PySem.W.Frag} {F : Hp} : ∀ {vs : List V} {ds : List D}, vs.length = ds.length → (∀ (i : Nat) (v : V), vs[i]? = some v → ∃ d, ds[i]? = some d ∧ Rp K F v d) → RpL K F vs ds
  | [], [], _, _ => .nil
  | [], _ :: _, h, _ => by cases h
  | _ :: _, [], h, _ => by cases h
  | v :: vs, d :: ds, h, k => by
    obtain ⟨d', h1, h2⟩ := k 0 v rfl
    simp at h1
    subst h1
    exact .cons h2 (rpL_of (Nat.succ.inj h) fun i v hv => k (i + 1) v (by simpa using hv))
theorem de_listZip (hg : S.sc.names.lookup ("list" : Str) = some .globalImplicit) (hm : S.G.mg "list" = none) (hg2 : S.sc.names.lookup ("zip" : Str) = some .globalImplicit) (hm2 : S.G.mg "zip" = none) (ha : DA S [a, b] r)
    (hs : ∀ X, Stc S X → starEach [.Call (.Name "zip" p2) [a, b] [] cpos] X.env = (false, eval (.Call (.Name "zip" p2) [a, b] [] cpos) X.env) :: starEach [] X.env := by intros; rfl) (hs2 : ∀ X, Stc S X → starEach [a, b] X.env = (false, eval a X.env) :: starEach [b] X.env := by intros; rfl)
    (hpl : ∀ X, Stc S X → (backTo cpos (starEach [b] X.env)).any (·.1) = false := by intros; rfl) : DE S (.Call (.Name "list" p) [.Call (.Name "zip" p2) [a, b] [] cpos] [] pos) (eLZ r) := by
  obtain ⟨t, pt, o⟩ := ha
  refine ⟨tLZ S.G.K t, fun X h => by
    have := pe_listZip (X := X) (p := p) (p2 := p2) (pos := pos) (cpos := cpos) h.calm (by unfold Gl Env.kindOf; rw [h.sc]; exact hg) (by rw [h.mg]; exact hm) (by unfold Gl Env.kindOf; rw [h.sc]; exact hg2) (by rw [h.mg]; exact hm2) (pt X h) (hs X h) (hs2 X h) (hpl X h)
    rw [h.K] at this
    exact this, ?_⟩
  intro σ F H O ρ s ρ' Q er hf k
  obtain ⟨ds, ρ1, h1, h2⟩ := bnd_some hf
  split at h2
  rotate_left
  · cases h2
  rename_i xs ys
  split at h2
  rotate_left
  · cases h2
  rename_i hz
  cases h2
  refine o σ F H O ρ _ _ _ er h1 fun vs F1 H1 O1 tr1 er1 rl => ?_
  cases rl with
  | cons ra rl =>
    cases rl with
    | cons rb rl =>
      cases rl
      obtain ⟨a, us, rfl, hpa, rua⟩ := ra.tup_inv
      obtain ⟨b, ws, rfl, hpb, rub⟩ := rb.tup_inv
      have lu := rua.len
      have lw := rub.len
      refine ⟨a, b, us, ws, rfl, sqT_ext er1.sw.ex hpa, sqT_ext er1.sw.ex hpb, Nat.le_trans (Nat.min_le_left _ _) (by rw [lu]; exact big_line hz), fun H' p ts hk hp hts hpt hL hl hT => ?_⟩
      have nin : ∀ b, H1 b ≠ none → b ∉ ts := fun b hb q => hb (hts b q)
      have sF : Same F1 (fun b => if b ∈ ts then H' b else F1 b) := fun b o e => by
        show (if b ∈ ts then H' b else F1 b) = some o
        rw [if_neg (nin b (by rw [er1.sw.ex _ _ e]; simp))]
        exact e
      have sw' : SW (fun b => if b ∈ ts then H' b else F1 b) H' (OA O1 p) := ⟨fun b o e => by
        have e : (if b ∈ ts then H' b else F1 b) = some o := e
        by_cases hb : b ∈ ts
        · rw [if_pos hb] at e; exact e
        · rw [if_neg hb] at e; exact hk b o (er1.sw.ex b o e), fun b q => by
        show (if b ∈ ts then H' b else F1 b) = none
        rcases q with q | q
        · rw [if_neg (nin b (er1.sw.live b q))]; exact er1.sw.off b q
        · rw [q, if_neg hpt]; exact same_none er1.sw.ex hp, fun b q => by
        rcases q with q | q
        · cases e : H1 b with
          | none => exact absurd e (er1.sw.live b q)
          | some o => rw [hk b o e]; simp
        · rw [q, hL]; simp⟩
      have tr2 : Tr F1 H1 O1 (fun b => if b ∈ ts then H' b else F1 b) H' (OA O1 p) := ⟨sF, fun b o e _ => hk b o e, fun b q => by
        rcases q with q | q
        · exact .inl q
        · rw [q]; exact .inr hp, fun b q => by
        have q : (if b ∈ ts then H' b else F1 b) ≠ none := q
        by_cases hb : b ∈ ts
        · exact .inr (.inr (hts b hb))
        · rw [if_neg hb] at q; exact .inl q, fun b q => by
        cases e : H1 b with
        | none => exact absurd e q
        | some o => rw [hk b o e]; simp⟩
      have er2 := er1.later sw' sF fun b o q e => ⟨hk b o e, .inl q⟩
      refine k (.ref p) _ H' _ (tr1.trans tr2) er2 ⟨p, ts.map V.ref, rfl, .inr rfl, hL, rpL_of (by rw [List.length_map, hl]; simp [zipD, lu, lw]) fun i v hv => ?_⟩ fun _ j t hj ht ej => ?_
      · rw [List.getElem?_map] at hv
        cases ht : ts[i]? with
        | none => rw [ht] at hv; cases hv
        | some t =>
          rw [ht] at hv
          cases hv
          obtain ⟨x, y, e1, e2, e3⟩ := hT i t ht
          obtain ⟨dx, f1, f2⟩ := rua.get e1
          obtain ⟨dy, f3, f4⟩ := rub.get e2
          refine ⟨_, zipD_at f1 f3, .tup (SqT.of ?_) (.cons (f2.ext sF) (.cons (f4.ext sF) .nil))⟩
          show (if t ∈ ts then H' t else F1 t) = _
          rw [if_pos (List.mem_of_getElem? ht), e3]
      · obtain ⟨w', h3, h4⟩ := er1.sl j t hj
        rw [ej] at h3
        cases h3
        obtain ⟨q, e2, oq⟩ := h4.own_at ht
        cases e2
        exact er1.sw.live p oq hp
end
end DL

set_option Elab.async false
set_option linter.all false
set_option maxRecDepth 100000
set_option maxHeartbeats 4000000
/-! DLTup: t[::-1], t * k of tuples. -/
namespace DL
open PySem PySem.Spec PyProof.Rows L2

/-! ### t[::-1] -/
section
variable {prog : Program} {w : World} {A : Around} {E : Value → Shared → Prop} {s : Shared}
theorem applied_rev {sl : Addr} {vs : Value} {n : Nat} {Q : Int × Int × Nat → Shared → Prop} (hs : s.heap.IsSliceOf sl .none .none vs) (ps : IsPart vs (some (-1))) (h : Q ((n : Int) - 1, -1, n) s) :
    wpAny (model prog w) A (Builtin.Slice.sliceApplied (.ref sl) (pure (n : Int))) Q E s := by
  obtain ⟨os, hos, hcs, hds⟩ := id hs
  unfold Builtin.Slice.sliceApplied Builtin.Slice.sliceFields
  refine wpAny_bind (wpAny_bind (wpAny_field hos hds (x := .none) rfl (wpAny_bind (wpAny_field hos hds (x := .none) rfl (wpAny_bind (wpAny_field hos hds (x := vs) rfl (wpAny_pure ?_)))))))
  refine wpAny_bind (HT.slicePart_ ps ?_)
  show wpAny _ _ (if ((-1 : Int) == 0) = true then _ else _) _ _ s
  rw [if_neg (by decide)]
  refine wpAny_bind (slicePart_none (wpAny_bind (slicePart_none (wpAny_bind (wpAny_pure ?_)))))
  show wpAny _ _ (pure ((n : Int) - 1, (-1 : Int), Builtin.Slice.slicePlaces ((n : Int) - 1) (-1) (-1))) _ _ s
  have : Builtin.Slice.slicePlaces ((n : Int) - 1) (-1) (-1) = n := by
    unfold Builtin.Slice.slicePlaces
    have h1 : ¬ ((-1 : Int) > 0) := by decide
    simp only [h1, if_false]
    by_cases h2 : (n : Int) - 1 > -1
    · rw [if_pos h2, show (- -1 : Int) = 1 by decide, Int.ediv_one]
      omega
    · rw [if_neg h2]
      omega
  rw [this]
  exact wpAny_pure h
theorem fm_congr {α β : Type} {f g : α → Option β} : ∀ {l : List α}, (∀ a ∈ l, f a = g a) → l.filterMap f = l.filterMap g
  | [], _ => rfl
  | a :: l, h => by
    rw [List.filterMap_cons, List.filterMap_cons, h a List.mem_cons_self, fm_congr fun b hb => h b (List.mem_cons_of_mem _ hb)]
theorem pick_rev (xs : Array Value) : ((List.range xs.size).filterMap fun (k : Nat) => xs[(((xs.size : Int) - 1) + (k : Int) * (-1)).toNat]?) = xs.toList.reverse := by
  have e : ∀ k ∈ List.range xs.size, xs[(((xs.size : Int) - 1) + (k : Int) * (-1)).toNat]? = xs.toList.reverse.toArray[k]? := fun k hk => by
    have hk := List.mem_range.mp hk
    have : (((xs.size : Int) - 1) + (k : Int) * (-1)).toNat = xs.size - 1 - k := by omega
    have h2 : xs.toList.reverse.toArray[k]? = xs.toList.reverse[k]? := by simp
    rw [this, h2, List.getElem?_reverse (by simpa using hk), Array.getElem?_toList, Array.length_toList]
  rw [fm_congr e]
  have := PySem.W.krv_all xs.toList.reverse.toArray
  rw [List.size_toArray, List.length_reverse, Array.length_toList] at this
  exact this
theorem getItem_rev {t sl : Addr} {items : Array Value} {vs : Value} {Q : Value → Shared → Prop} (ht : IsTup s.heap t items) (hs : s.heap.IsSliceOf sl .none .none vs) (ps : IsPart vs (some (-1))) (hz : items.size ≤ sizeLine)
    (h : Q (.ref s.heap.objs.size) { s with heap := s.heap.push { cls := .type "tuple", data := .seq items.toList.reverse.toArray } }) : wpAny (model prog w) A (getItem (.ref t) (.ref sl)) Q E s := by
  obtain ⟨os, hos, hcs, hds⟩ := id hs
  have hTs : s.TypeIs (.ref sl) "slice" := ⟨os, hos, hcs⟩
  unfold getItem
  try with_reducible refine wpAny_holding ?_
  first | refine wpAny_bind (wpAny_pure ?_) | skip
  refine wpAny_bind (wpAny_sequenceKey ht.typeIs (by decide) ?_)
  refine wpAny_bind (wpAny_callSpecial?_slot (name := Str.ofString "__getitem__") ht.typeIs PyProof.Rows.slot_tuple_getitem
    (wpAny_call_entry PyProof.Rows.slot_tuple_getitem ht.typeIs entry_tuple_getitem ?_ (args_tuple_getitem _ _)))
  show wpAny _ _ (Builtin.Tuple.tupleItemsOf (.ref t) >>= _) _ _ s
  refine wpAny_bind (tupleItemsOf_ ht (wpAny_bind (wpAny_typeOf hTs ?_)))
  rw [if_pos (by decide)]
  refine wpAny_bind (applied_rev hs ps ?_)
  have hno : ¬ ((((items.size : Int) - 1) == 0 && (-1 : Int) == 1 && items.size == items.size) = true) := by
    rw [show ((-1 : Int) == 1) = false by decide, Bool.and_false, Bool.false_and]
    exact Bool.false_ne_true
  show wpAny _ _ (if (((items.size : Int) - 1) == 0 && (-1 : Int) == 1 && items.size == items.size) = true then _ else _) _ _ s
  rw [if_neg hno]
  show wpAny _ _ ((newObj (.type "tuple") (.seq ((List.range items.size).filterMap fun (k : Nat) => items[(((items.size : Int) - 1) + (k : Int) * (-1)).toNat]?).toArray)) >>= _) _ _ s
  rw [pick_rev]
  exact wpAny_bind (wpAny_newObj_type (wpAny_pure ⟨_, rfl, wpAny_pure h⟩) (by show (items.toList.reverse.toArray).size ≤ sizeLine; simp; exact hz))
end
def tRevT (K : PySem.W.Frag) (te : TE) : TE := fun σ H Q => te σ H fun x H1 => ∃ a xs, x = .ref a ∧ SqT K H1 a xs ∧ ∀ p, H1 p = none → Q (.ref p) (upd H1 p (.tup xs.reverse))
theorem pe_revT {X : Cx} {e : Expr} {te : TE} {k : Nat} {p1 p2 p3 pos : Pos} (he : PE X e te) : PE X (.Subscript e (.Slice none none (some (.UnaryOp .USub (.Constant (.int 1) k p1) p2)) p3) pos) (tRevT X.K te) := by
  refine ⟨fun pins s σ H Q I h => ?_⟩
  refine Subscript_ (thn (he.run pins s σ H _ I h) fun v s1 ⟨x, H1, I1, r1, a, xs, ex, hx, q⟩ => ?_)
  subst ex
  cases r1
  have hst : PO X (some (.UnaryOp .USub (.Constant (.int 1) k p1) p2)) (tPart (tUn (rU fun i => .int (-i)) (tC (.int 1)))) := po_some (pe_un un_neg pe_int)
  refine wpAny_Slice (thn (po_none.run pins s1 σ H1 (fun o H2 => o = none ∧ H2 = H1) I1 ⟨rfl, rfl⟩) fun vl s2 ⟨l, H2, I2, pl, el, e2⟩ => ?_)
  subst el e2
  refine thn (po_none.run pins s2 σ H2 (fun o H3 => o = none ∧ H3 = H2) I2 ⟨rfl, rfl⟩) fun vu s3 ⟨u, H3, I3, pu, eu, e3⟩ => ?_
  subst eu e3
  refine thn (hst.run pins s3 σ H3 (fun o H4 => o = some (-1) ∧ H4 = H3) I3 ⟨1, rfl, -1, rfl, rfl, rfl⟩) fun vs s4 ⟨o, H4, I4, ps, eo, e4⟩ => ?_
  subst eo e4
  cases pl
  cases pu
  have I5 : Inv X pins σ H4 { s4 with heap := s4.heap.push { cls := .type "slice", data := .fields #[.none, .none, vs] } } := I4.kept (t' := s4.toks) fun b ob q => Heap.get?_push_of_some _ q
  obtain ⟨its, r, ht, hz⟩ := I5.tuple hx
  have hlen := r.length
  show wpAny (model X.prog X.w) X.A (subscriptTail e (.Slice none none (some (.UnaryOp .USub (.Constant (.int 1) k p1) p2)) p3) (.ref a) (.ref s4.heap.objs.size)) (EP X pins σ Q) X.xe { s4 with heap := s4.heap.push { cls := .type "slice", data := .fields #[.none, .none, vs] } }
  refine tail_any (ops := [.ref a, .ref s4.heap.objs.size]) ht.typeIs (PyProof.Rows.slot_tuple_getitem.lookup) ?_ (by with_unfolding_all rfl)
  refine getItem_rev ht (Heap.IsSliceOf.new _ .none .none vs) ps (by rw [List.size_toArray]; omega) ?_
  refine ⟨.ref _, _, I5.laid (t' := s4.toks) (o := .tup xs.reverse) (fun b ob q => Heap.get?_push_of_some _ q) (Nat.le_refl _) ?_, rfl, q _ (I5.hok.fresh (Nat.le_refl _))⟩
  exact ⟨by rw [List.length_reverse]; omega, _, r.reverse, IsTup.new _ _⟩
def eRevT (f : EF) : EF := bnd (eD f) fun d ρ => match d with
  | .tup xs => some (.im (.tup xs.reverse), ρ)
  | _ => none
theorem de_revT {S : Sc} {e : Expr} {f : EF} {k : Nat} {p1 p2 p3 pos : Pos} (h : DE S e f) : DE S (.Subscript e (.Slice none none (some (.UnaryOp .USub (.Constant (.int 1) k p1) p2)) p3) pos) (eRevT f) := by
  obtain ⟨t, p, o⟩ := h
  refine ⟨tRevT S.G.K t, fun X hX => by have := pe_revT (k := k) (p1 := p1) (p2 := p2) (p3 := p3) (pos := pos) (p X hX); rw [hX.K] at this; exact this, ?_⟩
  intro σ F H O ρ s ρ' Q er hf kk
  obtain ⟨d, ρ1, h1, h2⟩ := bnd_some hf
  split at h2
  · cases h2
    refine o.fz σ F H O ρ _ _ _ er h1 fun v F1 H1 O1 tr1 er1 r1 => ?_
    obtain ⟨a, us, rfl, hp, ru⟩ := r1.tup_inv
    exact ⟨a, us, rfl, sqT_ext er1.sw.ex hp, fun q hq => kk _ _ _ O1 (tr1.trans (Tr.newF er1.sw hq)) (er1.newF hq) (.tup (SqT.of upd_same) (ru.rev.ext (same_new (same_none er1.sw.ex hq)))) fun z => by cases z⟩
  · cases h2

/-! ### t * k -/
theorem tup_mul1 (l : Addr) (items : Array Value) (n : Nat) (dd : Option Addr) (sl : Array (Option Value)) (x : Int) (u : Tok) (c0 : (decide (x < -(2 ^ 63)) || decide (x ≥ 2 ^ 63)) = false) (c1 : (items.isEmpty || x == 1) = true) :
    Meets (Builtin.«tuple.__mul__» ⟨[.ref l, .int x u], []⟩) (fun _ R s => s.heap.get? l = some { cls := .type "tuple", dict := dd, data := .seq items n, slots := sl } ∧ R (.ok (.ret (.ref l))) s) :=
  .of_wp fun prog w A R s h => by
    obtain ⟨hp, g, d, tk, os⟩ := s
    obtain ⟨hl, h⟩ := h
    have f1 := AutoSeq1.idx_int
    wp_walk using wpAny_loadPart' hl
    repeat (first
      | (refine wpAny_ite_false (decide_eq_false (by rw [c0]; exact Bool.false_ne_true)) ?_; wp_walk using wpAny_loadPart' hl)
      | (refine wpAny_ite_true (decide_eq_true c1) ?_; wp_walk using wpAny_loadPart' hl))
    exact ⟨_, rfl, h⟩
theorem tup_mul0 (l : Addr) (items : Array Value) (n : Nat) (dd : Option Addr) (sl : Array (Option Value)) (x : Int) (u : Tok) (c0 : (decide (x < -(2 ^ 63)) || decide (x ≥ 2 ^ 63)) = false) (c1 : (items.isEmpty || x == 1) = false) (c2 : (decide (x ≤ 0) || items.isEmpty) = true) :
    Meets (Builtin.«tuple.__mul__» ⟨[.ref l, .int x u], []⟩) (fun _ R s => s.heap.get? l = some { cls := .type "tuple", dict := dd, data := .seq items n, slots := sl } ∧
      R (.ok (.ret (.ref s.heap.objs.size))) { s with heap := s.heap.push { cls := .type "tuple", data := .seq #[] } }) :=
  .of_wp fun prog w A R s h => by
    obtain ⟨hp, g, d, tk, os⟩ := s
    obtain ⟨hl, h⟩ := h
    have f1 := AutoSeq1.idx_int
    wp_walk using wpAny_loadPart' hl
    repeat (first
      | (refine wpAny_ite_false (decide_eq_false (by rw [c0]; exact Bool.false_ne_true)) ?_; wp_walk using wpAny_loadPart' hl)
      | (refine wpAny_ite_false (decide_eq_false (by rw [c1]; exact Bool.false_ne_true)) ?_; wp_walk using wpAny_loadPart' hl)
      | (refine wpAny_ite_true (decide_eq_true c2) ?_; wp_walk using wpAny_loadPart' hl))
    exact ⟨_, rfl, h⟩
def rRep01 (K : PySem.W.Frag) : R2 := fun x y H Q => ∃ l k xs, x = .ref l ∧ y = .int k ∧ SqT K H l xs ∧ -(2 ^ 63) ≤ k ∧ k < 2 ^ 63 ∧ ((xs = [] ∨ k = 1) → Q (.ref l) H) ∧ (xs ≠ [] → k ≤ 0 → ∀ p, H p = none → Q (.ref p) (upd H p (.tup []))) ∧ (xs = [] ∨ k ≤ 1)
theorem op_rep01 {X : Cx} : OpR X (binaryOp .Mult) (rRep01 X.K) := by
  intro pins s σ H x y v u Q I rx ry h
  obtain ⟨l, k, xs, rfl, rfl, hT, h1, h2, q1, q0, hor⟩ := h
  cases rx
  obtain ⟨t, rfl⟩ := ry
  obtain ⟨its, r, ⟨⟨cls, dd, data, sl⟩, ho, hc, n, hd⟩, hs⟩ := I.tuple hT
  simp only at hc hd
  subst hc hd
  have hlen := r.length
  have c0 : (decide (k < -(2 ^ 63)) || decide (k ≥ 2 ^ 63)) = false := by
    rw [decide_eq_false (by omega), decide_eq_false (by omega)] <;> rfl
  refine wpAny_binaryOp_repeat_ref (T := "tuple") (U := "int") (by decide) ⟨_, ho, rfl⟩ (fun s' => typeIs_int s' k t) noFill_tuple_mul F.fills_int_mul F.slot_int_rmul repeat_tuple F.slot_int_index.lookup
    (call_meets F.slot_int_rmul (typeIs_int s k t) F.entry_int_rmul (F.args_int_rmul_2 _ _) (int_rmul_tuple k t l its.toArray n dd sl) ⟨ho, rfl, ⟨_, ho, rfl⟩, ?_⟩)
  by_cases hx : xs = [] ∨ k = 1
  · have c1 : (its.toArray.isEmpty || k == 1) = true := by
      rcases hx with z | z
      · subst z
        cases r
        rfl
      · rw [z]
        simp
    exact call_meets F.slot_tuple_mul ⟨_, ho, rfl⟩ F.entry_tuple_mul (F.args_tuple_mul_2 _ _) (tup_mul1 l its.toArray n dd sl k t c0 c1) ⟨ho, .ref l, H, I, rfl, q1 hx⟩
  · have nx : xs ≠ [] := fun z => hx (.inl z)
    have nk : k ≠ 1 := fun z => hx (.inr z)
    have hk : k ≤ 0 := by
      rcases hor with z | z
      · exact absurd z nx
      · omega
    have ni : its ≠ [] := fun z => nx (by rw [z] at hlen; exact List.eq_nil_of_length_eq_zero hlen)
    have hi : its.toArray.isEmpty = false := by
      cases its with
      | nil => exact absurd rfl ni
      | cons a b => rfl
    have c1 : (its.toArray.isEmpty || k == 1) = false := by
      rw [hi, Bool.false_or]
      exact beq_eq_false_iff_ne.mpr nk
    have c2 : (decide (k ≤ 0) || its.toArray.isEmpty) = true := by rw [decide_eq_true hk]; rfl
    refine call_meets F.slot_tuple_mul ⟨_, ho, rfl⟩ F.entry_tuple_mul (F.args_tuple_mul_2 _ _) (tup_mul0 l its.toArray n dd sl k t c0 c1 c2) ⟨ho, ?_⟩
    exact ⟨.ref s.heap.objs.size, _, I.laid (t' := s.toks) (o := .tup []) (fun b ob q => Heap.get?_push_of_some _ q) (Nat.le_refl _) ⟨Nat.zero_le _, [], .nil, IsTup.new _ _⟩, rfl, q0 nx hk _ (I.hok.fresh (Nat.le_refl _))⟩
def dMulT : D → D → Option Sl
  | .tup xs, .int k => if -(2 ^ 62) ≤ k ∧ k ≤ 1000 ∧ xs.length ≤ 1000 then some (.im (.tup (List.replicate k.toNat xs).flatten)) else none
  | _, _ => none
theorem r2k_mulT {K : PySem.W.Frag} : R2K K (fun x y H Q => rRep01 K x y H Q ∨ rRepT K x y H Q) dMulT := by
  intro x y dx dy F H s Q e vx vy hg ro
  unfold dMulT at hg
  split at hg
  · split at hg
    · rename_i xs k hc
      cases hg
      obtain ⟨a, us, rfl, ha, ra⟩ := vx.tup_inv
      obtain rfl := vy.int_inv
      have rl := ra.len
      by_cases h1 : xs = [] ∨ k ≤ 1
      · have hu : us = [] ∨ k ≤ 1 := h1.imp (fun z => by subst z; cases ra; rfl) id
        refine .inl ⟨a, k, us, rfl, rfl, sqT_ext e ha, by omega, by omega, fun z => ?_, fun nx hk p hp => ?_, hu⟩
        · have : (List.replicate k.toNat xs).flatten = xs := by
            rcases z with z | z
            · subst z
              cases ra
              induction k.toNat with
              | zero => rfl
              | succ n ih => rw [List.replicate_succ, List.flatten_cons, ih]; rfl
            · subst z
              simp
          rw [this] at ro
          exact ro.1 _ (.tup ha ra)
        · have : (List.replicate k.toNat xs).flatten = [] := by
            rw [show k.toNat = 0 by omega]
            rfl
          rw [this] at ro
          exact ro.2 p _ hp (.tup (SqT.of upd_same) .nil)
      · have nx : us ≠ [] := fun z => h1 (.inl (by subst z; cases ra; rfl))
        refine .inr ⟨a, k, us, rfl, rfl, sqT_ext e ha, nx, by omega, hc.2.1, by rw [rl]; exact hc.2.2, fun p hp => ro.2 p _ hp (.tup (SqT.of upd_same) ((rep_rp ra _).ext (same_new (same_none e hp))))⟩
    · cases hg
  · cases hg
theorem de_mulT {S : Sc} {a b : Expr} {fa fb : EF} {pos : Pos} (ha : DE S a fa) (hb : DE S b fb) : DE S (.BinOp a .Mult b pos) (eB dMulT fa fb) := de_op (fun X h => by rw [← h.K]; exact OpR.or op_rep01 op_repT) r2k_mulT ha hb
end DL

set_option Elab.async false
set_option linter.all false
set_option maxRecDepth 100000
set_option maxHeartbeats 4000000
/-! DLSetN: sets of nested tuples (ints, texts, None, tuples of such); only how many there are is told. -/
namespace DL
open PySem PySem.Spec PyProof.Rows L2 PySem.W

abbrev NK := NestedKey
/-- the tuple at a is the key k -/
abbrev NI (P : Program) (w : World) (h : Heap) (k : NK) (a : Addr) : Prop := (nestedKind P w).is h k a
abbrev nh (w : World) (k : NK) : Int := NestedKey.hash w k
section
variable {P : Program} {w : World} {A : Around} {E : Value → Shared → Prop} {s : Shared}

/-! ### the two small questions -/
mutual
theorem nofA : ∀ (k : NK) (v : Value) (n : Nat) (s : Shared) (A : Around) (E : Value → Shared → Prop) (Q : Bool → Shared → Prop), NestedIs s.heap k v → k.depth ≤ n → Q false s → wpAny (model P w) A (ofAClassStatement n v) Q E s
  | .none, _, n, s, A, E, Q, x, _, q => by cases x; cases n <;> exact wpAny_pure q
  | .num i, _, n, s, A, E, Q, x, _, q => by cases x <;> cases n <;> exact wpAny_pure q
  | .text y, _, n, s, A, E, Q, x, _, q => by cases x; cases n <;> exact wpAny_pure q
  | .tup ks, _, n, s, A, E, Q, x, hn, q => by
    cases x with
    | @tup a o vs m ks hg hc hd hk =>
      simp only [NestedKey.depth] at hn
      cases n with
      | zero => omega
      | succ n =>
        have hT : s.TypeIs (.ref a) "tuple" := ⟨o, hg, hc⟩
        unfold ofAClassStatement
        refine wpAny_bind (wpAny_typeOf hT ?_)
        dsimp only
        have e : (("tuple" : String) == "tuple") = true := by decide
        simp only [e, if_true, Bool.not_true, Bool.false_eq_true, if_false]
        try refine wpAny_bind (wpAny_pure ?_)
        try simp only [Bool.not_true, Bool.false_eq_true, if_false]
        show wpAny _ _ (seqItems? (.ref a) >>= _) _ _ s
        refine wpAny_bind (wpAny_seqItems hg hd ?_)
        dsimp only
        refine wpAny_bind ?_
        show wpAny _ _ (forIn vs _ _) _ _ s
        rw [← Array.forIn_toList]
        refine wpAny_forIn_list _ (fun rest r s' => r.1 = none ∧ s' = s ∧ ∀ v ∈ rest, ∀ (A : Around) (E : Value → Shared → Prop) (Q : Bool → Shared → Prop), Q false s → wpAny (model P w) A (ofAClassStatement n v) Q E s) _ ?_ ?_ _ _ ⟨rfl, rfl, nofAs ks _ n s hk (by omega)⟩
        · rintro v rest r s' ⟨hr, rfl, hall⟩
          refine wpAny_bind (hall v List.mem_cons_self _ _ _ ?_)
          simp only [Bool.false_eq_true, if_false]
          exact wpAny_pure ⟨rfl, rfl, fun u hu' => hall u (List.mem_cons_of_mem _ hu')⟩
        · rintro ⟨r1, r2⟩ s' ⟨hr, rfl, _⟩
          simp only at hr
          subst hr
          exact wpAny_pure q
theorem nofAs : ∀ (ks : List NK) (vs : List Value) (n : Nat) (s : Shared), NestedAll s.heap ks vs → NestedKey.depthAll ks ≤ n → ∀ v ∈ vs, ∀ (A : Around) (E : Value → Shared → Prop) (Q : Bool → Shared → Prop), Q false s → wpAny (model P w) A (ofAClassStatement n v) Q E s
  | [], _, n, s, x, _, v, hv => by cases x; cases hv
  | k :: ks, _, n, s, x, hn, v, hv => by
    cases x with
    | cons x1 x2 =>
      simp only [NestedKey.depthAll] at hn
      rcases List.mem_cons.mp hv with e | hv
      · rw [e]; exact fun A E Q q => nofA k _ n s A E Q x1 (by omega) q
      · exact nofAs ks _ n s x2 (by omega) v hv
end
mutual
theorem nbyV : ∀ (k : NK) (v : Value) (n : Nat) (s : Shared) (A : Around) (E : Value → Shared → Prop) (Q : Bool → Shared → Prop), NestedIs s.heap k v → (∀ b, Q b s) → wpAny (model P w) A (hashByValue n v) Q E s
  | .none, _, n, s, A, E, Q, x, q => by cases x; cases n <;> exact wpAny_pure (q _)
  | .num i, _, n, s, A, E, Q, x, q => by cases x <;> cases n <;> exact wpAny_pure (q _)
  | .text y, _, n, s, A, E, Q, x, q => by cases x; cases n <;> exact wpAny_pure (q _)
  | .tup ks, _, n, s, A, E, Q, x, q => by
    cases x with
    | @tup a o vs m ks hg hc hd hk =>
      cases n with
      | zero => exact wpAny_pure (q _)
      | succ n =>
        have hT : s.TypeIs (.ref a) "tuple" := ⟨o, hg, hc⟩
        unfold hashByValue
        refine wpAny_bind (wpAny_specialOf hT F.slot_tuple_hash.lookup ?_)
        show wpAny _ _ (seqItems? (.ref a) >>= _) _ _ s
        refine wpAny_bind (wpAny_seqItems hg hd ?_)
        refine wpAny_bind ?_
        show wpAny _ _ (forIn vs _ _) _ _ s
        rw [← Array.forIn_toList]
        refine wpAny_forIn_list _ (fun rest r s' => s' = s ∧ ∀ v ∈ rest, ∀ (A : Around) (E : Value → Shared → Prop) (Q : Bool → Shared → Prop), (∀ b, Q b s) → wpAny (model P w) A (hashByValue n v) Q E s) _ ?_ ?_ _ _ ⟨rfl, nbyVs ks _ n s hk⟩
        · rintro v rest r s' ⟨rfl, hall⟩
          refine wpAny_bind (hall v List.mem_cons_self _ _ _ fun b => ?_)
          cases b with
          | true =>
            simp only [Bool.not_true, Bool.false_eq_true, if_false]
            exact wpAny_pure ⟨rfl, fun u hu' => hall u (List.mem_cons_of_mem _ hu')⟩
          | false =>
            simp only [Bool.not_false, if_true]
            exact wpAny_pure (wpAny_pure (q _))
        · rintro ⟨r1, r2⟩ s' ⟨rfl, _⟩
          cases r1 with
          | none => exact wpAny_pure (q _)
          | some b => exact wpAny_pure (q _)
theorem nbyVs : ∀ (ks : List NK) (vs : List Value) (n : Nat) (s : Shared), NestedAll s.heap ks vs → ∀ v ∈ vs, ∀ (A : Around) (E : Value → Shared → Prop) (Q : Bool → Shared → Prop), (∀ b, Q b s) → wpAny (model P w) A (hashByValue n v) Q E s
  | [], _, n, s, x, v, hv => by cases x; cases hv
  | k :: ks, _, n, s, x, v, hv => by
    cases x with
    | cons x1 x2 =>
      rcases List.mem_cons.mp hv with e | hv
      · rw [e]; exact fun A E Q q => nbyV k _ n s A E Q x1 q
      · exact nbyVs ks _ n s x2 v hv
end
end
end DL

set_option Elab.async false
set_option linter.all false
set_option maxRecDepth 100000
set_option maxHeartbeats 4000000
/-! DLSetN2: searching and adding in a set of nested tuples. -/
namespace DL
open PySem PySem.Spec PyProof.Rows L2 PySem.W
section
variable {P : Program} {w : World} {A : Around} {E : Value → Shared → Prop} {s : Shared}

theorem nseen {k : NK} {b : Addr} {Q : Bool → Shared → Prop} (hk : NI P w s.heap k b) {ys : List Value} (hy : ∀ y ∈ ys, ∃ k' c, y = Value.ref c ∧ NI P w s.heap k' c) (h : Q false s) : wpAny (model P w) A (searchCouldBeSeen (.ref b) ys) Q E s := by
  unfold searchCouldBeSeen
  refine wpAny_bind (wpAny_forIn_list _ (fun rest r s' => r.1 = none ∧ s' = s ∧ ∀ y ∈ rest, ∃ k' c, y = Value.ref c ∧ NI P w s.heap k' c) _ ?_ ?_ _ _ ⟨rfl, rfl, hy⟩)
  · rintro v rest r s' ⟨hr, rfl, all⟩
    obtain ⟨k', c, rfl, hc⟩ := all v List.mem_cons_self
    have all' : ∀ y ∈ rest, ∃ k' c, y = Value.ref c ∧ NI P w s'.heap k' c := fun u hu => all u (List.mem_cons_of_mem _ hu)
    dsimp only
    by_cases hv : (b == c || (carriedByValue (.ref b) && carriedByValue (.ref c))) = true
    · exact wp_if_pos hv (wpAny_pure ⟨rfl, rfl, all'⟩)
    · refine wp_if_neg hv (wpAny_bind ((nestedKind P w).quiet hk ?_))
      simp only [Bool.not_true, Bool.false_eq_true, if_false]
      refine wpAny_bind ((nestedKind P w).quiet hc ?_)
      simp only [Bool.not_true, Bool.false_eq_true, if_false]
      refine wpAny_bind (nofA _ _ 8 _ _ _ _ hk.1 hk.2 ?_)
      simp only [Bool.false_eq_true, if_false]
      refine wpAny_bind (nofA _ _ 8 _ _ _ _ hc.1 hc.2 ?_)
      simp only [Bool.false_eq_true, if_false]
      exact wpAny_pure ⟨rfl, rfl, all'⟩
  · rintro ⟨r1, r2⟩ s' ⟨hr, rfl, _⟩
    simp only at hr
    subst hr
    exact wpAny_pure h

def rowN (w : World) (p : Addr × NK) : Int × Value := (nh w p.2, .ref p.1)
/-- the set at a holds the tuples of L -/
structure NSet (P : Program) (w : World) (h : Heap) (a : Addr) (L : List (Addr × NK)) (es : Array (Int × Value)) (ep : Nat) (t : SetTable) : Prop where
  ob : ∃ o, h.get? a = some o ∧ o.ExactSet ∧ o.data = .set es ep t
  rows : es.toList = L.map (rowN w)
  tab : TabOk t (L.map fun p => nh w p.2)
  nd : (L.map (·.2)).Nodup
  tup : ∀ p ∈ L, NI P w h p.2 p.1
  room : L.length * 5 < t.mask * 3
  few : L.length < 64
variable {a : Addr} {L : List (Addr × NK)} {es : Array (Int × Value)} {ep : Nat} {t : SetTable}
theorem rowN_len (h : es.toList = L.map (rowN w)) : es.size = L.length := by
  have := congrArg List.length h
  rwa [Array.length_toList, List.length_map] at this
theorem rowN_at (h : es.toList = L.map (rowN w)) {i : Nat} {p : Addr × NK} (e : L[i]? = some p) : es[i]? = some (rowN w p) := by
  rw [← Array.getElem?_toList, h, List.getElem?_map, e]
  rfl
theorem fits_of {hs : List Int} (T : TabOk t hs) (he : es.size = hs.length) (hr : hs.length ≤ t.mask) : t.fits es.size = true := by
  have h1 := T.sz
  unfold SetTable.fits SetTable.fill
  rw [T.dm, Bool.and_eq_true, beq_iff_eq, decide_eq_true_eq]
  show t.place.size = es.size ∧ t.place.size + 0 ≤ t.mask
  omega
theorem NSet.fits (R : NSet P w s.heap a L es ep t) : t.fits es.size = true := fits_of R.tab (by rw [rowN_len R.rows, List.length_map]) (by have := R.room; rw [List.length_map]; omega)
theorem NSet.gw (R : NSet P w s.heap a L es ep t) : ¬ t.gaveWay = true := by
  unfold SetTable.gaveWay
  rw [mask_odd R.tab.mok]
  decide

/-- where the search for k stands after c steps -/
abbrev stepN (w : World) (t : SetTable) (k : NK) (c : Nat) : SetTable.Probe := nth t.mask (runAt t.mask (SetTable.bits (nh w k) % (t.mask + 1)) (SetTable.bits (nh w k))) c
theorem stepN_dummy (k : NK) (c : Nat) : (stepN w t k c).dummy = none := by
  have key : ∀ (n : Nat) (p : SetTable.Probe), p.dummy = none → (nth t.mask p n).dummy = none := by
    intro n
    induction n with
    | zero => exact fun p h => h
    | succ n ih =>
      intro p h
      refine ih (adv t.mask p) ?_
      unfold adv
      split <;> exact h
  exact key c _ rfl
theorem nsearch_from (R : NSet P w s.heap a L es ep t) {x : Addr} {k : NK} (hx : NI P w s.heap k x) (hu : (nestedKind P w).room A) {K : Nat} (hKf : K < 10 * SetTable.turns t.mask) (hK : way t.mask (nh w k) K ∉ t.place.toList)
    (hKb : ∀ c, c < K → way t.mask (nh w k) c ∈ t.place.toList) {Q : SetFound → Shared → Prop} (hin : k ∈ L.map (·.2) → Q (.there none) s) (hout : k ∉ L.map (·.2) → Q (.free (way t.mask (nh w k) K) false) s) :
    ∀ (f c : Nat) (stand : Option SetTable.Probe), stand.getD (t.probeStart (nh w k)) = stepN w t k c → c ≤ K → K - c < f → (∀ (i : Nat) p, L[i]? = some p → p.2 = k → ∃ c', c ≤ c' ∧ c' < K ∧ t.place.toList[i]? = some (way t.mask (nh w k) c')) →
      wpAny (model P w) A (setSearchFrom a (.ref x) (nh w k) true f stand) Q E s
  | 0, c, stand, _, _, hf, _ => absurd hf (Nat.not_lt_zero _)
  | f + 1, c, stand, hst, hc, hf, hre => by
    obtain ⟨o, ho, hex, hd⟩ := R.ob
    have e1 : ∀ q, (nth t.mask (stepN w t k c) q) = stepN w t k (c + q) := fun q => (nth_add t.mask c _ q).symm
    have e2 : ∀ q, (nth t.mask (stepN w t k c) q).j = way t.mask (nh w k) (c + q) := fun q => congrArg SetTable.Probe.j (e1 q)
    have hat : ∀ (i : Nat) p, L[i]? = some p → (fun i => (es[i]?.map (·.1)).getD 0) i = nh w p.2 := fun i p hp => by
      show (es[i]?.map (·.1)).getD 0 = _
      rw [rowN_at R.rows hp]
      rfl
    have spec := go_spec t R.tab.ris R.tab.dm (fun i => (es[i]?.map (·.1)).getD 0) (nh w k) (10 * SetTable.turns t.mask) (K - c) _ (stepN_dummy (w := w) (t := t) k c) (by omega)
      (fun q hq => by rw [e2]; exact hKb (c + q) (by omega)) (by rw [e2, show c + (K - c) = K by omega]; exact hK)
    rw [setSearchFrom_succ]
    refine wpAny_bind (wpAny_setState_of ho hd R.fits ?_)
    dsimp only
    refine wp_if_neg R.gw ?_
    try refine wpAny_bind (wpAny_pure ?_)
    rcases spec with ⟨q, i, hq, hi, hh, hno, hpr⟩ | ⟨hno, hpr⟩
    · have hpr' : t.probe (fun i => (es[i]?.map (·.1)).getD 0) (nh w k) (stand.getD (t.probeStart (nh w k))) = some (.candidate (way t.mask (nh w k) (c + q)) i (stepN w t k (c + (q + 1)))) := by
        rw [hst, ← e2, ← e1]
        exact hpr
      rw [hpr']
      dsimp only
      rw [e2] at hi
      have hil : i < L.length := by
        have h1 : i < t.place.toList.length := (List.getElem?_eq_some_iff.mp hi).1
        have h2 := R.tab.sz
        rw [List.length_map] at h2
        rw [Array.length_toList] at h1
        omega
      obtain ⟨p, hp⟩ : ∃ p, L[i]? = some p := ⟨_, List.getElem?_eq_getElem hil⟩
      have hmem : p ∈ L := List.mem_of_getElem? hp
      have rest : wpAny (model P w) A (searchRest a (.ref x) (nh w k) true f es t (way t.mask (nh w k) (c + q)) i (stepN w t k (c + (q + 1)))) Q E s := by
        unfold searchRest
        rw [rowN_at R.rows hp]
        dsimp only [rowN]
        refine wpAny_bind (wpAny_holding ((nestedKind P w).eqBool hu (R.tup p hmem) hx (wpAny_bind (wpAny_setState_of ho hd R.fits ?_))))
        dsimp only
        by_cases hkk : p.2 = k
        · exact wp_if_pos (by simp [hkk]) (wpAny_pure (hin (List.mem_map.mpr ⟨p, hmem, hkk⟩)))
        · refine wp_if_neg (by simp [hkk]) ?_
          try refine wpAny_bind (wpAny_pure ?_)
          rw [sameMem]
          dsimp only
          have hsl : t.slot (way t.mask (nh w k) (c + q)) = .live i := slot_live R.tab.ris hi
          simp only [if_true, hsl, rowN_at R.rows hp, rowN]
          refine wpAny_bind (wpAny_isSame_ref_self (wpAny_bind (wpAny_pure ?_)))
          simp only [if_true]
          refine wp_if_neg (by simp [hkk]) ?_
          refine nsearch_from R hx hu hKf hK hKb hin hout f (c + (q + 1)) _ rfl (by omega) (by omega) fun i0 p0 h0 hk0 => ?_
          obtain ⟨c', a1, a2, a3⟩ := hre i0 p0 h0 hk0
          refine ⟨c', ?_, a2, a3⟩
          rcases Nat.lt_trichotomy c' (c + q) with z | z | z
          · exact absurd ((hat i0 p0 h0).trans (congrArg (nh w) hk0)) (hno (c' - c) i0 (by omega) (by rw [e2, show c + (c' - c) = c' by omega]; exact a3))
          · rw [z] at a3
            have s0 := slot_live R.tab.ris a3
            rw [hsl] at s0
            injection s0 with s0
            rw [← s0, hp] at h0
            exact absurd ((congrArg Prod.snd (Option.some.inj h0)).trans hk0) hkk
          · omega
      by_cases hl : t.led = true
      · refine wp_if_neg (by simp [hl]) ?_
        try refine wpAny_bind (wpAny_pure ?_)
        exact rest
      · refine wp_if_pos (by simp [hl]) (wpAny_bind (nseen hx (fun y hy => ?_) ?_))
        · obtain ⟨e, he, ee⟩ := List.mem_map.mp hy
          have he1 : e ∈ es ∧ e.1 = nh w k := by simpa using he
          have he2 : e ∈ es.toList := by simpa using he1.1
          rw [R.rows] at he2
          obtain ⟨p2, hp2, e3⟩ := List.mem_map.mp he2
          exact ⟨p2.2, p2.1, by rw [← ee, ← e3]; rfl, R.tup p2 hp2⟩
        · refine wp_if_neg (by decide) ?_
          try refine wpAny_bind (wpAny_pure ?_)
          exact rest
    · have hpr' : t.probe (fun i => (es[i]?.map (·.1)).getD 0) (nh w k) (stand.getD (t.probeStart (nh w k))) = some (.empty (way t.mask (nh w k) K) none) := by
        have e3 : way t.mask (nh w k) K = (nth t.mask (stepN w t k c) (K - c)).j := by rw [e2, show c + (K - c) = K by omega]
        rw [hst, e3]
        exact hpr
      rw [hpr']
      dsimp only
      refine wpAny_pure (hout fun hm => ?_)
      obtain ⟨p0, h0, hk0⟩ := List.mem_map.mp hm
      obtain ⟨i0, h00⟩ := List.getElem?_of_mem h0
      obtain ⟨c', a1, a2, a3⟩ := hre i0 p0 h00 hk0
      exact hno (c' - c) i0 (by omega) (by rw [e2, show c + (c' - c) = c' by omega]; exact a3) ((hat i0 p0 h00).trans (congrArg (nh w) hk0))
theorem nsearch (R : NSet P w s.heap a L es ep t) {x : Addr} {k : NK} (hx : NI P w s.heap k x) (hu : (nestedKind P w).room A) {Q : SetFound → Shared → Prop} (hin : k ∈ L.map (·.2) → Q (.there none) s)
    (hout : ∀ K, k ∉ L.map (·.2) → way t.mask (nh w k) K ∉ t.place.toList → (∀ c, c < K → way t.mask (nh w k) c ∈ t.place.toList) → Q (.free (way t.mask (nh w k) K) false) s) : wpAny (model P w) A (setSearch a (.ref x) (nh w k) true) Q E s := by
  have hroom := R.room
  obtain ⟨K, hKf, hK, hKb⟩ := R.tab.first (by rw [List.length_map]; omega) (nh w k)
  have hbig : 10 * SetTable.turns t.mask ≤ 1420 := by
    unfold SetTable.turns
    rcases R.tab.mok with e | e | e <;> omega
  unfold setSearch
  refine nsearch_from R hx hu hKf hK hKb hin (fun hn => hout K hn hK hKb) 100000 0 none rfl (Nat.zero_le _) (by omega) fun i p hp hk => ?_
  have hi : (L.map fun p => nh w p.2)[i]? = some (nh w k) := by rw [List.getElem?_map, hp, ← hk]; rfl
  have hil : i < t.place.toList.length := by
    have h1 : i < L.length := (List.getElem?_eq_some_iff.mp hp).1
    have h2 := R.tab.sz
    rw [List.length_map] at h2
    rw [Array.length_toList]
    omega
  have hj := List.getElem?_eq_getElem hil
  obtain ⟨c, hc, e⟩ := R.tab.before hK hi hj
  exact ⟨c, Nat.zero_le _, hc, by rw [hj, e]⟩

/-! ### adding -/
theorem NI.off {h h' : Heap} {k : NK} {a b : Addr} {o : Obj} {es : Array (Int × Value)} {ep : Nat} {t : SetTable} (hb : NI P w h k b) (ho : h.get? a = some o) (hd : o.data = .set es ep t) (hs : Heap.SameBut a h h') : NI P w h' k b :=
  (nestedKind_stays (prog := P) (w := w)).stays (fun c ob vs n hc hv => (hs.2 c fun e => by
    subst e
    rw [ho] at hc
    cases hc
    rw [hd] at hv
    cases hv).trans hc) hb
/-- an order of the rows -/
theorem rowN_order (order : Array Nat) (hr : es.toList = L.map (rowN w)) (hp : order.toList.Perm (List.range L.length)) :
    ∃ L2 : List (Addr × NK), (order.filterMap (es[·]?)).toList = L2.map (rowN w) ∧ L2.Perm L ∧ (L2.map fun p => nh w p.2) = order.toList.map fun i => (es.map (·.1)).getD i 0 := by
  have key : ∀ l : List Nat, (∀ i ∈ l, i < L.length) → l.filterMap (fun i => es[i]?) = (l.filterMap (fun i => L[i]?)).map (rowN w) ∧ ((l.filterMap (fun i => L[i]?)).map fun p => nh w p.2) = l.map fun i => (es.map (·.1)).getD i 0 := by
    intro l
    induction l with
    | nil => exact fun _ => ⟨rfl, rfl⟩
    | cons i l ih =>
      intro hl
      obtain ⟨p, e⟩ : ∃ p, L[i]? = some p := ⟨_, List.getElem?_eq_getElem (hl i List.mem_cons_self)⟩
      obtain ⟨h1, h2⟩ := ih fun j hj => hl j (List.mem_cons_of_mem _ hj)
      have e4 : (es.map (·.1)).getD i 0 = nh w p.2 := by
        have e5 : (es.map (·.1))[i]? = some (nh w p.2) := by rw [Array.getElem?_map, rowN_at hr e]; rfl
        simp [Array.getD_eq_getD_getElem?, e5]
      refine ⟨?_, ?_⟩
      · rw [List.filterMap_cons_some (rowN_at hr e), List.filterMap_cons_some e, List.map_cons, h1]
      · rw [List.filterMap_cons_some e, List.map_cons, List.map_cons, h2, e4]
  obtain ⟨h1, h2⟩ := key order.toList fun i hi => List.mem_range.mp (hp.mem_iff.mp hi)
  refine ⟨_, by first | (rw [Array.toList_filterMap]; exact h1) | simpa using h1, ?_, h2⟩
  have h3 : (List.range L.length).filterMap (fun i => L[i]?) = L := by
    have := krv_all L.toArray
    simpa using this
  have h4 := hp.filterMap fun i => L[i]?
  rwa [h3] at h4
/-- the table laid anew -/
theorem nrelay {o : Obj} (ho : s.heap.get? a = some o) (hex : o.ExactSet) (hd : o.data = .set es ep t) (hrows : es.toList = L.map (rowN w)) (T0 : TabOk t (L.map fun p => nh w p.2)) (hfl : es.size ≤ t.mask) (nd : (L.map (·.2)).Nodup) (tup : ∀ p ∈ L, NI P w s.heap p.2 p.1) (few : L.length < 64) {wanted M : Nat}
    (hw : SetTable.sizeAbove wanted - 1 = M) (hM : MaskOk M) (hw2 : SetTable.sizeAbove wanted ≤ 128) (hn : L.length * 5 < M * 3) {Q : Unit → Shared → Prop}
    (hQ : ∀ h' L' es' ep' t', Heap.SameBut a s.heap h' → NSet P w h' a L' es' ep' t' → L'.Perm L → Q () { s with heap := h' }) : wpAny (model P w) A (setRelay a wanted) Q E s := by
  have hsl := rowN_len hrows
  have hfits : t.fits es.size = true := fits_of T0 (by rw [hsl, List.length_map]) (by rw [List.length_map]; omega)
  obtain ⟨t', order, e, hp, T, em, el, ep', ed⟩ := relaid_ok t (hs := es.map (·.1)) (wanted := wanted) hw hM (by rw [Array.size_map, hsl]; omega)
  rw [Array.size_map, hsl] at hp
  obtain ⟨L2, r1, r2, r3⟩ := rowN_order order hrows hp
  rw [← r3] at T
  have hs2 : (order.filterMap (es[·]?)).size = es.size := by rw [rowN_len r1, r2.length_eq, hsl]
  rw [setRelay_eq]
  refine wpAny_bind (wpAny_setState_of ho hd hfits ?_)
  dsimp only
  refine wp_if_neg (by rw [sizeLine_eq]; omega) ?_
  try refine wpAny_bind (wpAny_pure ?_)
  rw [e]
  dsimp only
  refine wpAny_bind (wp_if_neg (by rw [hs2]; simp) ?_)
  try refine wpAny_bind (wpAny_pure ?_)
  refine wpAny_pure ?_
  dsimp only
  refine wpAny_storeSet_of ho hd ?_ (by rw [hs2, hsl, sizeLine_eq]; omega)
  have sb : Heap.SameBut a s.heap (s.heap.update a (Obj.putSet (order.filterMap (es[·]?)) t')) := Heap.SameBut.update ..
  exact hQ _ L2 (order.filterMap (es[·]?)) (ep + 1) t' sb ⟨⟨_, store_at ho hd, ⟨hex.1, hex.2.1, hex.2.2⟩, rfl⟩, r1, T, (r2.map (·.2)).nodup_iff.mpr nd, fun p hpm => (tup p (r2.mem_iff.mp hpm)).off ho hd sb, by rw [r2.length_eq, em]; exact hn, by rw [r2.length_eq]; exact few⟩ r2
theorem nadd (R : NSet P w s.heap a L es ep t) {x : Addr} {k : NK} (hx : NI P w s.heap k x) (hu : (nestedKind P w).room A) (hfew : L.length + 1 < 64) {Q : Bool → Shared → Prop}
    (hQ : ∀ b h' L' es' ep' t', Heap.SameBut a s.heap h' → NSet P w h' a L' es' ep' t' → (k ∈ L.map (·.2) → L' = L) → (k ∉ L.map (·.2) → L'.Perm ((x, k) :: L)) → Q b { s with heap := h' }) : wpAny (model P w) A (setAddHashed a (.ref x) (nh w k)) Q E s := by
  obtain ⟨o, ho, hex, hd⟩ := R.ob
  have hsl := rowN_len R.rows
  have hroom := R.room
  unfold setAddHashed
  refine wpAny_holding ?_
  rw [show (100000 : Nat) = 99999 + 1 from rfl, setAddHashedIn_succ]
  refine wpAny_bind (wpAny_setState_of ho hd R.fits ?_)
  dsimp only
  refine wp_if_neg (by simp [byScan, Value.scannable]) ?_
  try refine wpAny_bind (wpAny_pure ?_)
  refine wpAny_bind (nsearch R hx hu (fun hm => ?_) fun K hm hK hb => ?_)
  · exact wpAny_pure (hQ false s.heap L es ep t (Heap.SameBut.refl a s.heap) R (fun _ => rfl) fun z => absurd hm z)
  · dsimp only
    refine wpAny_bind (wpAny_setState_of ho hd R.fits ?_)
    dsimp only
    obtain ⟨q1, q2, q3, q4, q5, q6, q7, q8, q9⟩ := R.tab.put hK hb
    generalize hpt : t.put (way t.mask (nh w k) K) = pt at q1 q3 q4 q5 q6 q7 q8 q9 ⊢
    obtain ⟨t0, p⟩ := pt
    dsimp only at q1 q3 q4 q5 q6 q7 q8 q9 ⊢
    subst q1
    -- behind the store: whatever the table says of the hashes
    have go : ∀ t1 : SetTable, t1.place = t0.place → t1.dummies = t0.dummies → t1.mask = t0.mask →
        wpAny (model P w) A (do
          storeSet a (SetTable.insertAt es (SetTable.below t.place (way t.mask (nh w k) K)) (nh w k, .ref x)) t1
          if !false && t1.tooFull then setRelay a (SetTable.grown (es.size + 1))
          return true) Q E s := by
      intro t1 z1 z2 z3
      have hin : (SetTable.insertAt es (SetTable.below t.place (way t.mask (nh w k) K)) (nh w k, Value.ref x)).toList = (L.take (SetTable.below t.place (way t.mask (nh w k) K)) ++ (x, k) :: L.drop (SetTable.below t.place (way t.mask (nh w k) K))).map (rowN w) := by
        rw [SetTable.toList_insertAt, R.rows, List.map_append, List.map_cons, List.map_take, List.map_drop]
        rfl
      generalize hpp : SetTable.below t.place (way t.mask (nh w k) K) = p at q2 q3 hin ⊢
      have pm := put_perm L p (x, k)
      have hlen : (L.take p ++ (x, k) :: L.drop p).length = L.length + 1 := pm.length_eq
      have hhs : (L.take p ++ (x, k) :: L.drop p).map (fun p => nh w p.2) = (L.map fun p => nh w p.2).take p ++ nh w k :: (L.map fun p => nh w p.2).drop p := by
        rw [List.map_append, List.map_cons, List.map_take, List.map_drop]
      rw [← hhs] at q3
      have nd1 : ((L.take p ++ (x, k) :: L.drop p).map (·.2)).Nodup := by
        refine (pm.map (·.2)).nodup_iff.mpr ?_
        rw [List.map_cons]
        exact List.nodup_cons.mpr ⟨hm, R.nd⟩
      have hes := rowN_len hin
      rw [hlen] at hes
      generalize SetTable.insertAt es p (nh w k, Value.ref x) = es1 at hin hes ⊢
      generalize L.take p ++ (x, k) :: L.drop p = L1 at pm hlen q3 nd1 hin
      have T1 : TabOk t1 (L1.map fun p => nh w p.2) := ⟨by rw [z1]; exact q3.ris, by rw [z2]; exact q3.dm, by rw [z1]; exact q3.sz, by rw [z3]; exact q3.mok, by rw [z1, z3]; exact q3.bd, by rw [z1, z3]; exact q3.reach⟩
      have m1 : t1.mask = t.mask := z3.trans q4
      have full : t1.tooFull = t0.tooFull := by
        unfold SetTable.tooFull SetTable.fill
        rw [z1, z2, z3]
      refine wpAny_bind (wpAny_storeSet_of ho hd ?_ (by rw [hes, sizeLine_eq]; omega))
      have sb : Heap.SameBut a s.heap (s.heap.update a (Obj.putSet es1 t1)) := Heap.SameBut.update ..
      have ho1 := store_at (es' := es1) (t' := t1) ho hd
      generalize s.heap.update a (Obj.putSet es1 t1) = h1 at sb ho1 ⊢
      have tup1 : ∀ p ∈ L1, NI P w h1 p.2 p.1 := fun p hp => by
        rcases List.mem_cons.mp (pm.mem_iff.mp hp) with e | hp
        · rw [e]; exact hx.off ho hd sb
        · exact (R.tup p hp).off ho hd sb
      by_cases hf : t1.tooFull = true
      · first
          | (refine wpAny_bind ?_; refine wp_if_pos (by simp [hf]) ?_)
          | (refine wp_if_pos (by simp [hf]) ?_; refine wpAny_bind ?_)
        have hfull : (L.length + 1) * 5 ≥ t.mask * 3 := by
          have h := hf
          rw [full] at h
          unfold SetTable.tooFull at h
          rw [decide_eq_true_eq, q9, List.length_map, q4] at h
          exact h
        rw [hsl]
        have cases2 : (t.mask = 7 ∧ L.length = 4) ∨ (t.mask = 31 ∧ L.length = 18) := by
          rcases R.tab.mok with e | e | e
          · left; rw [e] at hfull hroom; exact ⟨e, by omega⟩
          · right; rw [e] at hfull hroom; exact ⟨e, by omega⟩
          · exfalso; rw [e] at hfull; omega
        have go2 : ∀ M, SetTable.sizeAbove (SetTable.grown (L.length + 1)) - 1 = M → MaskOk M → SetTable.sizeAbove (SetTable.grown (L.length + 1)) ≤ 128 → (L.length + 1) * 5 < M * 3 →
            wpAny (model P w) A (setRelay a (SetTable.grown (L.length + 1))) (fun _ s' => wpAny (model P w) A (pure true) Q E s') E { s with heap := h1 } := fun M h1' h2' h3' h4' =>
          nrelay (s := { s with heap := h1 }) ho1 ⟨hex.1, hex.2.1, hex.2.2⟩ rfl hin T1 (by rw [hes, m1]; rcases cases2 with ⟨e, e2⟩ | ⟨e, e2⟩ <;> omega) nd1 tup1 (by rw [hlen]; exact hfew) h1' h2' h3' (by rw [hlen]; exact h4') fun h2 L2 es2 ep2 t2 sb2 R2 pm2 =>
            wpAny_pure (hQ true h2 L2 es2 ep2 t2 (sb.trans sb2) R2 (fun z => absurd z hm) fun _ => pm2.trans pm)
        rcases cases2 with ⟨_, e2⟩ | ⟨_, e2⟩
        · exact go2 31 (by rw [e2, size_20]) (.inr (.inl rfl)) (by rw [e2, size_20]; decide) (by omega)
        · exact go2 127 (by rw [e2, size_76]) (.inr (.inr rfl)) (by rw [e2, size_76]; decide) (by omega)
      · first
          | refine wp_if_neg (by simp [hf]) ?_
          | (refine wpAny_bind ?_; refine wp_if_neg (by simp [hf]) ?_; refine wpAny_pure ?_)
        refine wpAny_pure (hQ true h1 L1 es1 (ep + 1) t1 sb ⟨⟨_, ho1, ⟨hex.1, hex.2.1, hex.2.2⟩, rfl⟩, hin, T1, nd1, tup1, ?_, by rw [hlen]; exact hfew⟩ (fun z => absurd z hm) fun _ => pm)
        have h := hf
        rw [full] at h
        unfold SetTable.tooFull at h
        rw [decide_eq_true_eq, q9, List.length_map, q4] at h
        rw [hlen, m1]
        omega
    by_cases hp1 : t0.plain = true
    · first
        | (refine wpAny_bind ?_; refine wp_if_pos hp1 ?_; refine nbyV k _ 8 _ _ _ _ hx.1 fun b => ?_)
        | refine wp_if_pos hp1 (wpAny_bind (nbyV k _ 8 _ _ _ _ hx.1 fun b => ?_))
      cases b with
      | true =>
        simp only [if_true]
        exact go t0 rfl rfl rfl
      | false =>
        simp only [Bool.false_eq_true, if_false]
        exact go { t0 with plain := false } rfl rfl rfl
    · first
        | (refine wpAny_bind ?_; refine wp_if_neg hp1 ?_; refine wpAny_pure ?_)
        | refine wp_if_neg hp1 (wpAny_bind (wpAny_pure ?_))
      simp only [if_true]
      exact go t0 rfl rfl rfl
end
end DL

set_option Elab.async false
set_option linter.all false
set_option maxRecDepth 100000
set_option maxHeartbeats 4000000
/-! DLSetN3: len(set(t)) of a tuple of texts, of a tuple of nested tuples. -/
namespace DL
open PySem PySem.Spec PyProof.Rows L2 PySem.W

/-! ### each once -/
def nubS {α : Type} [DecidableEq α] (acc : List α) (x : α) : List α := if x ∈ acc then acc else acc ++ [x]
def nub {α : Type} [DecidableEq α] (l : List α) : List α := l.foldl nubS []
section
variable {α : Type} [DecidableEq α]
theorem nub_snoc (l : List α) (x : α) : nub (l ++ [x]) = nubS (nub l) x := by
  unfold nub
  rw [List.foldl_append]
  rfl
theorem nub_facts : ∀ l : List α, (∀ x, x ∈ nub l ↔ x ∈ l) ∧ (nub l).Nodup ∧ (nub l).length ≤ l.length := by
  intro l
  have gen : ∀ (r p : List α), l = p ++ r → ((∀ x, x ∈ nub p ↔ x ∈ p) ∧ (nub p).Nodup ∧ (nub p).length ≤ p.length) → (∀ x, x ∈ nub l ↔ x ∈ l) ∧ (nub l).Nodup ∧ (nub l).length ≤ l.length := by
    intro r
    induction r with
    | nil => intro p e h; rw [e, List.append_nil]; exact h
    | cons y r ih =>
      intro p e ⟨h1, h2, h3⟩
      refine ih (p ++ [y]) (by rw [e]; simp) ⟨fun x => ?_, ?_, ?_⟩
      · rw [nub_snoc]
        unfold nubS
        by_cases hy : y ∈ nub p
        · rw [if_pos hy, h1]
          have := (h1 y).mp hy
          simp only [List.mem_append, List.mem_singleton]
          exact ⟨.inl, fun z => z.elim id fun q => q ▸ this⟩
        · rw [if_neg hy]
          simp [h1]
      · rw [nub_snoc]
        unfold nubS
        by_cases hy : y ∈ nub p
        · rw [if_pos hy]; exact h2
        · rw [if_neg hy]
          exact List.nodup_append.mpr ⟨h2, by simp, fun a ha b hb e => hy (by rw [List.mem_singleton.mp hb] at e; exact e ▸ ha)⟩
      · rw [nub_snoc]
        unfold nubS
        by_cases hy : y ∈ nub p
        · rw [if_pos hy, List.length_append]; omega
        · rw [if_neg hy, List.length_append, List.length_append]
          simp only [List.length_singleton]
          omega
  exact gen l [] rfl ⟨fun x => by simp [nub], by simp [nub], Nat.le_refl _⟩
theorem nodup_len_eq {l m : List α} (hl : l.Nodup) (hm : m.Nodup) (h : ∀ x, x ∈ l ↔ x ∈ m) : l.length = m.length := by
  have h1 : ∀ {l m : List α}, l.Nodup → (∀ x ∈ l, x ∈ m) → l.length ≤ m.length := by
    intro l
    induction l with
    | nil => intros; exact Nat.zero_le _
    | cons a l ih =>
      intro m hn hs
      obtain ⟨na, nl⟩ := List.nodup_cons.mp hn
      have ha : a ∈ m := hs a List.mem_cons_self
      have := ih (m := m.erase a) nl fun x hx => (List.mem_erase_of_ne (fun e : x = a => na (by rw [← e]; exact hx))).mpr (hs x (List.mem_cons_of_mem _ hx))
      rw [List.length_erase_of_mem ha] at this
      have hp : 0 < m.length := List.length_pos_of_mem ha
      rw [List.length_cons]
      omega
  exact Nat.le_antisymm (h1 hl fun x => (h x).mp) (h1 hm fun x => (h x).mpr)
theorem nub_nodup {l : List α} (h : l.Nodup) : (nub l).length = l.length := nodup_len_eq (nub_facts l).2.1 h (nub_facts l).1
end

section
variable {P : Program} {w : World} {A : Around} {E : Value → Shared → Prop} {s : Shared}
abbrev set0 (w : World) : Obj := { cls := .type "set", dict := none, data := .set #[] 0 (.fresh 0 0 (!w.params.followText "set-order")) }
abbrev iter0 (l : Addr) : Obj := { cls := .type "tuple_iterator", data := .fields #[.ref l, .int 0 0] }
set_option maxHeartbeats 8000000 in
/-- set(t): the loop of update is left to the caller -/
theorem call_setG {l : Addr} {items : Array Value} {Q : Value → Shared → Prop} (Post : Heap → Prop) (hl : s.heap.IsTuple l items)
    (loop : ∀ R : Result → Shared → Prop, (∀ h' tk, Post h' → (∀ b o, s.heap.get? b = some o → h'.get? b = some o) → R (.ok (.ret .none)) { s with heap := h', toks := tk }) →
      codeAny (model P w) A.in1.in1 (.builtin "set.update.loop" ⟨[.ref s.heap.objs.size, .ref (s.heap.push (set0 w)).objs.size], []⟩) R { s with heap := (s.heap.push (set0 w)).push (iter0 l) })
    (h : ∀ (h' : Heap) (tk : Nat), Post h' → (∀ b o, s.heap.get? b = some o → h'.get? b = some o) → Q (.ref s.heap.objs.size) { s with heap := h', toks := tk }) :
    wpAny (model P w) A (call (.type "set") [.ref l]) Q E s := by
  obtain ⟨c, tl, hmro⟩ := PySem.F.called_set.mro
  have hmade := PySem.F.called_set.made
  have hsub := PySem.F.called_set.sub
  refine wpAny_call (codeAny_of_tree ?_)
  show wpAny _ _ (callAny (.type "set") _) _ _ _
  refine wpAny_pure ⟨Code.quiet_builtin _ (by decide +kernel), codeAny_builtin PySem.F.entry_type_call ?_⟩
  rw [Around.under_plain (weight_type_call_type "set" [.ref l] []) rfl]
  have h1 := PySem.F.called_set.notType
  have h2 := PySem.F.called_set.canCreate
  have hct := PySem.F.typeCall_set_1 (.ref l)
  repeat (any_goals (first | assumption | wp_step))

  refine codeAny_mono (code_set_led1 (.ref l) (E := E) (Q₁ := fun obj s₁ => obj = .ref s.heap.objs.size ∧ s₁ = { s with heap := s.heap.push (set0 w) }) ⟨rfl, rfl⟩) fun r s₁ hr => ?_
  cases r with
  | error e => exact hr
  | ok fl =>
    cases fl with
    | ret obj =>
      obtain ⟨rfl, rfl⟩ := hr
      have hS : (s.heap.push (set0 w)).get? s.heap.objs.size = some (set0 w) := Heap.get?_push_size _ rfl
      have hT : Shared.TypeIs { s with heap := s.heap.push (set0 w) } (.ref s.heap.objs.size) "set" := ⟨_, hS, rfl⟩
      have hli := PySem.F.called_set.init.lookup
      have hbi := PySem.F.called_set.init.bind (.ref s.heap.objs.size)
      repeat (any_goals (first | assumption | wp_step))

      refine codeAny_mono (codeAny_call_builtin (R := wants (fun r s₂ => r = .none ∧ ∃ h' tk, s₂ = { s with heap := h', toks := tk } ∧ Post h' ∧ (∀ b o, s.heap.get? b = some o → h'.get? b = some o)) E)
        PySem.F.called_set.init.plain PySem.F.entry_set_init (check_set_init_1 hT ?_)) fun r₂ s₂ hr₂ => ?_
      · obtain ⟨ol, hol, hcl, nl, hdl⟩ := hl
        obtain ⟨ocls, odict, odata, oslots⟩ := ol
        simp only at hcl hdl
        subst hcl; subst hdl
        have hol' : (s.heap.push (set0 w)).get? l = some { cls := .type "tuple", dict := odict, data := .seq items nl, slots := oslots } := Heap.get?_push_of_some _ hol
        have hsls := PySem.F.sub_tuple_set
        have hslf := PySem.F.sub_tuple_frozenset
        have hne : (Value.type "tuple" == Value.type "dict") = false := by decide
        have hl1 : (s.heap.push (set0 w)).IsTuple l items := ⟨_, hol', rfl, nl, rfl⟩
        unfold Builtin.«set.__init__» noKeywords Builtin.Frozenset.updateFrom
        generalize hPI : pyIter = PI
        wp_walk
        subst hPI

        refine wpAny_pyIter_tuple hl1 (wpAny_bind (wpAny_runValue ?_))
        refine loop _ fun h' tk hp hk => ?_
        show wpAny _ _ _ _ _ _
        refine wpAny_pure ?_
        show wpAny _ _ (ret Value.none) _ _ _
        exact wpAny_pure ⟨rfl, h', tk, rfl, hp, hk⟩

      · cases r₂ with
        | error e => exact hr₂
        | ok fl₂ =>
          cases fl₂ with
          | ret r =>
            obtain ⟨rfl, h', tk, rfl, hS', hk'⟩ := hr₂
            repeat (any_goals (first | assumption | wp_step))
            exact h _ _ hS' hk'
          | _ => exact hr₂.elim
    | _ => exact hr.elim
end

/-! ### texts -/
section
variable {P : Program} {w : World} {A : Around} {R : Result → Shared → Prop} {I : Addr} {fp wr : List Addr} {G : Array GenState → Array GenState → Prop} {n : Nat} {Pv : Nat → Value → Prop} {St : Nat → Shared → Prop}
theorem tloop (W : WalksS P w A.in1 I fp wr G n Pv St) (S : Addr) (hSf : S ∉ fp) (xs : List Str) (hsz : xs.length = n) (hn1 : n < 4000) (hval : ∀ i v, Pv i v → ∃ x t, xs[i]? = some x ∧ v = .str x t) :
    ∀ (k i : Nat) (s : Shared), n - i = k → i ≤ n → St i s → s.heap.SetOf (PySem.strKind P w) S (fun x => decide (x ∈ xs.take i)) (nub (xs.take i)).length →
      (∀ s', Moved (S :: wr) G s s' → s'.heap.SetOf (PySem.strKind P w) S (fun x => decide (x ∈ xs)) (nub xs).length → R (.ok (.ret .none)) s') →
      codeAny (model P w) A (.builtin "set.update.loop" ⟨[.ref S, .ref I], []⟩) R s := by
  have hSw : S ∉ wr := fun h => hSf (W.sub _ h)
  have hsub : ∀ b ∈ wr, b ∈ S :: wr := fun b hb => List.mem_cons_of_mem _ hb
  intro k
  induction k with
  | zero =>
    intro i s hk hi hst hS hR
    have hin : i = n := by omega
    subst hin
    rw [← hsz, List.take_length] at hS
    refine codeAny_builtin PyProof.Rows.F.entry_set_update_loop ?_
    rw [Around.under_plainId PyProof.Rows.F.plain_set_update_loop _]
    show wpAny _ A.in1 (pyNext (.ref I) >>= _) _ _ s
    refine wpAny_bind (W.done s _ _ hst fun s' hm => ?_)
    show wpAny _ A.in1 (ret Value.none) _ _ s'
    obtain ⟨o, es, ep, t, ho, rest⟩ := hS
    exact wpAny_pure (hR s' (hm.mono hsub) ⟨o, es, ep, t, hm.heap S _ hSw ho, rest⟩)
  | succ k ih =>
    intro i s hk hi hst hS hR
    have hlt : i < n := by omega
    refine codeAny_builtin PyProof.Rows.F.entry_set_update_loop ?_
    rw [Around.under_plainId PyProof.Rows.F.plain_set_update_loop _]
    show wpAny _ A.in1 (pyNext (.ref I) >>= _) _ _ s
    refine wpAny_bind (W.item i s _ _ hlt hst fun v s' hP hst' hm => ?_)
    obtain ⟨x, t, hx, rfl⟩ := hval i v hP
    have hS' : s'.heap.SetOf (PySem.strKind P w) S (fun x => decide (x ∈ xs.take i)) (nub (xs.take i)).length := by
      obtain ⟨o, es, ep, tb, ho, rest⟩ := hS
      exact ⟨o, es, ep, tb, hm.heap S _ hSw ho, rest⟩
    show wpAny _ A.in1 (holding [Value.str x t] (setAdd S (.str x t)) >>= _) _ _ s'
    refine wpAny_bind (wpAny_holding ?_)
    unfold setAdd
    refine wpAny_holding (wpAny_bind ((PySem.strKind P w).pyHash (k := x) (strKind_is _ _ _ _) ?_))
    have hnl := (nub_facts (xs.take i)).2.2
    have htl : (xs.take i).length ≤ i := by rw [List.length_take]; omega
    refine wpAny_setAddHashed_of (knd := PySem.strKind P w) (s := { s' with toks := s'.toks + 1 }) (strKind_is _ _ _ _) rfl hS' (by unfold scanBound; omega) fun h' hsb hS2 => ?_
    have tk : xs.take (i + 1) = xs.take i ++ [x] := take_next hx
    have hSi : h'.SetOf (PySem.strKind P w) S (fun y => decide (y ∈ xs.take (i + 1))) (nub (xs.take (i + 1))).length := by
      refine PyProof.Rows.SetOf_congr hS2 (fun y => ?_) ?_
      · rw [tk]
        simp
      · rw [tk, nub_snoc]
        unfold nubS
        by_cases hm2 : x ∈ xs.take i
        · rw [if_pos ((nub_facts _).1 x |>.mpr hm2)]
          simp [hm2]
        · rw [if_neg (fun z => hm2 ((nub_facts _).1 x |>.mp z))]
          simp [hm2]
    refine wpAny_pure ⟨plainId_quiet PyProof.Rows.F.plain_set_update_loop _, ih (i + 1) _ (by omega) hlt (W.frame _ s' _ _ hst' (Nat.le_succ _) fun b hb o e => ?_) hSi fun s'' hm'' hS'' => ?_⟩
    · rw [hsb.2 b (fun h : b = S => hSf (by rw [← h]; exact hb))]; exact e
    · refine hR s'' (Moved.trans W.gtrans ((hm.mono hsub).then_heap (Nat.le_succ _) fun b o hb e => ?_) hm'') hS''
      rw [hsb.2 b (fun h : b = S => hb (by rw [h]; exact List.mem_cons_self))]; exact e

/-! ### nested tuples -/
structure GotN (ks : List (Addr × NK)) (i : Nat) (L : List (Addr × NK)) : Prop where
  sub : ∀ p ∈ L, p ∈ ks.take i
  all : ∀ p ∈ ks.take i, p.2 ∈ L.map (·.2)
  len : L.length ≤ i
theorem NI.mono {h h' : Heap} {k : NK} {b : Addr} (x : NI P w h k b) (hk : ∀ c o, h.get? c = some o → h'.get? c = some o) : NI P w h' k b := (nestedKind_stays (prog := P) (w := w)).stays (fun c ob _ _ hc _ => hk c ob hc) x
theorem NSet.keep {h h' : Heap} {a : Addr} {L : List (Addr × NK)} {es : Array (Int × Value)} {ep : Nat} {t : SetTable} (Z : NSet P w h a L es ep t) (ha : ∀ o, h.get? a = some o → h'.get? a = some o) (ht : ∀ p ∈ L, NI P w h' p.2 p.1) : NSet P w h' a L es ep t := by
  obtain ⟨o, ho, r⟩ := Z.ob
  exact ⟨⟨o, ha o ho, r⟩, Z.rows, Z.tab, Z.nd, ht, Z.room, Z.few⟩
theorem nset_fresh {h : Heap} {a : Addr} (ho : h.get? a = some (set0 w)) : NSet P w h a [] #[] 0 (.fresh 0 0 (!w.params.followText "set-order")) where
  ob := ⟨_, ho, ⟨rfl, rfl, rfl⟩, rfl⟩
  rows := rfl
  tab := ⟨List.Pairwise.nil, rfl, rfl, .inl rfl, fun x hx => (by cases hx), fun i h j hi => (by simp at hi)⟩
  nd := List.nodup_nil
  tup := fun p hp => (by cases hp)
  room := by show 0 * 5 < 7 * 3; decide
  few := by show 0 < 64; decide
theorem nloop (W : WalksS P w A.in1 I fp wr G n Pv St) (S : Addr) (hSf : S ∉ fp) (ks : List (Addr × NK)) (hn : n = ks.length) (hfew : ks.length < 64) (hval : ∀ i v, Pv i v → ∃ p, ks[i]? = some p ∧ v = .ref p.1)
    (h0 : Heap) (hk : ∀ p ∈ ks, NI P w h0 p.2 p.1) (hS0 : h0.get? S = none) (hw0 : ∀ b ∈ wr, h0.get? b = none) (hu : (nestedKind P w).room A.in1) :
    ∀ (k i : Nat) (s : Shared), n - i = k → i ≤ n → St i s → (∀ b o, h0.get? b = some o → s.heap.get? b = some o) → (∃ L es ep t, NSet P w s.heap S L es ep t ∧ GotN ks i L) →
      (∀ s' L es ep t, Moved (S :: wr) G s s' → NSet P w s'.heap S L es ep t → GotN ks n L → (∀ b o, h0.get? b = some o → s'.heap.get? b = some o) → R (.ok (.ret .none)) s') →
      codeAny (model P w) A (.builtin "set.update.loop" ⟨[.ref S, .ref I], []⟩) R s := by
  have hSw : S ∉ wr := fun h => hSf (W.sub _ h)
  have hsub : ∀ b ∈ wr, b ∈ S :: wr := fun b hb => List.mem_cons_of_mem _ hb
  have keepM : ∀ {s s' : Shared}, Moved wr G s s' → (∀ b o, h0.get? b = some o → s.heap.get? b = some o) → ∀ b o, h0.get? b = some o → s'.heap.get? b = some o := fun hm hkp b o e =>
    hm.heap b o (fun hb => by rw [hw0 b hb] at e; cases e) (hkp b o e)
  intro k
  induction k with
  | zero =>
    intro i s hk' hi hst hkp ⟨L, es, ep, t, hS, g⟩ hR
    have hin : i = n := by omega
    subst hin
    refine codeAny_builtin PyProof.Rows.F.entry_set_update_loop ?_
    rw [Around.under_plainId PyProof.Rows.F.plain_set_update_loop _]
    show wpAny _ A.in1 (pyNext (.ref I) >>= _) _ _ s
    refine wpAny_bind (W.done s _ _ hst fun s' hm => ?_)
    show wpAny _ A.in1 (ret Value.none) _ _ s'
    have hkp' := keepM hm hkp
    exact wpAny_pure (hR s' L es ep t (hm.mono hsub) (hS.keep (fun o e => hm.heap S o hSw e) fun p hp => (hk p (List.mem_of_mem_take (g.sub p hp))).mono hkp') g hkp')
  | succ k ih =>
    intro i s hk' hi hst hkp ⟨L, es, ep, t, hS, g⟩ hR
    have hlt : i < n := by omega
    refine codeAny_builtin PyProof.Rows.F.entry_set_update_loop ?_
    rw [Around.under_plainId PyProof.Rows.F.plain_set_update_loop _]
    show wpAny _ A.in1 (pyNext (.ref I) >>= _) _ _ s
    refine wpAny_bind (W.item i s _ _ hlt hst fun v s' hP hst' hm => ?_)
    obtain ⟨p, hp, rfl⟩ := hval i v hP
    have hkp' := keepM hm hkp
    have hS' : NSet P w s'.heap S L es ep t := hS.keep (fun o e => hm.heap S o hSw e) fun q hq => (hk q (List.mem_of_mem_take (g.sub q hq))).mono hkp'
    have hx : NI P w s'.heap p.2 p.1 := (hk p (List.mem_of_getElem? hp)).mono hkp'
    show wpAny _ A.in1 (holding [Value.ref p.1] (setAdd S (.ref p.1)) >>= _) _ _ s'
    refine wpAny_bind (wpAny_holding ?_)
    unfold setAdd
    refine wpAny_holding (wpAny_bind ((nestedKind P w).pyHash hu hx ?_))
    refine nadd (s := { s' with toks := s'.toks + (nestedKind P w).draws p.2 }) hS' hx hu (by have := g.len; omega) fun b h' L' es' ep' t' hsb hS2 c1 c2 => ?_
    have tk := take_next hp
    have g' : GotN ks (i + 1) L' := by
      by_cases c : p.2 ∈ L.map (·.2)
      · rw [c1 c]
        refine ⟨fun q hq => by rw [tk]; exact List.mem_append_left _ (g.sub q hq), fun q hq => ?_, Nat.le_succ_of_le g.len⟩
        rw [tk] at hq
        rcases List.mem_append.mp hq with z | z
        · exact g.all q z
        · rw [List.mem_singleton.mp z]; exact c
      · have pm := c2 c
        refine ⟨fun q hq => ?_, fun q hq => ?_, by rw [pm.length_eq, List.length_cons]; exact Nat.succ_le_succ g.len⟩
        · rw [tk]
          rcases List.mem_cons.mp (pm.mem_iff.mp hq) with e | z
          · rw [e]; exact List.mem_append_right _ (List.mem_singleton.mpr rfl)
          · exact List.mem_append_left _ (g.sub q z)
        · rw [(pm.map (·.2)).mem_iff, List.map_cons]
          rw [tk] at hq
          rcases List.mem_append.mp hq with z | z
          · exact List.mem_cons_of_mem _ (g.all q z)
          · rw [List.mem_singleton.mp z]; exact List.mem_cons_self
    have hkp2 : ∀ b o, h0.get? b = some o → h'.get? b = some o := fun b o e => (hsb.2 b (fun z => by rw [z, hS0] at e; cases e)).trans (hkp' b o e)
    refine wpAny_pure ⟨plainId_quiet PyProof.Rows.F.plain_set_update_loop _, ih (i + 1) _ (by omega) hlt (W.frame _ s' _ _ hst' (Nat.le_add_right _ _) fun b hb o e => ?_) hkp2 ⟨L', es', ep', t', hS2, g'⟩ fun s'' L2 es2 ep2 t2 hm'' hS'' g'' hkp'' => ?_⟩
    · rw [hsb.2 b (fun h : b = S => hSf (by rw [← h]; exact hb))]; exact e
    · refine hR s'' L2 es2 ep2 t2 (Moved.trans W.gtrans ((hm.mono hsub).then_heap (Nat.le_add_right _ _) fun b o hb e => ?_) hm'') hS'' g'' hkp''
      rw [hsb.2 b (fun h : b = S => hb (by rw [h]; exact List.mem_cons_self))]; exact e
end
end DL

set_option Elab.async false
set_option linter.all false
set_option maxRecDepth 100000
set_option maxHeartbeats 4000000
/-! DLSet: len(set(t)) over data. -/
namespace DL
open PySem PySem.Spec PyProof.Rows L2 PySem.W

mutual
inductive NkV (K : PySem.W.Frag) (H : Hp) : V → NK → Prop
  | non : NkV K H .non .none
  | bl (b : Bool) : NkV K H (.bl b) (.num (if b = true then 1 else 0))
  | int (i : Int) : NkV K H (.int i) (.num i)
  | str (x : Str) : NkV K H (.str x) (.text x)
  | tup {a : Addr} {vs : List V} {ks : List NK} : SqT K H a vs → NkA K H vs ks → NkV K H (.ref a) (.tup ks)
inductive NkA (K : PySem.W.Frag) (H : Hp) : List V → List NK → Prop
  | nil : NkA K H [] []
  | cons {v : V} {vs : List V} {k : NK} {ks : List NK} : NkV K H v k → NkA K H vs ks → NkA K H (v :: vs) (k :: ks)
end
section
variable {X : Cx} {pins : List (Addr × Obj)} {σ : L2.St} {H : Hp} {s : Shared}
mutual
theorem nkV_is (I : Inv X pins σ H s) : ∀ {k : NK} {v : V} {u : Value}, NkV X.K H v k → RelV v u → NestedIs s.heap k u
  | .none, _, _, h, r => by cases h; cases r; exact .none
  | .num i, _, _, h, r => by
    cases h with
    | bl b => cases r; exact .bool rfl
    | int i => obtain ⟨t, rfl⟩ := r; exact .int i t
  | .text x, _, _, h, r => by cases h; obtain ⟨t, rfl⟩ := r; exact .text x t
  | .tup ks, _, _, h, r => by
    cases h with
    | tup hq ha =>
      cases r
      obtain ⟨its, rv, ⟨o, ho, hc, n, hd⟩, _⟩ := I.tuple hq
      exact .tup ho hc hd (nkA_is I ha rv)
theorem nkA_is (I : Inv X pins σ H s) : ∀ {ks : List NK} {vs : List V} {us : List Value}, NkA X.K H vs ks → Vals vs us → NestedAll s.heap ks us
  | [], _, _, h, r => by cases h; cases r; exact .nil
  | k :: ks, _, _, h, r => by
    cases h with
    | cons h1 h2 =>
      cases r with
      | cons r1 r2 => exact .cons (nkV_is I h1 r1) (nkA_is I h2 r2)
end
end
def tLenSetT (K : PySem.W.Frag) (ta : TE) : TE := fun σ H Q => ta σ H fun x H1 => ∃ (l : Addr) (vs : List V), x = .ref l ∧ SqT K H1 l vs ∧
  ((∃ xs : List Str, vs = xs.map V.str ∧ xs.length < 4000 ∧ Q (.int (nub xs).length) H1) ∨
    ∃ (as : List Addr) (ks : List NK), vs = as.map V.ref ∧ NkA K H1 vs ks ∧ ks.length < 64 ∧ (∀ k ∈ ks, k.depth ≤ 8) ∧ Q (.int (nub ks).length) H1)
theorem strs_get : ∀ {xs : List Str} {us : List Value}, Vals (xs.map V.str) us → ∀ (i : Nat) (v : Value), us[i]? = some v → ∃ x t, xs[i]? = some x ∧ v = .str x t := fun {xs us} r i v e => by
  obtain ⟨y, h1, h2⟩ := vals_at r e
  rw [List.getElem?_map] at h1
  cases hx : xs[i]? with
  | none => rw [hx] at h1; cases h1
  | some x =>
    rw [hx] at h1
    cases h1
    obtain ⟨t, rfl⟩ := h2
    exact ⟨x, t, rfl, rfl⟩
theorem refs_vals : ∀ {as : List Addr} {us : List Value}, Vals (as.map V.ref) us → us = as.map Value.ref
  | [], _, h => by cases h; rfl
  | a :: as, _, h => by
    cases h with
    | cons r1 r2 =>
      cases r1
      rw [List.map_cons, refs_vals r2]
theorem none_ge {h : Heap} {b : Addr} (hb : h.objs.size ≤ b) : h.get? b = none := by
  cases q : h.get? b with
  | none => rfl
  | some o => exact absurd (Nat.lt_of_lt_of_le (Heap.lt_size q) hb) (Nat.lt_irrefl _)
theorem pe_lenSetT {X : Cx} {a : Expr} {ta : TE} {p p2 q pos : Pos} (hc : X.calm = true) (hr : X.A.units + 20 < cLine) (hg : Gl X "len") (hm : X.mg "len" = none) (hg2 : Gl X "set") (hm2 : X.mg "set" = none) (ha : PE X a ta)
    (na : starEach [a] X.env = (false, eval a X.env) :: starEach [] X.env := by rfl) : PE X (.Call (.Name "len" p) [.Call (.Name "set" p2) [a] [] q] [] pos) (tLenSetT X.K ta) := by
  refine ⟨fun pins s σ H Q I h => ?_⟩
  refine Call_ (ld_blt I hg hm boot_len ?_)
  refine PyProof.Rows.callWith_builtin1 (PyProof.Rows.args_cons ?_ rfl) rfl rfl
  refine Call_ (ld_blt I hg2 hm2 boot_set ?_)
  refine PyProof.Rows.callWith_type1 (PyProof.Rows.args_cons (thn (ha.run pins s σ H _ I h) fun v s1 ⟨x, H1, I1, r1, l, vs, ex, hq, q1⟩ => PyProof.Rows.args_nil ?_) na) na rfl
  subst ex
  cases r1
  obtain ⟨its, rv, p1, _⟩ := I1.tuple hq
  have ht : s1.heap.IsTuple l its.toArray := p1
  obtain ⟨ol, hol, _⟩ := id ht
  have hlS : l < s1.heap.objs.size := Heap.lt_size hol
  have hz1 : (s1.heap.push (set0 X.w)).objs.size = s1.heap.objs.size + 1 := Heap.size_push ..
  have hneI : l ≠ (s1.heap.push (set0 X.w)).objs.size := by rw [hz1]; exact Nat.ne_of_lt (Nat.lt_succ_of_lt hlS)
  have hSf : s1.heap.objs.size ∉ [(s1.heap.push (set0 X.w)).objs.size, l] := by
    rw [hz1]
    simp only [List.mem_cons, List.mem_singleton, List.not_mem_nil, or_false, not_or]
    exact ⟨Nat.ne_of_lt (Nat.lt_succ_self _), Nat.ne_of_gt hlS⟩
  have ha0 : X.A.handled = none := I1.ok.hd hc
  have hst : ((s1.heap.push (set0 X.w)).push (iter0 l)).IsTupleIter (s1.heap.push (set0 X.w)).objs.size l 0 ∧ ((s1.heap.push (set0 X.w)).push (iter0 l)).IsTuple l its.toArray :=
    ⟨⟨_, Heap.get?_push_size _ rfl, rfl, rfl⟩, (ht.push _).push _⟩
  have hS2 : ((s1.heap.push (set0 X.w)).push (iter0 l)).get? s1.heap.objs.size = some (set0 X.w) := Heap.get?_push_of_some _ (Heap.get?_push_size _ rfl)
  have keep : ∀ {h'' : Heap} {S : Addr} {sA : Shared}, S = s1.heap.objs.size → sA.heap = (s1.heap.push (set0 X.w)).push (iter0 l) → (∀ b o, b ∉ [S, (s1.heap.push (set0 X.w)).objs.size] → sA.heap.get? b = some o → h''.get? b = some o) → ∀ b o, s1.heap.get? b = some o → h''.get? b = some o := fun {h'' S sA} e1 e2 hk b o e => by
    have hb := Heap.lt_size e
    refine hk b o ?_ (by rw [e2]; exact Heap.get?_push_of_some _ (Heap.get?_push_of_some _ e))
    rw [e1, hz1]
    simp only [List.mem_cons, List.mem_singleton, List.not_mem_nil, or_false, not_or]
    exact ⟨Nat.ne_of_lt hb, Nat.ne_of_lt (Nat.lt_succ_of_lt hb)⟩
  rcases q1 with ⟨xs, exs, hn, q1⟩ | ⟨as, ks, evs, hnk, hn, hdep, q1⟩
  · subst exs
    have hlen : its.toArray.size = xs.length := by rw [List.size_toArray, ← rv.length, List.length_map]
    refine call_setG (fun h' => h'.SetOf (PySem.strKind X.prog X.w) s1.heap.objs.size (fun x => decide (x ∈ xs)) (nub xs).length) ht (fun R hR => ?_) fun h' tk hp hk => ?_
    · refine tloop ((Walks.tuple (show X.A.in1.in1.in1.handled = none from ha0) _ l hneI its.toArray).toS) s1.heap.objs.size hSf xs hlen.symm (by rw [hlen]; exact hn) (fun i v hv => strs_get rv i v (by simpa using hv)) (its.toArray.size - 0) 0 _ (by omega) (Nat.zero_le _) hst ?_ fun s' hm hS' => ?_
      · exact PyProof.Rows.SetOf_congr ((PyProof.Rows.setObjOf_fresh (knd := PySem.strKind X.prog X.w) _).setOf hS2 (by unfold scanBound; omega)) (fun _ => by simp) rfl
      · obtain ⟨h', g', d', tk', os'⟩ := s'
        have eg : g' = s1.gens := hm.gens
        have ed : d' = s1.drawn := hm.drawn
        have eo : os' = s1.os := hm.os
        subst eg ed eo
        exact hR h' tk' hS' (keep rfl rfl hm.heap)
    · refine PyProof.Rows.args_nil ?_
      obtain ⟨o, es, ep, t, ho, hex, hd, _, _, _, hf, hn2⟩ := hp
      have I2 : Inv X pins σ H1 { s1 with heap := h', toks := tk } := I1.kept hk
      have := (nub_facts xs).2.2
      exact call_len_set ho hex hd hf (by rw [hn2]; omega) ⟨.int (nub xs).length, H1, I2.tok _, ⟨_, by rw [hn2]⟩, q1⟩
  · have hal : as.length = its.length := by rw [← rv.length, evs, List.length_map]
    have hna := nkA_is I1 hnk rv
    have hkl := NestedAll.length _ _ hna
    have hits : its = as.map Value.ref := refs_vals (by rw [← evs]; exact rv)
    -- the addresses with their keys
    have hz : ∀ (i : Nat) (v : Value), its.toArray[i]? = some v → ∃ p, (List.zip as ks)[i]? = some p ∧ v = .ref p.1 := fun i v hv => by
      have hv : its[i]? = some v := by simpa using hv
      rw [hits, List.getElem?_map] at hv
      cases hai : as[i]? with
      | none => rw [hai] at hv; cases hv
      | some a =>
        rw [hai] at hv
        cases hv
        have hil : i < as.length := (List.getElem?_eq_some_iff.mp hai).1
        obtain ⟨k, hk⟩ : ∃ k, ks[i]? = some k := ⟨_, List.getElem?_eq_getElem (by omega)⟩
        exact ⟨(a, k), by simp [List.getElem?_zip_eq_some, hai, hk], rfl⟩
    have hzl : (List.zip as ks).length = ks.length := by rw [List.length_zip]; omega
    have hall : ∀ {ks : List NK} {us : List Value}, NestedAll s1.heap ks us → ∀ (i : Nat) (k : NK) (u : Value), ks[i]? = some k → us[i]? = some u → NestedIs s1.heap k u := by
      intro ks
      induction ks with
      | nil => intro us h i k u e; simp at e
      | cons k0 ks ih =>
        intro us h i k u e e'
        cases h with
        | cons h1 h2 =>
          cases i with
          | zero =>
            simp at e e'
            subst e e'
            exact h1
          | succ i => exact ih h2 i k u (by simpa using e) (by simpa using e')
    have hni : ∀ p ∈ List.zip as ks, NI X.prog X.w s1.heap p.2 p.1 := fun p hp => by
      obtain ⟨i, hi⟩ := List.getElem?_of_mem hp
      rw [List.getElem?_zip_eq_some] at hi
      exact ⟨hall hna i p.2 (.ref p.1) hi.2 (by rw [hits, List.getElem?_map, hi.1]; rfl), hdep _ (List.mem_of_getElem? hi.2)⟩
    have hsnd : (List.zip as ks).map (·.2) = ks := List.map_snd_zip (by omega)
    refine call_setG (fun h' => ∃ L es ep t, NSet X.prog X.w h' s1.heap.objs.size L es ep t ∧ GotN (List.zip as ks) (List.zip as ks).length L) ht (fun R hR => ?_) fun h' tk hp hk => ?_
    · refine nloop ((Walks.tuple (show X.A.in1.in1.in1.handled = none from ha0) _ l hneI its.toArray).toS) s1.heap.objs.size hSf (List.zip as ks) (by rw [List.size_toArray, hzl]; omega) (by rw [hzl]; exact hn) hz s1.heap hni (none_ge (Nat.le_refl _))
        (fun b hb => none_ge (by rw [List.mem_singleton.mp hb, hz1]; exact Nat.le_succ _)) (by show X.A.units + 1 + 1 + 1 + 8 < cLine; omega) (its.toArray.size - 0) 0 _ (by omega) (Nat.zero_le _) hst (fun b o e => Heap.get?_push_of_some _ (Heap.get?_push_of_some _ e)) ⟨[], #[], 0, _, nset_fresh hS2, fun p h => (by cases h), fun p h => (by simp at h), Nat.le_refl _⟩ fun s' L es ep t hm hS' g' hkp => ?_
      obtain ⟨h', g2, d', tk', os'⟩ := s'
      have eg : g2 = s1.gens := hm.gens
      have ed : d' = s1.drawn := hm.drawn
      have eo : os' = s1.os := hm.os
      subst eg ed eo
      exact hR h' tk' ⟨L, es, ep, t, hS', by rw [show (List.zip as ks).length = its.toArray.size by rw [List.size_toArray, hzl]; omega]; exact g'⟩ hkp
    · refine PyProof.Rows.args_nil ?_
      obtain ⟨L, es, ep, t, hS', g⟩ := hp
      obtain ⟨o, ho, hex, hd⟩ := hS'.ob
      have I2 : Inv X pins σ H1 { s1 with heap := h', toks := tk } := I1.kept hk
      have hsz := rowN_len hS'.rows
      have hLn : L.length = (nub ks).length := by
        have := nodup_len_eq hS'.nd (nub_facts ks).2.1 fun k => by
          rw [(nub_facts ks).1]
          constructor
          · intro hk
            obtain ⟨p, hp, rfl⟩ := List.mem_map.mp hk
            have := g.sub p hp
            rw [List.take_length] at this
            exact hsnd ▸ List.mem_map_of_mem this
          · intro hk
            rw [← hsnd] at hk
            obtain ⟨p, hp, rfl⟩ := List.mem_map.mp hk
            exact g.all p (by rw [List.take_length]; exact hp)
        rw [List.length_map] at this
        exact this
      have := (nub_facts ks).2.2
      exact call_len_set ho hex hd (NSet.fits (s := { s1 with heap := h' }) hS') (by rw [hsz, hLn]; omega) ⟨.int (nub ks).length, H1, I2.tok _, ⟨_, by rw [hsz, hLn]⟩, q1⟩
mutual
def mkN : D → Option NK
  | .non => some .none
  | .bl b => some (.num (if b = true then 1 else 0))
  | .int i => some (.num i)
  | .str x => some (.text x)
  | .tup xs => (mkNs xs).map .tup
  | _ => none
def mkNs : List D → Option (List NK)
  | [] => some []
  | d :: ds => match mkN d, mkNs ds with
    | some k, some ks => some (k :: ks)
    | _, _ => none
end
mutual
theorem mkN_v {K : PySem.W.Frag} {F H : Hp} (e : Same F H) : ∀ {d : D} {v : V} {k : NK}, Rp K F v d → mkN d = some k → NkV K H v k
  | .non, _, _, r, h => by cases r; cases h; exact .non
  | .bl b, _, _, r, h => by cases r; cases h; exact .bl b
  | .int i, _, _, r, h => by cases r; cases h; exact .int i
  | .str x, _, _, r, h => by cases r; cases h; exact .str x
  | .tup xs, _, _, r, h => by
    cases r with
    | tup hq ra =>
      unfold mkN at h
      cases q : mkNs xs with
      | none => rw [q] at h; cases h
      | some ks => rw [q] at h; cases h; exact .tup (sqT_ext e hq) (mkNs_v e ra q)
  | .lst _, _, _, _, h => by unfold mkN at h; cases h
  | .dct _, _, _, _, h => by unfold mkN at h; cases h
  | .scr _, _, _, _, h => by unfold mkN at h; cases h
  | .typ _, _, _, _, h => by unfold mkN at h; cases h
theorem mkNs_v {K : PySem.W.Frag} {F H : Hp} (e : Same F H) : ∀ {d : List D} {v : List V} {k : List NK}, RpL K F v d → mkNs d = some k → NkA K H v k
  | [], _, _, r, h => by cases r; unfold mkNs at h; cases h; exact .nil
  | d :: ds, _, _, r, h => by
    cases r with
    | cons r1 r2 =>
      unfold mkNs at h
      split at h
      · rename_i e1 e2
        cases h
        exact .cons (mkN_v e r1 e1) (mkNs_v e r2 e2)
      · cases h
end
def D.isTup : D → Bool
  | .tup _ => true
  | _ => false
def dLenSet : D → Option Nat
  | .tup xs => match asS xs with
    | some ss => if ss.length < 4000 then some (nub ss).length else none
    | none => match mkNs xs with
      | some ks => if ks.length < 64 ∧ (∀ k ∈ ks, k.depth ≤ 8) ∧ xs.all D.isTup = true then some (nub ks).length else none
      | none => none
  | _ => none
def eLenSet (f : EF) : EF := bnd (eD f) fun d ρ => match dLenSet d with
  | some n => some (.im (.int (n : Nat)), ρ)
  | none => none
theorem refs_of {K : PySem.W.Frag} {F : Hp} : ∀ {vs : List V} {xs : List D}, RpL K F vs xs → xs.all D.isTup = true → ∃ as : List Addr, vs = as.map V.ref
  | _, _, .nil, _ => ⟨[], rfl⟩
  | _, x :: xs, .cons r t, h => by
    rw [List.all_cons, Bool.and_eq_true] at h
    obtain ⟨as, e⟩ := refs_of t h.2
    cases x with
    | tup ys =>
      obtain ⟨a, us, e2, _⟩ := r.tup_inv
      exact ⟨a :: as, by rw [e, e2]; rfl⟩
    | _ => cases h.1
theorem de_lenSet {S : Sc} {a : Expr} {fa : EF} {p p2 q pos : Pos} (hg : S.sc.names.lookup ("len" : Str) = some .globalImplicit) (hm : S.G.mg "len" = none) (hg2 : S.sc.names.lookup ("set" : Str) = some .globalImplicit) (hm2 : S.G.mg "set" = none) (ha : DE S a fa)
    (na : ∀ X, Stc S X → starEach [a] X.env = (false, eval a X.env) :: starEach [] X.env := by intros; rfl) : DE S (.Call (.Name "len" p) [.Call (.Name "set" p2) [a] [] q] [] pos) (eLenSet fa) := by
  obtain ⟨t, pt, o⟩ := ha
  refine ⟨tLenSetT S.G.K t, fun X h => by
    have := pe_lenSetT (X := X) (p := p) (p2 := p2) (q := q) (pos := pos) h.calm (by have := room65 h.room; omega) (by unfold Gl Env.kindOf; rw [h.sc]; exact hg) (by rw [h.mg]; exact hm) (by unfold Gl Env.kindOf; rw [h.sc]; exact hg2) (by rw [h.mg]; exact hm2) (pt X h) (na X h)
    rw [h.K] at this
    exact this, ?_⟩
  intro σ F H O ρ s ρ' Q er hf k
  obtain ⟨d, ρ1, h1, h2⟩ := bnd_some hf
  split at h2
  rotate_left
  · cases h2
  rename_i n hn
  cases h2
  unfold dLenSet at hn
  split at hn
  rotate_left
  · cases hn
  rename_i xs
  refine o.fz σ F H O ρ _ _ _ er h1 fun v F1 H1 O1 tr1 er1 r1 => ?_
  obtain ⟨l, vs, rfl, hq, rl⟩ := r1.tup_inv
  have fin : ∀ m : Nat, m = n → Q (.int (m : Nat)) H1 := fun m e => by
    rw [e]
    exact k _ F1 H1 O1 tr1 er1 (.int _) fun z => by cases z
  refine ⟨l, vs, rfl, sqT_ext er1.sw.ex hq, ?_⟩
  split at hn
  · rename_i ss hss
    split at hn
    · rename_i hl
      exact .inl ⟨ss, asS_rp rl hss, hl, fin _ (Option.some.inj hn)⟩
    · cases hn
  · split at hn
    · rename_i ks hks
      split at hn
      · rename_i hl
        obtain ⟨as, e⟩ := refs_of rl hl.2.2
        exact .inr ⟨as, ks, e, mkNs_v er1.sw.ex rl hks, hl.1, hl.2.1, fin _ (Option.some.inj hn)⟩
      · cases hn
    · cases hn
end DL

set_option Elab.async false
set_option linter.all false
set_option maxRecDepth 100000
set_option maxHeartbeats 4000000
/-! DLKit: constants and tables of the module, x op= e, defs by facts. -/
namespace DL
open PySem PySem.Spec PyProof.Rows L2

section
variable {S : Sc} {x : Str} {pos : Pos}
theorem de_gint {i : Int} (h : ∃ t, S.G.mg x = some (.int i t)) (hg : S.sc.names.lookup x = some .globalImplicit := by rfl) (hd : (x == ("__debug__" : Str)) = false := by decide) : DE S (.Name x pos) (eC (.int i)) := by
  obtain ⟨t, h⟩ := h
  exact de_glob (v := .int i) hg h ⟨t, rfl⟩ (fun _ => .int i) hd
theorem de_gstr {i : Str} (h : ∃ t, S.G.mg x = some (.str i t)) (hg : S.sc.names.lookup x = some .globalImplicit := by rfl) (hd : (x == ("__debug__" : Str)) = false := by decide) : DE S (.Name x pos) (eC (.str i)) := by
  obtain ⟨t, h⟩ := h
  exact de_glob (v := .str i) hg h ⟨t, rfl⟩ (fun _ => .str i) hd
/-- x op= e of ints -/
def dI2 (f : Int → Int → Int) : D → D → Option Sl
  | .int a, .int b => some (.im (.int (f a b)))
  | _, _ => none
theorem r2k_i2 {K : PySem.W.Frag} {f : Int → Int → Int} : R2K K (ipI f) (dI2 f) := by
  intro x y dx dy F H s Q e vx vy hg ro
  unfold dI2 at hg
  split at hg
  · cases hg
    obtain rfl := vx.int_inv
    obtain rfl := vy.int_inv
    exact ⟨_, _, rfl, rfl, ro.1 _ (.int _)⟩
  · cases hg
end

def envS (sc : Scope) (e : Env) : Env := { e with scope := sc }
theorem sws {S : Sc} {X : Cx} {ts : List Expr} {v : Expr} (h : Stc S X) : swappedStores ts v X.env = swappedStores ts v (envS S.sc X.env) := by
  unfold swappedStores Env.blockKind Env.kindOf envS
  rw [h.sc]

/-! ### a table of the module: text keys, int values -/
structure GDict (G : GE) (x : Str) (tbl : List (Str × Option Int)) : Prop where
  ex : ∃ d, G.mg x = some (.ref d) ∧ (∃ es n, KDict G.K G.w d es n) ∧ ∀ z o, tbl.lookup z = some o → (∀ i, o = some i → ∃ t, PySem.W.nsIn G.K d z = some (some (.int i t))) ∧ (o = none → PySem.W.nsIn G.K d z = some none)
def kdB (K : PySem.W.Frag) (d : Addr) (tbl : List (Str × Option Int)) : Bool := tbl.all fun q => match PySem.W.nsIn K d q.1 with
  | some (some (.int j _)) => decide (q.2 = some j)
  | some none => decide (q.2 = none)
  | _ => false
theorem lookup_mem' {α β : Type} [BEq α] [LawfulBEq α] {x : α} {y : β} : ∀ {l : List (α × β)}, l.lookup x = some y → (x, y) ∈ l
  | (a, b) :: l, h => by
    rw [List.lookup_cons] at h
    by_cases e : x = a
    · subst e
      rw [beq_self_eq_true] at h
      cases h
      exact List.mem_cons_self
    · rw [beq_eq_false_iff_ne.mpr e] at h
      exact List.mem_cons_of_mem _ (lookup_mem' h)
theorem gdict_of {G : GE} {x : Str} {d : Addr} {tbl : List (Str × Option Int)} (h1 : G.mg x = some (.ref d)) (h2 : ∃ es n, KDict G.K G.w d es n) (h3 : kdB G.K d tbl = true) : GDict G x tbl := by
  refine ⟨d, h1, h2, fun z o hz => ?_⟩
  have := List.all_eq_true.mp h3 _ (lookup_mem' hz)
  split at this
  · rename_i j t e
    have e2 : o = some j := of_decide_eq_true this
    exact ⟨fun i hi => ⟨t, (by rw [hi] at e2; cases e2; exact e)⟩, fun hn => (by rw [hn] at e2; cases e2)⟩
  · rename_i e
    have e2 : o = none := of_decide_eq_true this
    exact ⟨fun i hi => (by rw [hi] at e2; cases e2), fun _ => e⟩
  · cases this
def eKIn (neg : Bool) (tbl : List (Str × Option Int)) (fa : EF) : EF := bnd (eD fa) fun x ρ => match x with
  | .str z => match tbl.lookup z with
    | some o => some (.im (.bl (if neg then !o.isSome else o.isSome)), ρ)
    | none => none
  | _ => none
def eKIx (tbl : List (Str × Option Int)) (fa : EF) : EF := bnd (eD fa) fun x ρ => match x with
  | .str z => match tbl.lookup z with
    | some (some i) => some (.im (.int i), ρ)
    | _ => none
  | _ => none
section
variable {S : Sc} {x : Str} {a : Expr} {fa : EF} {tbl : List (Str × Option Int)} {p pos : Pos}
theorem eok_kin {K : PySem.W.Frag} {ta : TE} {d : Addr} {neg : Bool} (oa : EOK K ta fa) (h : ∀ z o, tbl.lookup z = some o → (∀ i, o = some i → ∃ t, PySem.W.nsIn K d z = some (some (.int i t))) ∧ (o = none → PySem.W.nsIn K d z = some none)) :
    EOK K (tOp (fun x y H Q => ∃ (z : Str) (r : Option Value), x = .str z ∧ y = .ref d ∧ PySem.W.nsIn K d z = some r ∧ Q (.bl (if neg then !r.isSome else r.isSome)) H) ta (tC (.ref d))) (eKIn neg tbl fa) := by
  intro σ F H O ρ s ρ' Q er hf k
  obtain ⟨v, ρ1, h1, h2⟩ := bnd_some hf
  split at h2
  rotate_left
  · cases h2
  rename_i z
  split at h2
  rotate_left
  · cases h2
  rename_i o ho
  cases h2
  refine oa.fz σ F H O ρ _ _ _ er h1 fun v F1 H1 O1 tr1 er1 r1 => ?_
  obtain rfl := r1.str_inv
  obtain ⟨q1, q2⟩ := h z o ho
  cases o with
  | none => exact ⟨z, none, rfl, rfl, q2 rfl, k _ F1 H1 O1 tr1 er1 (.bl _) fun z => by cases z⟩
  | some i =>
    obtain ⟨t, e⟩ := q1 i rfl
    exact ⟨z, _, rfl, rfl, e, k _ F1 H1 O1 tr1 er1 (.bl _) fun z => by cases z⟩
theorem de_notin_kd (T : GDict S.G x tbl) (ha : DE S a fa) (hg : S.sc.names.lookup x = some .globalImplicit := by rfl) (hd : (x == ("__debug__" : Str)) = false := by decide) : DE S (.Compare a [.NotIn] [.Name x p] pos) (eKIn true tbl fa) := by
  obtain ⟨d, hm, ⟨es, n, KD⟩, hz⟩ := T.ex
  obtain ⟨ta, pa, oa⟩ := ha
  exact ⟨_, fun X h => by
    have := pe_cmpR (pos := pos) (op_notIn_kd (X := X) (by rw [h.K, h.w]; exact KD)) (pa X h) (pe_glob (v := .ref d) (u := .ref d) (pos := p) (by unfold Gl Env.kindOf; rw [h.sc]; exact hg) (by rw [h.mg]; exact hm) rfl hd) rfl
    rw [h.K] at this
    exact this, eok_kin (neg := true) oa hz⟩
theorem dt_notin_kd (T : GDict S.G x tbl) (ha : DE S a fa) (hg : S.sc.names.lookup x = some .globalImplicit := by rfl) (hd : (x == ("__debug__" : Str)) = false := by decide) : DT S (.Compare a [.NotIn] [.Name x p] pos) (tB1 (eKIn true tbl fa)) := by
  obtain ⟨d, hm, ⟨es, n, KD⟩, hz⟩ := T.ex
  obtain ⟨ta, pa, oa⟩ := ha
  exact ⟨_, fun X h => by
    have := pt_cmpR (pos := pos) (op_notIn_kd (X := X) (by rw [h.K, h.w]; exact KD)) (pa X h) (pe_glob (v := .ref d) (u := .ref d) (pos := p) (by unfold Gl Env.kindOf; rw [h.sc]; exact hg) (by rw [h.mg]; exact hm) rfl hd) rfl
    rw [h.K] at this
    exact this, tok_val (eok_kin (neg := true) oa hz)⟩
theorem de_ix_kd (T : GDict S.G x tbl) (ha : DE S a fa) (hs : PlainIx a := by exact fun _ _ => rfl) (hg : S.sc.names.lookup x = some .globalImplicit := by rfl) (hd : (x == ("__debug__" : Str)) = false := by decide) : DE S (.Subscript (.Name x p) a pos) (eKIx tbl fa) := by
  obtain ⟨d, hm, ⟨es, n, KD⟩, hz⟩ := T.ex
  obtain ⟨ta, pa, oa⟩ := ha
  refine ⟨tOp (rIxD S.G.K S.G.w) (tC (.ref d)) ta, fun X h => by
    have := pe_ix (pos := pos) (ix_kdict (X := X)) (pe_glob (v := .ref d) (u := .ref d) (pos := p) (by unfold Gl Env.kindOf; rw [h.sc]; exact hg) (by rw [h.mg]; exact hm) rfl hd) (pa X h) hs
    rw [h.K, h.w] at this
    exact this, ?_⟩
  intro σ F H O ρ s ρ' Q er hf k
  obtain ⟨v, ρ1, h1, h2⟩ := bnd_some hf
  split at h2
  rotate_left
  · cases h2
  rename_i z
  split at h2
  rotate_left
  · cases h2
  rename_i i ho
  cases h2
  refine oa.fz σ F H O ρ _ _ _ er h1 fun v F1 H1 O1 tr1 er1 r1 => ?_
  obtain rfl := r1.str_inv
  obtain ⟨t, e⟩ := (hz z _ ho).1 i rfl
  exact ⟨d, z, .int i, rfl, rfl, ⟨es, n, .int i t, KD.at_, KD.lit, e, t, rfl⟩, k _ F1 H1 O1 tr1 er1 (.int i) fun z => by cases z⟩
end

/-! ### defs by facts -/
abbrev FunF (K : PySem.W.Frag) (x : Str) (st : Stmt) (f : Addr) (fd : FuncData) : Prop := FunD K x x (defArgs st) (defBody st) (defScope st) [] [] f fd
theorem fun_of {K : PySem.W.Frag} {x : Str} {st : Stmt} {f : Addr} {fd : FuncData} (h : FunF K x st f fd) : Fun K x x st f fd := by
  obtain ⟨oc, od, dV, kV, doc, pm, an, cdv, ct, osl, e, lk, hc, hD, _⟩ := h.ex
  rcases hD with ⟨_, rfl⟩ | ⟨z, _⟩
  · exact ⟨⟨oc, od, kV, doc, pm, an, cdv, ct, osl, e, lk, hc⟩, h.kp⟩
  · exact absurd rfl z
/-- where a def of the module stands -/
structure Has (G : GE) (x : Str) (st : Stmt) : Prop where
  ex : ∃ f fd, G.mg x = some (.ref f) ∧ FunF G.K x st f fd
/-- how plain arguments bind -/
def BindsP (x : Str) (st : Stmt) (ps : List Str) : Prop := ∀ (kV doc pm : Value) (an : Option Addr) (cdv ct : Value) (us : List Value), us.length = ps.length → bindArgs (PySem.W.fnOf x x (defArgs st) (defBody st) (defScope st) .none kV doc pm an cdv ct) ⟨us, []⟩ = pure (ps.zip us)
section
variable {G : GE} {x : Str} {st : Stmt} {N ps : List Str} {k : Nat} {g : SF}
theorem ok_P (h : Has G x st) (Sc : FnScope N ps (defScope st)) (b : BindsP x st ps) (fm : List D → Option Sl) (body : DSs (scOf G N Sc.nd st k) (defBody st) g) (hm : ∀ ds s, ds.length = ps.length → fm ds = some s → runP g N.length ds = some s) : FnP G (k + 1) x ps.length fm := by
  obtain ⟨f, fd, h1, h2⟩ := h.ex
  have F := fun_of h2
  exact ⟨f, fd, ps, k + 1, h1, h2.kp, F.binds b, Nat.le_refl _, fnP_of F Sc body hm⟩
theorem ok_S (h : Has G x st) (Sc : FnScope N ps (defScope st)) (b : BindsP x st ps) (n : Nat) (hps : ps.length = n + 1) (fm : List D → List D → Option (Sl × List D)) (body : DSs (scOf G N Sc.nd st k (fun i => i == 0)) (defBody st) g)
    (hm : ∀ xs ds s, ds.length = n → fm xs ds = some s → runS g N.length xs ds = some s) : FnS G (k + 1) x n fm := by
  obtain ⟨f, fd, h1, h2⟩ := h.ex
  have F := fun_of h2
  exact ⟨f, fd, ps, k + 1, h1, h2.kp, F.binds b, Nat.le_refl _, fnS_of F Sc body n hps hm⟩
end
end DL

set_option Elab.async false
set_option linter.all false
set_option maxRecDepth 100000
set_option maxHeartbeats 4000000
/-! DLEv: the mirrors' combinators, opened. -/
namespace DL
open PySem PySem.Spec PyProof.Rows L2

section
variable {α β : Type} {ρ ρ' : En} {d : D} {s : Sl}
@[simp] theorem ev_bnd (f : En → Option (α × En)) (g : α → En → Option β) : bnd f g ρ = (match f ρ with
  | none => none
  | some (a, ρ') => g a ρ') := rfl
@[simp] theorem ev_eD (f : EF) : eD f ρ = (match f ρ with
  | none => none
  | some (s, ρ') => some (s.d, ρ')) := by
  unfold eD bnd
  cases f ρ <;> rfl
@[simp] theorem ev_eC (d : D) : eC d ρ = some (.im d, ρ) := rfl
@[simp] theorem ev_eV (i : Nat) : eV i ρ = (match ρ[i]? with
  | some (some (.im d)) => some (.im d, ρ)
  | some (some s) => some (.im s.d, ρ.set i (some (.im s.d)))
  | _ => none) := rfl
@[simp] theorem ev_slotD (i : Nat) : slotD ρ i = (match ρ[i]? with
  | some (some s) => some s.d
  | _ => none) := rfl
@[simp] theorem ev_im : (Sl.im d).d = d := rfl
@[simp] theorem ev_ol (xs : List D) : (Sl.ol xs).d = .lst xs := rfl
@[simp] theorem ev_od (xs : List (Key × D)) : (Sl.od xs).d = .dct xs := rfl
@[simp] theorem ev_aNil : aNil ρ = some ([], ρ) := rfl
@[simp] theorem ev_aCons (f : EF) (r : AF) : aCons f r ρ = bnd (eD f) (fun d => bnd r fun ds ρ => some (d :: ds, ρ)) ρ := rfl
@[simp] theorem ev_aStar (f : EF) (r : AF) : aStar f r ρ = bnd (eD f) (fun d => match d with
  | .tup xs => bnd r fun ys ρ => some (xs ++ ys, ρ)
  | .lst xs => bnd r fun ys ρ => some (xs ++ ys, ρ)
  | _ => fun _ => none) ρ := rfl
@[simp] theorem ev_eB (g : D → D → Option Sl) (fa fb : EF) : eB g fa fb ρ = bnd (eD fa) (fun x => bnd (eD fb) fun y ρ => match g x y with
  | none => none
  | some s => some (s, ρ)) ρ := rfl
@[simp] theorem ev_eU (g : D → Option Sl) (fa : EF) : eU g fa ρ = bnd (eD fa) (fun x ρ => match g x with
  | none => none
  | some s => some (s, ρ)) ρ := rfl
@[simp] theorem ev_tB1 (f : EF) : tB1 f ρ = bnd (eD f) (fun d ρ => match d with
  | .bl b => some (b, ρ)
  | _ => none) ρ := rfl
@[simp] theorem ev_eCh (g g' : D → D → Option Sl) (fa fb fc : EF) : eCh g g' fa fb fc ρ = bnd (eD fa) (fun x => bnd (eD fb) fun y ρ => match g x y with
  | some (.im (.bl true)) => bnd (eD fc) (fun z ρ2 => match g' y z with
    | none => none
    | some s => some (s, ρ2)) ρ
  | some (.im (.bl false)) => some (.im (.bl false), ρ)
  | _ => none) ρ := rfl
@[simp] theorem ev_eAnd (fa fb : EF) : eAnd fa fb ρ = bnd (eD fa) (fun d ρ => match d with
  | .bl true => fb ρ
  | .bl false => some (.im (.bl false), ρ)
  | _ => none) ρ := rfl
@[simp] theorem ev_eOr (fa fb : EF) : eOr fa fb ρ = bnd (eD fa) (fun d ρ => match d with
  | .bl true => some (.im (.bl true), ρ)
  | .bl false => fb ρ
  | _ => none) ρ := rfl
@[simp] theorem ev_eNot (fa : EF) : eNot fa ρ = bnd (eD fa) (fun d ρ => match d with
  | .bl b => some (.im (.bl (!b)), ρ)
  | _ => none) ρ := rfl
@[simp] theorem ev_tAnd2 (f g : TF) : tAnd2 f g ρ = bnd f (fun b ρ => if b then g ρ else some (false, ρ)) ρ := rfl
@[simp] theorem ev_tOr2 (f g : TF) : tOr2 f g ρ = bnd f (fun b ρ => if b then some (true, ρ) else g ρ) ρ := rfl
@[simp] theorem ev_tNot1 (f : TF) : tNot1 f ρ = bnd f (fun b ρ => some (!b, ρ)) ρ := rfl
@[simp] theorem ev_tTrue : tTrue ρ = some (true, ρ) := rfl
@[simp] theorem ev_eIf (t : TF) (fa fb : EF) : eIf t fa fb ρ = bnd t (fun b ρ => if b then fa ρ else fb ρ) ρ := rfl
@[simp] theorem ev_eTup (r : AF) : eTup r ρ = bnd r (fun ds ρ => if ds.length ≤ big then some (.im (.tup ds), ρ) else none) ρ := rfl
@[simp] theorem ev_eLst (r : AF) : eLst r ρ = bnd r (fun ds ρ => if ds.length ≤ big then some (.ol ds, ρ) else none) ρ := rfl
@[simp] theorem ev_eCa (g : List D → Option Sl) (r : AF) : eCa g r ρ = bnd r (fun ds ρ => match g ds with
  | none => none
  | some s => some (s, ρ)) ρ := rfl
@[simp] theorem ev_sNil : sNil ρ = some (.nx ρ) := rfl
@[simp] theorem ev_sSeq (g g' : SF) : sSeq g g' ρ = (match g ρ with
  | some (.nx ρ') => g' ρ'
  | o => o) := rfl
@[simp] theorem ev_sRet (f : EF) : sRet f ρ = bnd f (fun s ρ => some (.rt s ρ)) ρ := rfl
@[simp] theorem ev_sRetN : sRetN ρ = some (.rt (.im .non) ρ) := rfl
@[simp] theorem ev_sRetO (i : Nat) : sRetO i ρ = (match ρ[i]? with
  | some (some s) => some (.rt s (ρ.set i none))
  | _ => none) := rfl
@[simp] theorem ev_sIf (t : TF) (g g' : SF) : sIf t g g' ρ = bnd t (fun b ρ => if b then g ρ else g' ρ) ρ := rfl
@[simp] theorem ev_sSet (i : Nat) (f : EF) : sSet i f ρ = bnd (eD f) (fun d ρ => some (.nx (ρ.set i (some (.im d))))) ρ := rfl
@[simp] theorem ev_sSetO (i : Nat) (f : EF) : sSetO i f ρ = bnd f (fun s ρ => some (.nx (ρ.set i (some s)))) ρ := rfl
@[simp] theorem ev_sDrop (f : EF) : sDrop f ρ = bnd f (fun _ ρ => some (.nx ρ)) ρ := rfl
@[simp] theorem ev_sAsg (f : EF) (g : D → En → Option En) : sAsg f g ρ = bnd (eD f) (fun d ρ => (g d ρ).map .nx) ρ := rfl
@[simp] theorem ev_sAug (i : Nat) (g : D → D → Option Sl) (f : EF) : sAug i g f ρ = (match ρ[i]? with
  | some (some (.im d)) => bnd (eD f) (fun d2 ρ1 => match g d d2 with
    | some (.im d3) => some (.nx (ρ1.set i (some (.im d3))))
    | _ => none) ρ
  | _ => none) := rfl
@[simp] theorem ev_sFor (fi : AF) (gb : D → En → Option En) (body : SF) : sFor fi gb body ρ = bnd fi (fun ds => forF gb body ds) ρ := rfl
@[simp] theorem ev_sWhile (fuel : En → Nat) (t : TF) (body : SF) : sWhile fuel t body ρ = whileF t body (fuel ρ) ρ := rfl
@[simp] theorem ev_gN (i : Nat) : gN i d ρ = some (ρ.set i (some (.im d))) := rfl
@[simp] theorem ev_gsNil : gsNil [] ρ = some ρ := rfl
@[simp] theorem ev_gsCons (f : D → En → Option En) (g : List D → En → Option En) (r : List D) : gsCons f g (d :: r) ρ = (f d ρ).bind (g r) := rfl
@[simp] theorem ev_gT (n : Nat) (f : List D → En → Option En) (ds : List D) : gT n f (.tup ds) ρ = (if ds.length = n then f ds ρ else none) := rfl
@[simp] theorem ev_gTU1 (n : Nat) (f : List D → En → Option En) (ds : List D) : gTU n f (.tup ds) ρ = (if ds.length = n then f ds ρ else none) := rfl
@[simp] theorem ev_gTU2 (n : Nat) (f : List D → En → Option En) (ds : List D) : gTU n f (.lst ds) ρ = (if ds.length = n then f ds ρ else none) := rfl
@[simp] theorem ev_gIx (i : Nat) (fk : EF) : gIx i fk d ρ = (match ρ[i]? with
  | some (some (.ol _)) => bnd (eD fk) (fun k ρ1 => match ρ1[i]?, k with
    | some (some (.ol xs)), .int z => (ixN xs.length z).map fun j => ρ1.set i (some (.ol (xs.set j d)))
    | _, _ => none) ρ
  | _ => none) := rfl
@[simp] theorem ev_eIxV (i : Nat) (fb : EF) : eIxV i fb ρ = (match slotD ρ i with
  | none => none
  | some _ => bnd (eD fb) (fun y ρ => match slotD ρ i with
    | none => none
    | some x => match dIx x y with
      | none => none
      | some s => some (s, ρ)) ρ) := rfl
@[simp] theorem ev_eInV (neg : Bool) (i : Nat) (fa : EF) : eInV neg i fa ρ = bnd (eD fa) (fun x ρ => match slotD ρ i with
  | none => none
  | some y => match dIn neg x y with
    | none => none
    | some s => some (s, ρ)) ρ := rfl
@[simp] theorem ev_eLenV (i : Nat) : eLenV i ρ = (match slotD ρ i with
  | none => none
  | some d => match gLen [d] with
    | none => none
    | some s => some (s, ρ)) := rfl
@[simp] theorem ev_oNone : oNone ρ = some (none, ρ) := rfl
@[simp] theorem ev_oSome (f : EF) : oSome f ρ = bnd (eD f) (fun d ρ => match d with
  | .int i => some (some i, ρ)
  | _ => none) ρ := rfl
@[simp] theorem ev_eSl (fa : EF) (fl fh : PF) : eSl fa fl fh ρ = bnd (eD fa) (fun x => bnd fl fun lo => bnd fh fun hi ρ => match dSl x lo hi with
  | none => none
  | some s => some (s, ρ)) ρ := rfl
@[simp] theorem ev_eRevT (f : EF) : eRevT f ρ = bnd (eD f) (fun d ρ => match d with
  | .tup xs => some (.im (.tup xs.reverse), ρ)
  | _ => none) ρ := rfl
@[simp] theorem ev_iAny (f : EF) : iAny f ρ = bnd (eD f) (fun d ρ => match d with
  | .lst ds => some (ds, ρ)
  | .tup ds => some (ds, ρ)
  | .str x => some (chars x, ρ)
  | .scr ns => some (ns.map D.int, ρ)
  | _ => none) ρ := rfl
@[simp] theorem ev_iR1 (r : AF) : iR1 r ρ = bnd r (fun ds ρ => match ds with
  | [.int j] => if -(2 ^ 62) ≤ j ∧ j < 2 ^ 62 then some (rangeD 0 j.toNat, ρ) else none
  | _ => none) ρ := rfl
@[simp] theorem ev_iZp (r : AF) : iZp r ρ = bnd r (fun ds ρ => match ds with
  | [.lst xs, .lst ys] => some (zipD xs ys, ρ)
  | [.tup xs, .tup ys] => some (zipD xs ys, ρ)
  | _ => none) ρ := rfl
@[simp] theorem ev_eLZ (r : AF) : eLZ r ρ = bnd r (fun ds ρ => match ds with
  | [.tup xs, .tup ys] => if xs.length ≤ big then some (.ol (zipD xs ys), ρ) else none
  | _ => none) ρ := rfl
@[simp] theorem ev_eDct0 : eDct0 ρ = some (.od [], ρ) := rfl
@[simp] theorem ev_eKIn (neg : Bool) (tbl : List (Str × Option Int)) (fa : EF) : eKIn neg tbl fa ρ = bnd (eD fa) (fun x ρ => match x with
  | .str z => match tbl.lookup z with
    | some o => some (.im (.bl (if neg then !o.isSome else o.isSome)), ρ)
    | none => none
  | _ => none) ρ := rfl
@[simp] theorem ev_eKIx (tbl : List (Str × Option Int)) (fa : EF) : eKIx tbl fa ρ = bnd (eD fa) (fun x ρ => match x with
  | .str z => match tbl.lookup z with
    | some (some i) => some (.im (.int i), ρ)
    | _ => none
  | _ => none) ρ := rfl
@[simp] theorem ev_eLenSet (f : EF) : eLenSet f ρ = bnd (eD f) (fun d ρ => match dLenSet d with
  | some n => some (.im (.int (n : Nat)), ρ)
  | none => none) ρ := rfl
@[simp] theorem ev_eGet2 (fd fk fz : EF) : eGet2 fd fk fz ρ = bnd (eD fd) (fun d => match d with
  | .dct kvs => bnd (eD fk) fun k => bnd (eD fz) fun z ρ => match mkKey k with
    | some key => some (.im ((lookD kvs key).getD z), ρ)
    | none => none
  | _ => fun _ => none) ρ := rfl
@[simp] theorem ev_eGet2V (i : Nat) (fk fz : EF) : eGet2V i fk fz ρ = (match slotD ρ i with
  | some (.dct _) => bnd (eD fk) (fun k => bnd (eD fz) fun z ρ => match slotD ρ i, mkKey k with
    | some (.dct kvs), some key => some (.im ((lookD kvs key).getD z), ρ)
    | _, _ => none) ρ
  | _ => none) := rfl
@[simp] theorem ev_sPutV (i : Nat) (fv fk : EF) : sPutV i fv fk ρ = bnd (eD fv) (fun d ρ => match ρ[i]? with
  | some (some (.od _)) => bnd (eD fk) (fun k ρ1 => match ρ1[i]?, mkKey k with
    | some (some (.od kvs)), some key => if kvs.length < big then some (.nx (ρ1.set i (some (.od (putD kvs key d))))) else none
    | _, _ => none) ρ
  | _ => none) ρ := rfl
@[simp] theorem ev_eMutV (i : Nat) (g : List D → List D → Option (D × List D)) (r : AF) : eMutV i g r ρ = (match ρ[i]? with
  | some (some (.ol _)) => bnd r (fun ds ρ1 => match ρ1[i]? with
    | some (some (.ol xs)) => match g xs ds with
      | some (d, ys) => some (.im d, ρ1.set i (some (.ol ys)))
      | none => none
    | _ => none) ρ
  | _ => none) := rfl
@[simp] theorem ev_eCall (fm : List D → Option Sl) (r : AF) : eCall fm r ρ = bnd r (fun ds ρ => match fm ds with
  | none => none
  | some s => some (s, ρ)) ρ := rfl
@[simp] theorem ev_eCallS (i : Nat) (fm : List D → List D → Option (Sl × List D)) (r : AF) : eCallS i fm r ρ = (match ρ[i]? with
  | some (some (.ol _)) => bnd r (fun ds ρ1 => match ρ1[i]? with
    | some (some (.ol xs)) => match fm xs ds with
      | some (s, xs') => some (s, ρ1.set i (some (.ol xs')))
      | none => none
    | _ => none) ρ
  | _ => none) := rfl
@[simp] theorem ev_eCallT (fm : List D → List D → Option (Sl × List D)) (f : EF) : eCallT fm f ρ = bnd f (fun s ρ => match s with
  | .ol xs => match fm xs [] with
    | some (s', _) => some (s', ρ)
    | none => none
  | _ => none) ρ := rfl
@[simp] theorem ev_asNil : asNil ρ = some ([], ρ) := rfl
@[simp] theorem ev_asCons (f : EF) (r : SAF) : asCons f r ρ = bnd f (fun s => bnd r fun ss ρ => some (s :: ss, ρ)) ρ := rfl
@[simp] theorem ev_sPar2 (i j : Nat) (r : SAF) : sPar2 i j r ρ = bnd r (fun ss ρ => match ss with
  | [s1, s2] => some (.nx ((ρ.set i (some s1)).set j (some s2)))
  | _ => none) ρ := rfl
@[simp] theorem ev_sPar3 (i j l : Nat) (r : SAF) : sPar3 i j l r ρ = bnd r (fun ss ρ => match ss with
  | [s1, s2, s3] => some (.nx (((ρ.set i (some s1)).set j (some s2)).set l (some s3)))
  | _ => none) ρ := rfl
@[simp] theorem ev_for_nil (gb : D → En → Option En) (body : SF) : forF gb body [] ρ = some (.nx ρ) := rfl
end
end DL

set_option Elab.async false
set_option linter.all false
set_option maxRecDepth 100000
set_option maxHeartbeats 4000000
/-! DLLoop: loops and comprehensions over data, by an invariant. -/
namespace DL
open PySem PySem.Spec PyProof.Rows L2

theorem for_inv {gb : D → En → Option En} {body : SF} {all : List D} (I : List D → En → Prop)
    (step : ∀ pre d post ρ, all = pre ++ d :: post → I pre ρ → ∃ ρ1 ρ2, gb d ρ = some ρ1 ∧ (body ρ1 = some (.nx ρ2) ∨ body ρ1 = some (.ct ρ2)) ∧ I (pre ++ [d]) ρ2) :
    ∀ (ds pre : List D) (ρ : En), all = pre ++ ds → I pre ρ → ∃ ρ', forF gb body ds ρ = some (.nx ρ') ∧ I all ρ'
  | [], pre, ρ, e, h => ⟨ρ, rfl, by rw [e, List.append_nil]; exact h⟩
  | d :: ds, pre, ρ, e, h => by
    obtain ⟨ρ1, ρ2, h1, h2, h3⟩ := step pre d ds ρ e h
    obtain ⟨ρ', h4, h5⟩ := for_inv I step ds (pre ++ [d]) ρ2 (by rw [e]; simp) h3
    refine ⟨ρ', ?_, h5⟩
    unfold forF
    rw [h1]
    rcases h2 with h2 | h2
    · simp only [h2]; exact h4
    · simp only [h2]; exact h4
theorem for_ok {gb : D → En → Option En} {body : SF} {all : List D} (I : List D → En → Prop) {ρ : En} (h0 : I [] ρ)
    (step : ∀ pre d post ρ, all = pre ++ d :: post → I pre ρ → ∃ ρ1 ρ2, gb d ρ = some ρ1 ∧ (body ρ1 = some (.nx ρ2) ∨ body ρ1 = some (.ct ρ2)) ∧ I (pre ++ [d]) ρ2) :
    ∃ ρ', forF gb body all ρ = some (.nx ρ') ∧ I all ρ' := for_inv I step all [] ρ rfl h0
/-- a loop that may return -/
theorem for_ret {gb : D → En → Option En} {body : SF} {all : List D} (I : List D → En → Prop) (R : Sl → En → Prop)
    (step : ∀ pre d post ρ, all = pre ++ d :: post → I pre ρ → ∃ ρ1, gb d ρ = some ρ1 ∧ ((∃ ρ2, (body ρ1 = some (.nx ρ2) ∨ body ρ1 = some (.ct ρ2)) ∧ I (pre ++ [d]) ρ2) ∨ ∃ s ρ2, body ρ1 = some (.rt s ρ2) ∧ R s ρ2)) :
    ∀ (ds pre : List D) (ρ : En), all = pre ++ ds → I pre ρ → (∃ ρ', forF gb body ds ρ = some (.nx ρ') ∧ I all ρ') ∨ ∃ s ρ', forF gb body ds ρ = some (.rt s ρ') ∧ R s ρ'
  | [], pre, ρ, e, h => .inl ⟨ρ, rfl, by rw [e, List.append_nil]; exact h⟩
  | d :: ds, pre, ρ, e, h => by
    obtain ⟨ρ1, h1, h2⟩ := step pre d ds ρ e h
    rcases h2 with ⟨ρ2, h2, h3⟩ | ⟨s, ρ2, h2, h3⟩
    · have ih := for_ret I R step ds (pre ++ [d]) ρ2 (by rw [e]; simp) h3
      have e : forF gb body (d :: ds) ρ = forF gb body ds ρ2 := by
        show (match gb d ρ with
          | none => none
          | some ρ1 => match body ρ1 with
            | some (.nx ρ2) => forF gb body ds ρ2
            | some (.ct ρ2) => forF gb body ds ρ2
            | some (.bk ρ2) => some (.nx ρ2)
            | some (.rt s ρ2) => some (.rt s ρ2)
            | none => none) = _
        rw [h1]
        rcases h2 with h2 | h2
        · simp only [h2]
        · simp only [h2]
      rw [e]
      exact ih
    · refine .inr ⟨s, ρ2, ?_, h3⟩
      unfold forF
      simp only [h1, h2]
/-- what a turn of a comprehension does -/
def lcTurn (gb : D → En → Option En) (t : TF) (fe : EF) (vs : List Nat) (d : D) (ρ : En) (o : Option D) (ρ' : En) : Prop :=
  ∃ ρ1, gb d ρ = some ρ1 ∧ ((o = none ∧ ∃ ρ2, t ρ1 = some (false, ρ2) ∧ ρ' = wipeE ρ2 vs) ∨ ∃ y ρ2 ρ3, o = some y ∧ t ρ1 = some (true, ρ2) ∧ eD fe ρ2 = some (y, ρ3) ∧ ρ' = wipeE ρ3 vs)
theorem lc_inv {gb : D → En → Option En} {t : TF} {fe : EF} {vs : List Nat} {all : List D} (I : List D → List D → En → Prop)
    (step : ∀ pre d post acc ρ, all = pre ++ d :: post → I pre acc ρ → ∃ o ρ', lcTurn gb t fe vs d ρ o ρ' ∧ I (pre ++ [d]) (acc ++ o.toList) ρ') :
    ∀ (ds pre acc : List D) (ρ : En), all = pre ++ ds → I pre acc ρ → ∃ ys ρ', lcF gb t fe vs ds ρ = some (ys, ρ') ∧ I all (acc ++ ys) ρ'
  | [], pre, acc, ρ, e, h => ⟨[], ρ, rfl, by rw [e, List.append_nil, List.append_nil]; exact h⟩
  | d :: ds, pre, acc, ρ, e, h => by
    obtain ⟨o, ρ', ⟨ρ1, h1, h2⟩, h3⟩ := step pre d ds acc ρ e h
    obtain ⟨ys, ρ'', h4, h5⟩ := lc_inv I step ds (pre ++ [d]) (acc ++ o.toList) ρ' (by rw [e]; simp) h3
    rcases h2 with ⟨rfl, ρ2, h2, rfl⟩ | ⟨y, ρ2, ρ3, rfl, h2, h6, rfl⟩
    · refine ⟨ys, ρ'', ?_, by simpa using h5⟩
      unfold lcF
      simp only [h1, h2]
      exact h4
    · refine ⟨y :: ys, ρ'', ?_, by simpa using h5⟩
      unfold lcF
      simp only [h1, h2, h6, h4]
theorem lc_ok {gb : D → En → Option En} {t : TF} {fe : EF} {vs : List Nat} {all : List D} (I : List D → List D → En → Prop) {ρ : En} (h0 : I [] [] ρ)
    (step : ∀ pre d post acc ρ, all = pre ++ d :: post → I pre acc ρ → ∃ o ρ', lcTurn gb t fe vs d ρ o ρ' ∧ I (pre ++ [d]) (acc ++ o.toList) ρ') :
    ∃ ys ρ', lcF gb t fe vs all ρ = some (ys, ρ') ∧ I all ys ρ' := by
  obtain ⟨ys, ρ', h1, h2⟩ := lc_inv I step all [] [] ρ rfl h0
  exact ⟨ys, ρ', h1, by simpa using h2⟩
/-- a comprehension that changes nothing else -/
theorem lc_pure {gb : D → En → Option En} {t : TF} {fe : EF} {vs : List Nat} {ρ : En} (f : D → Option D) : ∀ {ds : List D}, (∀ d ∈ ds, lcTurn gb t fe vs d ρ (f d) ρ) → lcF gb t fe vs ds ρ = some (ds.filterMap f, ρ)
  | [], _ => rfl
  | d :: ds, h => by
    obtain ⟨ρ1, h1, h2⟩ := h d List.mem_cons_self
    have ih := lc_pure f fun x hx => h x (List.mem_cons_of_mem _ hx)
    rcases h2 with ⟨e, ρ2, h2, h3⟩ | ⟨y, ρ2, ρ3, e, h2, h6, h3⟩
    · unfold lcF
      simp only [h1, h2, ← h3, ih]
      rw [List.filterMap_cons_none e]
    · unfold lcF
      simp only [h1, h2, h6, ← h3, ih]
      rw [List.filterMap_cons_some e]
theorem lc_map {gb : D → En → Option En} {t : TF} {fe : EF} {vs : List Nat} {ρ : En} (f : D → D) {ds : List D} (h : ∀ d ∈ ds, lcTurn gb t fe vs d ρ (some (f d)) ρ) : lcF gb t fe vs ds ρ = some (ds.map f, ρ) := by
  have := lc_pure (fun d => some (f d)) h
  rw [this]
  simp
@[simp] theorem ev_wipe_nil {ρ : En} : wipeE ρ [] = ρ := rfl
@[simp] theorem ev_wipe_cons {ρ : En} {v : Nat} {vs : List Nat} : wipeE ρ (v :: vs) = (wipeE ρ vs).set v none := rfl
@[simp] theorem ev_rest_nil {ρ ρ' : En} : restE ρ ρ' [] = ρ' := rfl
@[simp] theorem ev_rest_cons {ρ ρ' : En} {v : Nat} {vs : List Nat} : restE ρ ρ' (v :: vs) = (restE ρ ρ' vs).set v (match ρ[v]? with
    | some (some (.im d)) => some (.im d)
    | _ => none) := rfl
@[simp] theorem ev_eLc {fi : AF} {gb : D → En → Option En} {t : TF} {fe : EF} {vs : List Nat} {ρ : En} : eLc fi gb t fe vs ρ = bnd fi (fun ds ρ => if ds.length ≤ big then match lcF gb t fe vs ds (wipeE ρ vs) with
  | none => none
  | some (ys, ρ') => some (.ol ys, restE ρ ρ' vs) else none) ρ := rfl

/-! ### subscripts -/
theorem ixN_nn {n : Nat} {i : Int} (h0 : 0 ≤ i) (h1 : i < n) : ixN n i = some i.toNat := by
  unfold ixN
  rw [if_pos h0, if_pos h1]
theorem atD_nn {α : Type} {xs : List α} {i : Int} (h0 : 0 ≤ i) (h1 : i < xs.length) : ∃ x, xs[i.toNat]? = some x ∧ atD xs i = some x := by
  have hl : i.toNat < xs.length := by omega
  refine ⟨xs[i.toNat], List.getElem?_eq_getElem hl, ?_⟩
  unfold atD
  rw [ixN_nn h0 h1]
  exact List.getElem?_eq_getElem hl
theorem rangeD_len {lo : Int} {n : Nat} : (rangeD lo n).length = n := by simp [rangeD]
theorem rangeD_mem {lo : Int} {n : Nat} {d : D} (h : d ∈ rangeD lo n) : ∃ i : Nat, i < n ∧ d = .int (lo + i) := by
  unfold rangeD at h
  obtain ⟨i, hi, rfl⟩ := List.mem_map.mp h
  exact ⟨i, List.mem_range.mp hi, rfl⟩
theorem rangeD_at {lo : Int} {n : Nat} {pre post : List D} {d : D} (h : rangeD lo n = pre ++ d :: post) : pre.length < n ∧ d = .int (lo + (pre.length : Nat)) := by
  have hl : pre.length < n := by
    have := congrArg List.length h
    rw [rangeD_len] at this
    simp at this
    omega
  refine ⟨hl, ?_⟩
  have e : (rangeD lo n)[pre.length]? = some d := by rw [h]; simp
  unfold rangeD at e
  rw [List.getElem?_map, List.getElem?_range hl] at e
  exact (Option.some.inj e).symm
end DL

set_option Elab.async false
set_option linter.all false
set_option maxRecDepth 100000
set_option maxHeartbeats 4000000
/-! DLW: what a statement of the data layer ends in, step by step. -/
namespace DL
open PySem PySem.Spec PyProof.Rows L2

/-- there is a value, one of P (a structure: nothing unfolds it by itself) -/
structure WM {α : Type} (x : Option α) (P : α → Prop) : Prop where
  ex : ∃ a, x = some a ∧ P a
@[simp] theorem WM_some {α : Type} {a : α} {P : α → Prop} : WM (some a) P = P a :=
  propext ⟨fun h => by obtain ⟨b, e, p⟩ := h.ex; cases e; exact p, fun h => ⟨a, rfl, h⟩⟩
@[simp] theorem WM_none {α : Type} {P : α → Prop} : WM none P = False :=
  propext ⟨fun h => by (obtain ⟨b, e, p⟩ := h.ex; cases e), fun h => h.elim⟩
/-- the statement ends, in an outcome of Q -/
structure W (g : SF) (ρ : En) (Q : Out → Prop) : Prop where
  ex : ∃ o, g ρ = some o ∧ Q o
theorem W.of {g : SF} {ρ : En} {Q : Out → Prop} {o : Out} (h : g ρ = some o) (q : Q o) : W g ρ Q := ⟨o, h, q⟩
theorem W_WM {g : SF} {ρ : En} {Q : Out → Prop} : W g ρ Q = WM (g ρ) Q := propext ⟨fun h => ⟨h.ex⟩, fun h => ⟨h.ex⟩⟩
theorem W.mono {g : SF} {ρ : En} {Q R : Out → Prop} (h : W g ρ Q) (k : ∀ o, Q o → R o) : W g ρ R := by
  obtain ⟨o, h1, h2⟩ := h.ex
  exact W.of h1 (k o h2)
/-- on with g' -/
def seqQ (g' : SF) (Q : Out → Prop) : Out → Prop
  | .nx ρ' => W g' ρ' Q
  | o => Q o
section
variable {g' : SF} {Q : Out → Prop} {ρ ρ' : En} {s : Sl}
@[simp] theorem seqQ_nx : seqQ g' Q (.nx ρ) = W g' ρ Q := rfl
@[simp] theorem seqQ_rt : seqQ g' Q (.rt s ρ) = Q (.rt s ρ) := rfl
@[simp] theorem seqQ_bk : seqQ g' Q (.bk ρ) = Q (.bk ρ) := rfl
@[simp] theorem seqQ_ct : seqQ g' Q (.ct ρ) = Q (.ct ρ) := rfl
theorem W_seq (g : SF) : W (sSeq g g') ρ Q = W g ρ (seqQ g' Q) := by
  rw [W_WM, W_WM]
  unfold sSeq
  cases g ρ with
  | none => simp
  | some o => cases o <;> simp [W_WM]
@[simp] theorem W_nil : W sNil ρ Q = Q (.nx ρ) := by rw [W_WM]; exact WM_some
@[simp] theorem W_brk : W sBrk ρ Q = Q (.bk ρ) := by rw [W_WM]; exact WM_some
@[simp] theorem W_cnt : W sCnt ρ Q = Q (.ct ρ) := by rw [W_WM]; exact WM_some
@[simp] theorem W_ret (f : EF) : W (sRet f) ρ Q = WM (f ρ) fun p => Q (.rt p.1 p.2) := by
  rw [W_WM]
  unfold sRet bnd
  cases f ρ <;> simp
@[simp] theorem W_retN : W sRetN ρ Q = Q (.rt (.im .non) ρ) := by rw [W_WM]; exact WM_some
@[simp] theorem W_retO (i : Nat) : W (sRetO i) ρ Q = WM (sRetO i ρ) Q := W_WM
@[simp] theorem W_if (t : TF) (g g2 : SF) : W (sIf t g g2) ρ Q = WM (t ρ) fun p => if p.1 = true then W g p.2 Q else W g2 p.2 Q := by
  rw [W_WM]
  unfold sIf bnd
  cases t ρ with
  | none => simp
  | some p =>
    obtain ⟨b, ρ'⟩ := p
    cases b <;> simp [W_WM]
@[simp] theorem W_set (i : Nat) (f : EF) : W (sSet i f) ρ Q = WM (eD f ρ) fun p => Q (.nx (p.2.set i (some (.im p.1)))) := by
  rw [W_WM]
  unfold sSet bnd
  cases eD f ρ <;> simp
@[simp] theorem W_setO (i : Nat) (f : EF) : W (sSetO i f) ρ Q = WM (f ρ) fun p => Q (.nx (p.2.set i (some p.1))) := by
  rw [W_WM]
  unfold sSetO bnd
  cases f ρ <;> simp
@[simp] theorem W_drop (f : EF) : W (sDrop f) ρ Q = WM (f ρ) fun p => Q (.nx p.2) := by
  rw [W_WM]
  unfold sDrop bnd
  cases f ρ <;> simp
@[simp] theorem W_asg (f : EF) (gb : D → En → Option En) : W (sAsg f gb) ρ Q = WM (eD f ρ) fun p => WM (gb p.1 p.2) fun ρ2 => Q (.nx ρ2) := by
  rw [W_WM]
  unfold sAsg bnd
  cases eD f ρ with
  | none => simp
  | some p =>
    obtain ⟨d, ρ'⟩ := p
    simp only [WM_some]
    cases gb d ρ' <;> simp
@[simp] theorem W_aug (i : Nat) (gg : D → D → Option Sl) (f : EF) : W (sAug i gg f) ρ Q = WM (sAug i gg f ρ) Q := W_WM
@[simp] theorem W_putV (i : Nat) (fv fk : EF) : W (sPutV i fv fk) ρ Q = WM (sPutV i fv fk ρ) Q := W_WM
@[simp] theorem W_par2 (i j : Nat) (r : SAF) : W (sPar2 i j r) ρ Q = WM (sPar2 i j r ρ) Q := W_WM
@[simp] theorem W_par3 (i j l : Nat) (r : SAF) : W (sPar3 i j l r) ρ Q = WM (sPar3 i j l r ρ) Q := W_WM
end
/-- on with J -/
def midQ (J : En → Prop) (Q : Out → Prop) : Out → Prop
  | .nx ρ => J ρ
  | o => Q o
section
variable {J : En → Prop} {Q : Out → Prop} {ρ : En} {s : Sl}
@[simp] theorem midQ_nx : midQ J Q (.nx ρ) = J ρ := rfl
@[simp] theorem midQ_rt : midQ J Q (.rt s ρ) = Q (.rt s ρ) := rfl
@[simp] theorem midQ_bk : midQ J Q (.bk ρ) = Q (.bk ρ) := rfl
@[simp] theorem midQ_ct : midQ J Q (.ct ρ) = Q (.ct ρ) := rfl
theorem W.seq {g g' : SF} (J : En → Prop) (h1 : W g ρ (midQ J Q)) (h2 : ∀ ρ', J ρ' → W g' ρ' Q) : W (sSeq g g') ρ Q := by
  rw [W_seq]
  refine h1.mono fun o h => ?_
  cases o with
  | nx ρ' => exact h2 ρ' h
  | _ => exact h
end
/-- what a turn's end must be -/
def loopQ (J : En → Prop) (Q : Out → Prop) : Out → Prop
  | .nx ρ => J ρ
  | .ct ρ => J ρ
  | .bk ρ => Q (.nx ρ)
  | .rt s ρ => Q (.rt s ρ)
section
variable {J : En → Prop} {Q : Out → Prop} {ρ : En} {s : Sl}
@[simp] theorem loopQ_nx : loopQ J Q (.nx ρ) = J ρ := rfl
@[simp] theorem loopQ_ct : loopQ J Q (.ct ρ) = J ρ := rfl
@[simp] theorem loopQ_bk : loopQ J Q (.bk ρ) = Q (.nx ρ) := rfl
@[simp] theorem loopQ_rt : loopQ J Q (.rt s ρ) = Q (.rt s ρ) := rfl
end
theorem W.forFI {gb : D → En → Option En} {body : SF} {all : List D} {Q : Out → Prop} (I : List D → En → Prop)
    (step : ∀ pre d post ρ, all = pre ++ d :: post → I pre ρ → WM (gb d ρ) fun ρ1 => W body ρ1 (loopQ (I (pre ++ [d])) Q)) (fin : ∀ ρ, I all ρ → Q (.nx ρ)) :
    ∀ (ds pre : List D) (ρ : En), all = pre ++ ds → I pre ρ → W (forF gb body ds) ρ Q
  | [], pre, ρ, e, h => W.of rfl (fin ρ (by rw [e, List.append_nil]; exact h))
  | d :: ds, pre, ρ, e, h => by
    have h1 := step pre d ds ρ e h
    obtain ⟨ρ1, e1, h1⟩ := h1.ex
    · obtain ⟨o, h2, h3⟩ := W.ex h1
      have hh : forF gb body (d :: ds) ρ = (match body ρ1 with
        | some (.nx ρ2) => forF gb body ds ρ2
        | some (.ct ρ2) => forF gb body ds ρ2
        | some (.bk ρ2) => some (.nx ρ2)
        | some (.rt s ρ2) => some (.rt s ρ2)
        | none => none) := by
        show (match gb d ρ with
          | none => none
          | some ρ1 => match body ρ1 with
            | some (.nx ρ2) => forF gb body ds ρ2
            | some (.ct ρ2) => forF gb body ds ρ2
            | some (.bk ρ2) => some (.nx ρ2)
            | some (.rt s ρ2) => some (.rt s ρ2)
            | none => none) = _
        rw [e1]
      rw [h2] at hh
      cases o with
      | nx ρ2 =>
        have ih := W.forFI I step fin ds (pre ++ [d]) ρ2 (by rw [e]; simp) h3
        rw [W_WM] at ih ⊢
        rw [hh]
        exact ih
      | ct ρ2 =>
        have ih := W.forFI I step fin ds (pre ++ [d]) ρ2 (by rw [e]; simp) h3
        rw [W_WM] at ih ⊢
        rw [hh]
        exact ih
      | bk ρ2 => exact W.of hh h3
      | rt s ρ2 => exact W.of hh h3
/-- a for by an invariant -/
theorem W.for {fi : AF} {gb : D → En → Option En} {body : SF} {ρ : En} {Q : Out → Prop} (I : List D → En → Prop) {ds : List D} {ρ0 : En} (h : fi ρ = some (ds, ρ0)) (h0 : I [] ρ0)
    (step : ∀ pre d post ρ, ds = pre ++ d :: post → I pre ρ → WM (gb d ρ) fun ρ1 => W body ρ1 (loopQ (I (pre ++ [d])) Q)) (fin : ∀ ρ, I ds ρ → Q (.nx ρ)) : W (sFor fi gb body) ρ Q := by
  have := W.forFI I step fin ds [] ρ0 rfl h0
  rw [W_WM] at this ⊢
  unfold sFor bnd
  rw [h]
  exact this
theorem W.whileFI {t : TF} {body : SF} {Q : Out → Prop} (I : Nat → En → Prop)
    (step : ∀ n ρ, I n ρ → WM (t ρ) fun p => if p.1 = true then W body p.2 (loopQ (fun ρ2 => ∃ m, m < n ∧ I m ρ2) Q) else Q (.nx p.2)) : ∀ (f n : Nat) (ρ : En), n < f → I n ρ → W (DL.whileF t body f) ρ Q
  | 0, n, ρ, hn, _ => by omega
  | f + 1, n, ρ, hn, h => by
    have h1 := step n ρ h
    obtain ⟨⟨b, ρ1⟩, e, h1⟩ := h1.ex
    · cases b with
      | false =>
        refine W.of (o := .nx ρ1) ?_ (by simpa using h1)
        unfold DL.whileF
        simp only [e]
      | true =>
        replace h1 : W body ρ1 (loopQ (fun ρ2 => ∃ m, m < n ∧ I m ρ2) Q) := by simpa using h1
        obtain ⟨o, h2, h3⟩ := W.ex h1
        cases o with
        | nx ρ2 =>
          obtain ⟨m, hm, h4⟩ := h3
          have ih := W.whileFI I step f m ρ2 (by omega) h4
          obtain ⟨o, h5, h6⟩ := ih.ex
          refine W.of (o := o) ?_ h6
          unfold DL.whileF
          simp only [e, h2]
          exact h5
        | ct ρ2 =>
          obtain ⟨m, hm, h4⟩ := h3
          have ih := W.whileFI I step f m ρ2 (by omega) h4
          obtain ⟨o, h5, h6⟩ := ih.ex
          refine W.of (o := o) ?_ h6
          unfold DL.whileF
          simp only [e, h2]
          exact h5
        | bk ρ2 =>
          refine W.of (o := .nx ρ2) ?_ h3
          unfold DL.whileF
          simp only [e, h2]
        | rt s ρ2 =>
          refine W.of (o := .rt s ρ2) ?_ h3
          unfold DL.whileF
          simp only [e, h2]
theorem W.while {fuel : En → Nat} {t : TF} {body : SF} {ρ : En} {Q : Out → Prop} (I : Nat → En → Prop) {n : Nat} (hn : n < fuel ρ) (h0 : I n ρ)
    (step : ∀ n ρ, I n ρ → WM (t ρ) fun p => if p.1 = true then W body p.2 (loopQ (fun ρ2 => ∃ m, m < n ∧ I m ρ2) Q) else Q (.nx p.2)) : W (sWhile fuel t body) ρ Q := ⟨(W.whileFI I step (fuel ρ) n ρ hn h0).ex⟩
/-! ### defs -/
def retQ (P : Sl → Prop) : Out → Prop
  | .rt s _ => P s
  | .nx _ => P (.im .non)
  | _ => False
@[simp] theorem retQ_rt {P : Sl → Prop} {s : Sl} {ρ : En} : retQ P (.rt s ρ) = P s := rfl
@[simp] theorem retQ_nx {P : Sl → Prop} {ρ : En} : retQ P (.nx ρ) = P (.im .non) := rfl
theorem runP_W {g : SF} {n : Nat} {ds : List D} {P : Sl → Prop} (h : W g (startE n ds) (retQ P)) : ∃ s, runP g n ds = some s ∧ P s := by
  obtain ⟨o, h1, h2⟩ := h.ex
  unfold runP
  rw [h1]
  cases o with
  | rt s ρ => exact ⟨s, rfl, h2⟩
  | nx ρ => exact ⟨_, rfl, h2⟩
  | bk ρ => exact h2.elim
  | ct ρ => exact h2.elim
theorem runP_Weq {g : SF} {n : Nat} {ds : List D} {s : Sl} (h : W g (startE n ds) (retQ fun x => x = s)) : runP g n ds = some s := by
  obtain ⟨x, h1, h2⟩ := runP_W h
  rw [h1, h2]
def retS (P : Sl → List D → Prop) : Out → Prop
  | .rt s ρ => match (ρ[0]? : Option (Option Sl)) with
    | some (some (.ol xs)) => P s xs
    | _ => False
  | .nx ρ => match (ρ[0]? : Option (Option Sl)) with
    | some (some (.ol xs)) => P (.im .non) xs
    | _ => False
  | _ => False
@[simp] theorem retS_rt {P : Sl → List D → Prop} {s : Sl} {xs : List D} {ρ : En} : retS P (.rt s (some (.ol xs) :: ρ)) = P s xs := rfl
@[simp] theorem retS_nx {P : Sl → List D → Prop} {xs : List D} {ρ : En} : retS P (.nx (some (.ol xs) :: ρ)) = P (.im .non) xs := rfl
theorem runS_W {g : SF} {n : Nat} {xs ds : List D} {P : Sl → List D → Prop} (h : W g (startS n xs ds) (retS P)) : ∃ s xs', runS g n xs ds = some (s, xs') ∧ P s xs' := by
  obtain ⟨o, h1, h2⟩ := h.ex
  unfold runS
  rw [h1]
  cases o with
  | rt s ρ =>
    unfold retS at h2
    simp only at h2 ⊢
    split at h2
    · rename_i e
      first | exact ⟨_, _, rfl, h2⟩ | (rw [e]; exact ⟨_, _, rfl, h2⟩)
    · exact h2.elim
  | nx ρ =>
    unfold retS at h2
    simp only at h2 ⊢
    split at h2
    · rename_i e
      first | exact ⟨_, _, rfl, h2⟩ | (rw [e]; exact ⟨_, _, rfl, h2⟩)
    · exact h2.elim
  | bk ρ => exact h2.elim
  | ct ρ => exact h2.elim
end DL

set_option Elab.async false
set_option linter.all false
set_option maxRecDepth 100000
set_option maxHeartbeats 0
/-! The walk of law_k61_things_as_certificates: printed by gen.py. -/
namespace WK
open PySem PySem.Spec PyProof.Rows L2 DL
def top (i : Nat) : Stmt := PySem.Challenge.pw_sealedweights_k61_things_as_certificates.main.body.getD i (.Pass ⟨0, 0, 0, 0⟩)
abbrev s_is_integer : Stmt := top 10
abbrev s_is_between : Stmt := top 11
abbrev s_is_name : Stmt := top 12
abbrev s_number_of : Stmt := top 13
abbrev s_told_recipe : Stmt := top 25
abbrev s_told_catalogue : Stmt := top 26
abbrev s_counts_of : Stmt := top 27
abbrev s_is_thing_shown : Stmt := top 39
abbrev s_accepts : Stmt := top 42
abbrev s__law_cell : Stmt := top 44
abbrev s__law_source : Stmt := top 45
abbrev s__law_draw : Stmt := top 46
abbrev s__law_name : Stmt := top 47
abbrev s__law_mixed : Stmt := top 48
abbrev s__law_recipes : Stmt := top 49
abbrev s__law_catalogue : Stmt := top 50
abbrev s__law_text : Stmt := top 51
abbrev s__law_made_of : Stmt := top 52
abbrev s__law_thing : Stmt := top 53
abbrev s__law_weighed : Stmt := top 54
abbrev s__law_by_hand : Stmt := top 55
abbrev s__law_right : Stmt := top 56
abbrev s_law : Stmt := top 57
def tbl_SIZES : List (Str × Option Int) := [("weighs", some 4), ("within", some 4), ("at most", some 7), ("holds", some 6)]
/-- what the top has left -/
structure Fx (G : GE) : Prop where
  z_all : G.mg "all" = none
  z_bool : G.mg "bool" = none
  z_divmod : G.mg "divmod" = none
  z_int : G.mg "int" = none
  z_isinstance : G.mg "isinstance" = none
  z_len : G.mg "len" = none
  z_list : G.mg "list" = none
  z_max : G.mg "max" = none
  z_min : G.mg "min" = none
  z_range : G.mg "range" = none
  z_repr : G.mg "repr" = none
  z_set : G.mg "set" = none
  z_str : G.mg "str" = none
  z_tuple : G.mg "tuple" = none
  z_zip : G.mg "zip" = none
  c_DIGITS : ∃ t, G.mg "DIGITS" = some (.str "0123456789" t)
  c_LETTERS : ∃ t, G.mg "LETTERS" = some (.str "abcdefghijklmnopqrstuvwxyz" t)
  c_LONGEST_NAME : ∃ t, G.mg "LONGEST_NAME" = some (.int 8 t)
  c_MOST_BUILT : ∃ t, G.mg "MOST_BUILT" = some (.int 100 t)
  c_MOST_KINDS : ∃ t, G.mg "MOST_KINDS" = some (.int 4 t)
  c_MOST_OWN : ∃ t, G.mg "MOST_OWN" = some (.int 9 t)
  c_MOST_PARTS : ∃ t, G.mg "MOST_PARTS" = some (.int 3 t)
  c_MOST_RECIPES : ∃ t, G.mg "MOST_RECIPES" = some (.int 10 t)
  t_SIZES : GDict G "SIZES" tbl_SIZES
  h_is_integer : Has G "is_integer" s_is_integer
  h_is_between : Has G "is_between" s_is_between
  h_is_name : Has G "is_name" s_is_name
  h_number_of : Has G "number_of" s_number_of
  h_told_recipe : Has G "told_recipe" s_told_recipe
  h_told_catalogue : Has G "told_catalogue" s_told_catalogue
  h_counts_of : Has G "counts_of" s_counts_of
  h_is_thing_shown : Has G "is_thing_shown" s_is_thing_shown
  h_accepts : Has G "accepts" s_accepts
  h__law_cell : Has G "_law_cell" s__law_cell
  h__law_source : Has G "_law_source" s__law_source
  h__law_draw : Has G "_law_draw" s__law_draw
  h__law_name : Has G "_law_name" s__law_name
  h__law_mixed : Has G "_law_mixed" s__law_mixed
  h__law_recipes : Has G "_law_recipes" s__law_recipes
  h__law_catalogue : Has G "_law_catalogue" s__law_catalogue
  h__law_text : Has G "_law_text" s__law_text
  h__law_made_of : Has G "_law_made_of" s__law_made_of
  h__law_thing : Has G "_law_thing" s__law_thing
  h__law_weighed : Has G "_law_weighed" s__law_weighed
  h__law_by_hand : Has G "_law_by_hand" s__law_by_hand
  h__law_right : Has G "_law_right" s__law_right
  h_law : Has G "law" s_law
/-! is_integer -/
def N_is_integer : List Str := ["value"]
theorem sc_is_integer : FnScope N_is_integer ["value"] (defScope s_is_integer) := ⟨rfl, rfl, rfl, by decide +kernel, rfl, by decide +kernel, by decide +kernel⟩
theorem b_is_integer : BindsP "is_integer" s_is_integer ["value"] := fun _ _ _ _ _ _ us hl => match us, hl with | [_], _ => rfl
def g_is_integer : SF := (sRet (eAnd (eCa gIsi (aCons (eV 0) (aCons (eC (.typ "int")) aNil))) (eNot (eCa gIsi (aCons (eV 0) (aCons (eC (.typ "bool")) aNil))))))
theorem w_is_integer {G : GE} {k : Nat} (T : Fx G) : DSs (scOf G N_is_integer sc_is_integer.nd s_is_integer k) (defBody s_is_integer) (g_is_integer) :=
  (dss_one (ds_ret (de_and (de_isi (by rfl) T.z_isinstance (da_cons (de_var 0) (da_cons (de_typ (T := "int") (by rfl) T.z_int (by decide +kernel)) da_nil))) (de_one (de_not (de_isi (by rfl) T.z_isinstance (da_cons (de_var 0) (da_cons (de_typ (T := "bool") (by rfl) T.z_bool (by decide +kernel)) da_nil))))))))
/-! is_between -/
def N_is_between : List Str := ["value", "low", "high"]
theorem sc_is_between : FnScope N_is_between ["value", "low", "high"] (defScope s_is_between) := ⟨rfl, rfl, rfl, by decide +kernel, rfl, by decide +kernel, by decide +kernel⟩
theorem b_is_between : BindsP "is_between" s_is_between ["value", "low", "high"] := fun _ _ _ _ _ _ us hl => match us, hl with | [_, _, _], _ => rfl
def g_is_between (fm_is_integer : List D → Option Sl) : SF := (sRet (eAnd (eCall fm_is_integer (aCons (eV 0) aNil)) (eAnd (eB dGe (eV 0) (eV 1)) (eOr (eB (dIsN false) (eV 2) (eC .non)) (eB dLe (eV 0) (eV 2))))))
theorem w_is_between {G : GE} {k : Nat} (T : Fx G) {fm_is_integer : List D → Option Sl} (F_is_integer : FnP G k "is_integer" 1 fm_is_integer) : DSs (scOf G N_is_between sc_is_between.nd s_is_between k) (defBody s_is_between) (g_is_between fm_is_integer) :=
  (dss_one (ds_ret (de_and (de_call F_is_integer (by rfl) (da_cons (de_var 0) da_nil) (aCons_len aNil_len)) (de_and (de_ge (de_var 0) (de_var 1)) (de_one (de_or (de_is (de_var 2) de_non) (de_one (de_le (de_var 0) (de_var 2)))))))))
/-! is_name -/
def N_is_name : List Str := ["value", "sign"]
theorem sc_is_name : FnScope N_is_name ["value"] (defScope s_is_name) := ⟨rfl, rfl, rfl, by decide +kernel, rfl, by decide +kernel, by decide +kernel⟩
theorem b_is_name : BindsP "is_name" s_is_name ["value"] := fun _ _ _ _ _ _ us hl => match us, hl with | [_], _ => rfl
def g_is_name : SF := (sSeq (sIf (tOr2 (tNot1 (tB1 (eCa gIsi (aCons (eV 0) (aCons (eC (.typ "str")) aNil))))) (tOr2 (tNot1 (tB1 (eCh dLe dLe (eC (.int 1)) (eCa gLen (aCons (eV 0) aNil)) (eC (.int 8))))) (tB1 (eB (dIn true) (eB dIx (eV 0) (eC (.int 0))) (eC (.str "abcdefghijklmnopqrstuvwxyz")))))) (sRet (eC (.bl false))) sNil)
    (sRet (eCa gAll (aCons (eLc (iAny (eV 0)) (gN 1) tTrue (eOr (eB (dIn false) (eV 1) (eC (.str "abcdefghijklmnopqrstuvwxyz"))) (eB (dIn false) (eV 1) (eC (.str "0123456789")))) [1]) aNil))))
theorem w_is_name {G : GE} {k : Nat} (T : Fx G) : DSs (scOf G N_is_name sc_is_name.nd s_is_name k) (defBody s_is_name) (g_is_name) :=
  (dss_cons (ds_if (dt_w (dw_or (dt_not (dt_val (de_isi (by rfl) T.z_isinstance (da_cons (de_var 0) (da_cons (de_typ (T := "str") (by rfl) T.z_str (by decide +kernel)) da_nil))))) (dw_or (dt_not (dt_lele de_int (de_len (by rfl) T.z_len (da_cons (de_var 0) da_nil)) (de_gint T.c_LONGEST_NAME))) (dw_or1 (dt_notin (de_ix (de_var 0) de_int) (de_gstr T.c_LETTERS)))))) (dss_one (ds_ret de_bl)) dss_nil)
    (dss_one (ds_ret (de_ball (by rfl) T.z_all (da_cons (de_lc [("sign", 1)] (di_any (de_var 0)) (by kernel_rfl) (dgw_name 1) dts_nil (de_or (de_in (de_var 1) (de_gstr T.c_LETTERS)) (de_one (de_in (de_var 1) (de_gstr T.c_DIGITS))))) da_nil)))))
/-! number_of -/
def N_number_of : List Str := ["word", "sign"]
theorem sc_number_of : FnScope N_number_of ["word"] (defScope s_number_of) := ⟨rfl, rfl, rfl, by decide +kernel, rfl, by decide +kernel, by decide +kernel⟩
theorem b_number_of : BindsP "number_of" s_number_of ["word"] := fun _ _ _ _ _ _ us hl => match us, hl with | [_], _ => rfl
def g_number_of : SF := (sSeq (sIf (tOr2 (tB1 (eB (dEq false) (eV 0) (eC (.str "")))) (tOr2 (tB1 (eB dGt (eCa gLen (aCons (eV 0) aNil)) (eC (.int 40)))) (tNot1 (tB1 (eCa gAll (aCons (eLc (iAny (eV 0)) (gN 1) tTrue (eB (dIn false) (eV 1) (eC (.str "0123456789"))) [1]) aNil)))))) (sRet (eC .non)) sNil)
    (sRet (eIf (tOr2 (tB1 (eB (dEq false) (eV 0) (eC (.str "0")))) (tB1 (eB (dEq true) (eB dIx (eV 0) (eC (.int 0))) (eC (.str "0"))))) (eCa gInt (aCons (eV 0) aNil)) (eC .non))))
theorem w_number_of {G : GE} {k : Nat} (T : Fx G) : DSs (scOf G N_number_of sc_number_of.nd s_number_of k) (defBody s_number_of) (g_number_of) :=
  (dss_cons (ds_if (dt_w (dw_or (dt_eq (de_var 0) de_str) (dw_or (dt_gt (de_len (by rfl) T.z_len (da_cons (de_var 0) da_nil)) de_int) (dw_or1 (dt_not (dt_val (de_ball (by rfl) T.z_all (da_cons (de_lc [("sign", 1)] (di_any (de_var 0)) (by kernel_rfl) (dgw_name 1) dts_nil (de_in (de_var 1) (de_gstr T.c_DIGITS))) da_nil)))))))) (dss_one (ds_ret de_non)) dss_nil)
    (dss_one (ds_ret (de_if (dt_w (dw_or (dt_eq (de_var 0) de_str) (dw_or1 (dt_ne (de_ix (de_var 0) de_int) de_str)))) (de_bint (by rfl) T.z_int (da_cons (de_var 0) da_nil)) de_non))))
/-! told_recipe -/
def N_told_recipe : List Str := ["line", "kinds", "words", "mark", "own", "word"]
theorem sc_told_recipe : FnScope N_told_recipe ["line", "kinds"] (defScope s_told_recipe) := ⟨rfl, rfl, rfl, by decide +kernel, rfl, by decide +kernel, by decide +kernel⟩
theorem b_told_recipe : BindsP "told_recipe" s_told_recipe ["line", "kinds"] := fun _ _ _ _ _ _ us hl => match us, hl with | [_, _], _ => rfl
def g_told_recipe (fm_number_of : List D → Option Sl) (fm_is_between : List D → Option Sl) : SF := (sSeq (sSet 2 (eB dSplit (eV 0) (eC (.str " "))))
    (sSeq (sIf (tNot1 (tB1 (eCh dLe dLe (eC (.int 2)) (eCa gLen (aCons (eV 2) aNil)) (eB dAdd (eC (.int 2)) (eC (.int 3)))))) (sRet (eC .non)) sNil)
    (sSeq (sSet 3 (eB dIx (eV 2) (eC (.int 1))))
    (sSeq (sIf (tB1 (eB dGt (eCa gLen (aCons (eV 2) aNil)) (eC (.int 2)))) (sSeq (sIf (tNot1 (tB1 (eB dEndsw (eV 3) (eC (.str ":"))))) (sRet (eC .non)) sNil)
    (sSet 3 (eSl (eV 3) oNone (oSome (eU dNeg (eC (.int 1))))))) sNil)
    (sSeq (sSet 4 (eCall fm_number_of (aCons (eV 3) aNil)))
    (sSeq (sIf (tNot1 (tB1 (eCall fm_is_between (aCons (eV 4) (aCons (eC (.int 1)) (aCons (eC (.int 9)) aNil)))))) (sRet (eC .non)) sNil)
    (sSeq (sIf (tNot1 (tB1 (eCa gAll (aCons (eLc (iAny (eLst (aCons (eB dIx (eV 2) (eC (.int 0))) (aStar (eSl (eV 2) (oSome (eC (.int 2))) oNone) aNil)))) (gN 5) tTrue (eB (dIn false) (eV 5) (eV 1)) [5]) aNil)))) (sRet (eC .non)) sNil)
    (sRet (eTup (aCons (eB dIx (eV 2) (eC (.int 0))) (aCons (eV 4) (aCons (eCa gTup (aCons (eSl (eV 2) (oSome (eC (.int 2))) oNone) aNil)) aNil))))))))))))
theorem w_told_recipe {G : GE} {k : Nat} (T : Fx G) {fm_number_of : List D → Option Sl} (F_number_of : FnP G k "number_of" 1 fm_number_of) {fm_is_between : List D → Option Sl} (F_is_between : FnP G k "is_between" 3 fm_is_between) : DSs (scOf G N_told_recipe sc_told_recipe.nd s_told_recipe k) (defBody s_told_recipe) (g_told_recipe fm_number_of fm_is_between) :=
  (dss_cons (ds_set 2 (de_split (de_var 0) de_str))
    (dss_cons (ds_if (dt_not (dt_lele de_int (de_len (by rfl) T.z_len (da_cons (de_var 2) da_nil)) (de_add de_int (de_gint T.c_MOST_PARTS)))) (dss_one (ds_ret de_non)) dss_nil)
    (dss_cons (ds_set 3 (de_ix (de_var 2) de_int))
    (dss_cons (ds_if (dt_gt (de_len (by rfl) T.z_len (da_cons (de_var 2) da_nil)) de_int) (dss_cons (ds_if (dt_not (dt_val (de_endsw (de_var 3) de_str))) (dss_one (ds_ret de_non)) dss_nil)
    (dss_one (ds_set 3 (de_slice (de_var 3) do_none (do_some (de_neg de_int)))))) dss_nil)
    (dss_cons (ds_set 4 (de_call F_number_of (by rfl) (da_cons (de_var 3) da_nil) (aCons_len aNil_len)))
    (dss_cons (ds_if (dt_not (dt_val (de_call F_is_between (by rfl) (da_cons (de_var 4) (da_cons de_int (da_cons (de_gint T.c_MOST_OWN) da_nil))) (aCons_len (aCons_len (aCons_len aNil_len)))))) (dss_one (ds_ret de_non)) dss_nil)
    (dss_cons (ds_if (dt_not (dt_val (de_ball (by rfl) T.z_all (da_cons (de_lc [("word", 5)] (di_any (de_lst (da_cons (de_ix (de_var 2) de_int) (da_star (de_slice (de_var 2) (do_some de_int) do_none) da_nil)))) (by kernel_rfl) (dgw_name 5) dts_nil (de_in (de_var 5) (de_var 1))) da_nil)))) (dss_one (ds_ret de_non)) dss_nil)
    (dss_one (ds_ret (de_tup (da_cons (de_ix (de_var 2) de_int) (da_cons (de_var 4) (da_cons (de_btup (by rfl) T.z_tuple (da_cons (de_slice (de_var 2) (do_some de_int) do_none) da_nil)) da_nil)))))))))))))
/-! told_catalogue -/
def N_told_catalogue : List Str := ["text", "lines", "words", "kinds", "recipes", "line", "kind"]
theorem sc_told_catalogue : FnScope N_told_catalogue ["text"] (defScope s_told_catalogue) := ⟨rfl, rfl, rfl, by decide +kernel, rfl, by decide +kernel, by decide +kernel⟩
theorem b_told_catalogue : BindsP "told_catalogue" s_told_catalogue ["text"] := fun _ _ _ _ _ _ us hl => match us, hl with | [_], _ => rfl
def g_told_catalogue (fm_told_recipe : List D → Option Sl) (fm_is_name : List D → Option Sl) : SF := (sSeq (sIf (tNot1 (tB1 (eCa gIsi (aCons (eV 0) (aCons (eC (.typ "str")) aNil))))) (sRet (eC .non)) sNil)
    (sSeq (sSet 1 (eB dSplit (eV 0) (eC (.str "\n"))))
    (sSeq (sSet 2 (eB dSplit (eB dIx (eV 1) (eC (.int 0))) (eC (.str " "))))
    (sSeq (sSet 3 (eCa gTup (aCons (eSl (eV 2) (oSome (eC (.int 1))) oNone) aNil)))
    (sSeq (sIf (tOr2 (tB1 (eB (dEq true) (eB dIx (eV 2) (eC (.int 0))) (eC (.str "kinds")))) (tOr2 (tNot1 (tB1 (eCh dLe dLe (eC (.int 1)) (eCa gLen (aCons (eV 3) aNil)) (eC (.int 4))))) (tB1 (eB dLt (eLenSet (eV 3)) (eCa gLen (aCons (eV 3) aNil)))))) (sRet (eC .non)) sNil)
    (sSeq (sSet 4 (eCa gTup (aCons (eLc (iAny (eSl (eV 1) (oSome (eC (.int 1))) oNone)) (gN 5) tTrue (eCall fm_told_recipe (aCons (eV 5) (aCons (eV 3) aNil))) [5]) aNil)))
    (sSeq (sIf (tOr2 (tNot1 (tB1 (eCa gAll (aCons (eLc (iAny (eV 3)) (gN 6) tTrue (eCall fm_is_name (aCons (eV 6) aNil)) [6]) aNil)))) (tB1 (eB (dIn false) (eC .non) (eV 4)))) (sRet (eC .non)) sNil)
    (sRet (eIf (tB1 (eCh (dEq false) dLe (eLenSet (eV 4)) (eCa gLen (aCons (eV 4) aNil)) (eC (.int 10)))) (eTup (aCons (eV 3) (aCons (eV 4) aNil))) (eC .non))))))))))
theorem w_told_catalogue {G : GE} {k : Nat} (T : Fx G) {fm_told_recipe : List D → Option Sl} (F_told_recipe : FnP G k "told_recipe" 2 fm_told_recipe) {fm_is_name : List D → Option Sl} (F_is_name : FnP G k "is_name" 1 fm_is_name) : DSs (scOf G N_told_catalogue sc_told_catalogue.nd s_told_catalogue k) (defBody s_told_catalogue) (g_told_catalogue fm_told_recipe fm_is_name) :=
  (dss_cons (ds_if (dt_not (dt_val (de_isi (by rfl) T.z_isinstance (da_cons (de_var 0) (da_cons (de_typ (T := "str") (by rfl) T.z_str (by decide +kernel)) da_nil))))) (dss_one (ds_ret de_non)) dss_nil)
    (dss_cons (ds_set 1 (de_split (de_var 0) de_str))
    (dss_cons (ds_set 2 (de_split (de_ix (de_var 1) de_int) de_str))
    (dss_cons (ds_set 3 (de_btup (by rfl) T.z_tuple (da_cons (de_slice (de_var 2) (do_some de_int) do_none) da_nil)))
    (dss_cons (ds_if (dt_w (dw_or (dt_ne (de_ix (de_var 2) de_int) de_str) (dw_or (dt_not (dt_lele de_int (de_len (by rfl) T.z_len (da_cons (de_var 3) da_nil)) (de_gint T.c_MOST_KINDS))) (dw_or1 (dt_lt (de_lenSet (by rfl) T.z_len (by rfl) T.z_set (de_var 3)) (de_len (by rfl) T.z_len (da_cons (de_var 3) da_nil))))))) (dss_one (ds_ret de_non)) dss_nil)
    (dss_cons (ds_set 4 (de_btup (by rfl) T.z_tuple (da_cons (de_lc [("line", 5)] (di_any (de_slice (de_var 1) (do_some de_int) do_none)) (by kernel_rfl) (dgw_name 5) dts_nil (de_call F_told_recipe (by rfl) (da_cons (de_var 5) (da_cons (de_var 3) da_nil)) (aCons_len (aCons_len aNil_len)))) da_nil)))
    (dss_cons (ds_if (dt_w (dw_or (dt_not (dt_val (de_ball (by rfl) T.z_all (da_cons (de_lc [("kind", 6)] (di_any (de_var 3)) (by kernel_rfl) (dgw_name 6) dts_nil (de_call F_is_name (by rfl) (da_cons (de_var 6) da_nil) (aCons_len aNil_len))) da_nil)))) (dw_or1 (dt_in de_non (de_var 4))))) (dss_one (ds_ret de_non)) dss_nil)
    (dss_one (ds_ret (de_if (dt_eqle (de_lenSet (by rfl) T.z_len (by rfl) T.z_set (de_var 4)) (de_len (by rfl) T.z_len (da_cons (de_var 4) da_nil)) (de_gint T.c_MOST_RECIPES)) (de_tup (da_cons (de_var 3) (da_cons (de_var 4) da_nil))) de_non))))))))))
/-! counts_of -/
def N_counts_of : List Str := ["thing", "kind", "recipes", "most", "waiting", "weight", "counts", "value", "wanted", "made", "own", "parts"]
theorem sc_counts_of : FnScope N_counts_of ["thing", "kind", "recipes", "most"] (defScope s_counts_of) := ⟨rfl, rfl, rfl, by decide +kernel, rfl, by decide +kernel, by decide +kernel⟩
theorem b_counts_of : BindsP "counts_of" s_counts_of ["thing", "kind", "recipes", "most"] := fun _ _ _ _ _ _ us hl => match us, hl with | [_, _, _, _], _ => rfl
def g_counts_of (fm_is_between : List D → Option Sl) : SF := (sSeq (sPar3 4 5 6 (asCons (eLst (aCons (eTup (aCons (eV 0) (aCons (eV 1) aNil))) aNil)) (asCons (eC (.int 0)) (asCons eDct0 asNil))))
    (sSeq (sWhile (fun _ => 1000) (tAnd2 (tB1 (eB dGt (eLenV 4) (eC (.int 0)))) (tB1 (eB dLe (eV 5) (eV 3)))) (sSeq (sAsg (eMutV 4 mPop aNil) (gTU 2 (gsCons (gN 7) (gsCons (gN 8) gsNil))))
    (sSeq (sIf (tOr2 (tNot1 (tB1 (eCa gIsi (aCons (eV 7) (aCons (eC (.typ "tuple")) aNil))))) (tOr2 (tB1 (eB (dEq true) (eCa gLen (aCons (eV 7) aNil)) (eC (.int 2)))) (tNot1 (tB1 (eCall fm_is_between (aCons (eB dIx (eV 7) (eC (.int 0))) (aCons (eC (.int 0)) (aCons (eB dSub (eCa gLen (aCons (eV 2) aNil)) (eC (.int 1))) aNil)))))))) (sRet (eC .non)) sNil)
    (sSeq (sAsg (eB dIx (eV 2) (eB dIx (eV 7) (eC (.int 0)))) (gTU 3 (gsCons (gN 9) (gsCons (gN 10) (gsCons (gN 11) gsNil)))))
    (sSeq (sIf (tOr2 (tB1 (eB (dEq true) (eV 9) (eV 8))) (tOr2 (tNot1 (tB1 (eCa gIsi (aCons (eB dIx (eV 7) (eC (.int 1))) (aCons (eC (.typ "tuple")) aNil))))) (tB1 (eB (dEq true) (eCa gLen (aCons (eB dIx (eV 7) (eC (.int 1))) aNil)) (eCa gLen (aCons (eV 11) aNil)))))) (sRet (eC .non)) sNil)
    (sSeq (sAug 5 (dI2 fun a b => a + b) (eV 10))
    (sSeq (sPutV 6 (eB dAdd (eGet2V 6 (eV 8) (eC (.int 0))) (eC (.int 1))) (eV 8))
    (sDrop (eMutV 4 mExt (aCons (eLZ (aCons (eB dIx (eV 7) (eC (.int 1))) (aCons (eV 11) aNil))) aNil))))))))))
    (sRet (eIf (tB1 (eB dLe (eV 5) (eV 3))) (eTup (aCons (eV 5) (aCons (eV 6) aNil))) (eC .non)))))
theorem w_counts_of {G : GE} {k : Nat} (T : Fx G) {fm_is_between : List D → Option Sl} (F_is_between : FnP G k "is_between" 3 fm_is_between) : DSs (scOf G N_counts_of sc_counts_of.nd s_counts_of k) (defBody s_counts_of) (g_counts_of fm_is_between) :=
  (dss_cons (ds_par3 4 5 6 (das_cons (de_lst (da_cons (de_tup (da_cons (de_var 0) (da_cons (de_var 1) da_nil))) da_nil)) (das_cons de_int (das_cons de_dct0 das_nil))) (hw := fun X hX => (sws hX).trans (by kernel_rfl)))
    (dss_cons (ds_while (fun _ => 1000) (dt_w (dw_and (dt_gt (de_lenV 4 nm (by rfl) T.z_len) de_int) (dw_and1 (dt_le (de_var 5) (de_var 3))))) (dss_cons (ds_asg (de_pop 4 nm) (dg_tupU (dgs_cons (dg_name 7) (dgs_cons (dg_name 8) dgs_nil))))
    (dss_cons (ds_if (dt_w (dw_or (dt_not (dt_val (de_isi (by rfl) T.z_isinstance (da_cons (de_var 7) (da_cons (de_typ (T := "tuple") (by rfl) T.z_tuple (by decide +kernel)) da_nil))))) (dw_or (dt_ne (de_len (by rfl) T.z_len (da_cons (de_var 7) da_nil)) de_int) (dw_or1 (dt_not (dt_val (de_call F_is_between (by rfl) (da_cons (de_ix (de_var 7) de_int) (da_cons de_int (da_cons (de_sub (de_len (by rfl) T.z_len (da_cons (de_var 2) da_nil)) de_int) da_nil))) (aCons_len (aCons_len (aCons_len aNil_len)))))))))) (dss_one (ds_ret de_non)) dss_nil)
    (dss_cons (ds_asg (de_ix (de_var 2) (de_ix (de_var 7) de_int)) (dg_tupU (dgs_cons (dg_name 9) (dgs_cons (dg_name 10) (dgs_cons (dg_name 11) dgs_nil)))))
    (dss_cons (ds_if (dt_w (dw_or (dt_ne (de_var 9) (de_var 8)) (dw_or (dt_not (dt_val (de_isi (by rfl) T.z_isinstance (da_cons (de_ix (de_var 7) de_int) (da_cons (de_typ (T := "tuple") (by rfl) T.z_tuple (by decide +kernel)) da_nil))))) (dw_or1 (dt_ne (de_len (by rfl) T.z_len (da_cons (de_ix (de_var 7) de_int) da_nil)) (de_len (by rfl) T.z_len (da_cons (de_var 11) da_nil))))))) (dss_one (ds_ret de_non)) dss_nil)
    (dss_cons (ds_aug 5 (de_var 10) (fun _ _ => ip_add) r2k_i2)
    (dss_cons (ds_putV 6 nm (de_add (de_get2V 6 nm (de_var 8) de_int) de_int) (de_var 8))
    (dss_one (ds_expr (de_extend 4 nm (da_cons (de_listZip (by rfl) T.z_list (by rfl) T.z_zip (da_cons (de_ix (de_var 7) de_int) (da_cons (de_var 11) da_nil))) da_nil)))))))))))
    (dss_one (ds_ret (de_if (dt_le (de_var 5) (de_var 3)) (de_tup (da_cons (de_var 5) (da_cons (de_var 6) da_nil))) de_non)))))
/-! is_thing_shown -/
def N_is_thing_shown : List Str := ["catalogue", "claim", "thing", "kind", "weight", "told"]
theorem sc_is_thing_shown : FnScope N_is_thing_shown ["catalogue", "claim", "thing"] (defScope s_is_thing_shown) := ⟨rfl, rfl, rfl, by decide +kernel, rfl, by decide +kernel, by decide +kernel⟩
theorem b_is_thing_shown : BindsP "is_thing_shown" s_is_thing_shown ["catalogue", "claim", "thing"] := fun _ _ _ _ _ _ us hl => match us, hl with | [_, _, _], _ => rfl
def g_is_thing_shown (fm_is_between : List D → Option Sl) (fm_counts_of : List D → Option Sl) (fm_is_integer : List D → Option Sl) : SF := (sSeq (sPar2 3 4 (asCons (eB dIx (eV 1) (eC (.int 2))) (asCons (eIf (tB1 (eB (dEq false) (eB dIx (eV 1) (eC (.int 0))) (eC (.str "weighs")))) (eB dIx (eV 1) (eU dNeg (eC (.int 1)))) (eB dIx (eV 1) (eC (.int 4)))) asNil)))
    (sSeq (sIf (tNot1 (tB1 (eCall fm_is_between (aCons (eV 4) (aCons (eC (.int 1)) (aCons (eC (.int 100)) aNil)))))) (sRet (eC (.bl false))) sNil)
    (sSeq (sSet 5 (eCall fm_counts_of (aCons (eV 2) (aCons (eV 3) (aCons (eB dIx (eV 0) (eC (.int 1))) (aCons (eV 4) aNil))))))
    (sSeq (sIf (tOr2 (tB1 (eB (dIsN false) (eV 5) (eC .non))) (tB1 (eB (dEq true) (eB dIx (eV 5) (eC (.int 0))) (eV 4)))) (sRet (eC (.bl false))) sNil)
    (sRet (eOr (eB (dEq false) (eB dIx (eV 1) (eC (.int 0))) (eC (.str "weighs"))) (eAnd (eCall fm_is_integer (aCons (eB dIx (eV 1) (eC (.int 5))) aNil)) (eB (dEq false) (eGet2 (eB dIx (eV 5) (eC (.int 1))) (eB dIx (eV 1) (eC (.int 3))) (eC (.int 0))) (eB dIx (eV 1) (eC (.int 5)))))))))))
theorem w_is_thing_shown {G : GE} {k : Nat} (T : Fx G) {fm_is_between : List D → Option Sl} (F_is_between : FnP G k "is_between" 3 fm_is_between) {fm_counts_of : List D → Option Sl} (F_counts_of : FnP G k "counts_of" 4 fm_counts_of) {fm_is_integer : List D → Option Sl} (F_is_integer : FnP G k "is_integer" 1 fm_is_integer) : DSs (scOf G N_is_thing_shown sc_is_thing_shown.nd s_is_thing_shown k) (defBody s_is_thing_shown) (g_is_thing_shown fm_is_between fm_counts_of fm_is_integer) :=
  (dss_cons (ds_par2 3 4 (das_cons (de_ix (de_var 1) de_int) (das_cons (de_if (dt_eq (de_ix (de_var 1) de_int) de_str) (de_ix (de_var 1) (de_neg de_int)) (de_ix (de_var 1) de_int)) das_nil)) (hw := fun X hX => (sws hX).trans (by kernel_rfl)))
    (dss_cons (ds_if (dt_not (dt_val (de_call F_is_between (by rfl) (da_cons (de_var 4) (da_cons de_int (da_cons (de_gint T.c_MOST_BUILT) da_nil))) (aCons_len (aCons_len (aCons_len aNil_len)))))) (dss_one (ds_ret de_bl)) dss_nil)
    (dss_cons (ds_set 5 (de_call F_counts_of (by rfl) (da_cons (de_var 2) (da_cons (de_var 3) (da_cons (de_ix (de_var 0) de_int) (da_cons (de_var 4) da_nil)))) (aCons_len (aCons_len (aCons_len (aCons_len aNil_len))))))
    (dss_cons (ds_if (dt_w (dw_or (dt_is (de_var 5) de_non) (dw_or1 (dt_ne (de_ix (de_var 5) de_int) (de_var 4))))) (dss_one (ds_ret de_bl)) dss_nil)
    (dss_one (ds_ret (de_or (de_eq (de_ix (de_var 1) de_int) de_str) (de_one (de_and (de_call F_is_integer (by rfl) (da_cons (de_ix (de_var 1) de_int) da_nil) (aCons_len aNil_len)) (de_one (de_eq (de_get2 (de_ix (de_var 5) de_int) (de_ix (de_var 1) de_int) de_int) (de_ix (de_var 1) de_int))))))))))))
/-! accepts -/
def N_accepts : List Str := ["claim", "certificate", "catalogue"]
theorem sc_accepts : FnScope N_accepts ["claim", "certificate"] (defScope s_accepts) := ⟨rfl, rfl, rfl, by decide +kernel, rfl, by decide +kernel, by decide +kernel⟩
theorem b_accepts : BindsP "accepts" s_accepts ["claim", "certificate"] := fun _ _ _ _ _ _ us hl => match us, hl with | [_, _], _ => rfl
def g_accepts (fm_told_catalogue : List D → Option Sl) (fm_is_thing_shown : List D → Option Sl) : SF := (sSeq (sIf (tOr2 (tNot1 (tB1 (eCa gIsi (aCons (eV 0) (aCons (eC (.typ "tuple")) aNil))))) (tOr2 (tB1 (eB (dEq false) (eCa gLen (aCons (eV 0) aNil)) (eC (.int 0)))) (tNot1 (tB1 (eCa gIsi (aCons (eB dIx (eV 0) (eC (.int 0))) (aCons (eC (.typ "str")) aNil))))))) (sRet (eC (.bl false))) sNil)
    (sSeq (sIf (tOr2 (tB1 (eKIn true tbl_SIZES (eB dIx (eV 0) (eC (.int 0))))) (tB1 (eB (dEq true) (eCa gLen (aCons (eV 0) aNil)) (eKIx tbl_SIZES (eB dIx (eV 0) (eC (.int 0))))))) (sRet (eC (.bl false))) sNil)
    (sSeq (sSet 2 (eCall fm_told_catalogue (aCons (eB dIx (eV 0) (eC (.int 1))) aNil)))
    (sSeq (sIf (tOr2 (tB1 (eB (dIsN false) (eV 2) (eC .non))) (tB1 (eB (dIn true) (eB dIx (eV 0) (eC (.int 2))) (eB dIx (eV 2) (eC (.int 0)))))) (sRet (eC (.bl false))) sNil)
    (sSeq (sIf (tAnd2 (tB1 (eB (dIn false) (eB dIx (eV 0) (eC (.int 0))) (eTup (aCons (eC (.str "at most")) (aCons (eC (.str "holds")) aNil))))) (tB1 (eB (dIn true) (eB dIx (eV 0) (eC (.int 3))) (eB dIx (eV 2) (eC (.int 0)))))) (sRet (eC (.bl false))) sNil)
    (sSeq (sIf (tB1 (eB (dEq false) (eB dIx (eV 0) (eC (.int 0))) (eC (.str "within")))) (sRet (fun _ => none)) sNil)
    (sSeq (sIf (tB1 (eB (dEq false) (eB dIx (eV 0) (eC (.int 0))) (eC (.str "at most")))) (sRet (fun _ => none)) sNil)
    (sRet (eCall fm_is_thing_shown (aCons (eV 2) (aCons (eV 0) (aCons (eV 1) aNil))))))))))))
theorem w_accepts {G : GE} {k : Nat} (T : Fx G) {fm_told_catalogue : List D → Option Sl} (F_told_catalogue : FnP G k "told_catalogue" 1 fm_told_catalogue) {fm_is_thing_shown : List D → Option Sl} (F_is_thing_shown : FnP G k "is_thing_shown" 3 fm_is_thing_shown) : DSs (scOf G N_accepts sc_accepts.nd s_accepts k) (defBody s_accepts) (g_accepts fm_told_catalogue fm_is_thing_shown) :=
  (dss_cons (ds_if (dt_w (dw_or (dt_not (dt_val (de_isi (by rfl) T.z_isinstance (da_cons (de_var 0) (da_cons (de_typ (T := "tuple") (by rfl) T.z_tuple (by decide +kernel)) da_nil))))) (dw_or (dt_eq (de_len (by rfl) T.z_len (da_cons (de_var 0) da_nil)) de_int) (dw_or1 (dt_not (dt_val (de_isi (by rfl) T.z_isinstance (da_cons (de_ix (de_var 0) de_int) (da_cons (de_typ (T := "str") (by rfl) T.z_str (by decide +kernel)) da_nil))))))))) (dss_one (ds_ret de_bl)) dss_nil)
    (dss_cons (ds_if (dt_w (dw_or (dt_notin_kd T.t_SIZES (de_ix (de_var 0) de_int)) (dw_or1 (dt_ne (de_len (by rfl) T.z_len (da_cons (de_var 0) da_nil)) (de_ix_kd T.t_SIZES (de_ix (de_var 0) de_int)))))) (dss_one (ds_ret de_bl)) dss_nil)
    (dss_cons (ds_set 2 (de_call F_told_catalogue (by rfl) (da_cons (de_ix (de_var 0) de_int) da_nil) (aCons_len aNil_len)))
    (dss_cons (ds_if (dt_w (dw_or (dt_is (de_var 2) de_non) (dw_or1 (dt_notin (de_ix (de_var 0) de_int) (de_ix (de_var 2) de_int))))) (dss_one (ds_ret de_bl)) dss_nil)
    (dss_cons (ds_if (dt_w (dw_and (dt_in (de_ix (de_var 0) de_int) (de_tup (da_cons de_str (da_cons de_str da_nil)))) (dw_and1 (dt_notin (de_ix (de_var 0) de_int) (de_ix (de_var 2) de_int))))) (dss_one (ds_ret de_bl)) dss_nil)
    (dss_cons (ds_if (dt_eq (de_ix (de_var 0) de_int) de_str) (dss_one (ds_ret de_stuck)) dss_nil)
    (dss_cons (ds_if (dt_eq (de_ix (de_var 0) de_int) de_str) (dss_one (ds_ret de_stuck)) dss_nil)
    (dss_one (ds_ret (de_call F_is_thing_shown (by rfl) (da_cons (de_var 2) (da_cons (de_var 0) (da_cons (de_var 1) da_nil))) (aCons_len (aCons_len (aCons_len aNil_len)))))))))))))
/-! _law_cell -/
def N__law_cell : List Str := ["_law_script", "_law_at", "_law_seed", "_law_cell_here"]
theorem sc__law_cell : FnScope N__law_cell ["_law_script", "_law_at"] (defScope s__law_cell) := ⟨rfl, rfl, rfl, by decide +kernel, rfl, by decide +kernel, by decide +kernel⟩
theorem b__law_cell : BindsP "_law_cell" s__law_cell ["_law_script", "_law_at"] := fun _ _ _ _ _ _ us hl => match us, hl with | [_, _], _ => rfl
def g__law_cell : SF := (sSeq (sIf (tB1 (eB dLt (eV 1) (eCa gLen (aCons (eV 0) aNil)))) (sRet (eB dIx (eV 0) (eV 1))) sNil)
    (sSeq (sSet 2 (eB dAdd (eC (.int 9176)) (eB dMul (eB dMul (eC (.int 311)) (eV 1)) (eV 1))))
    (sSeq (sFor (iAny (eSl (eV 0) (oSome (eU dNeg (eC (.int 2)))) oNone)) (gN 3) (sSet 2 (eB dMod (eCa gInt (aCons (eB dAdd (eB dMul (eV 2) (eC (.int 50021))) (eV 3)) aNil)) (eC (.int 998244353)))))
    (sRet (eV 2)))))
theorem w__law_cell {G : GE} {k : Nat} (T : Fx G) : DSs (scOf G N__law_cell sc__law_cell.nd s__law_cell k) (defBody s__law_cell) (g__law_cell) :=
  (dss_cons (ds_if (dt_lt (de_var 1) (de_len (by rfl) T.z_len (da_cons (de_var 0) da_nil))) (dss_one (ds_ret (de_ix (de_var 0) (de_var 1)))) dss_nil)
    (dss_cons (ds_set 2 (de_add de_int (de_mul (de_mul de_int (de_var 1)) (de_var 1))))
    (dss_cons (ds_for (di_any (de_slice (de_var 0) (do_some (de_neg de_int)) do_none)) (dg_name 3) (dss_one (ds_set 2 (de_mod (de_bint (by rfl) T.z_int (da_cons (de_add (de_mul (de_var 2) de_int) (de_var 3)) da_nil)) de_int))))
    (dss_one (ds_ret (de_var 2))))))
/-! _law_source -/
def N__law_source : List Str := ["_law_cell_here", "_law_digits"]
theorem sc__law_source : FnScope N__law_source ["_law_cell_here"] (defScope s__law_source) := ⟨rfl, rfl, rfl, by decide +kernel, rfl, by decide +kernel, by decide +kernel⟩
theorem b__law_source : BindsP "_law_source" s__law_source ["_law_cell_here"] := fun _ _ _ _ _ _ us hl => match us, hl with | [_], _ => rfl
def g__law_source : SF := (sSeq (sSet 1 (eIf (tB1 (eB dGe (eV 0) (eB dPow (eC (.int 10)) (eC (.int 15))))) (eB dSub (eV 0) (eB dPow (eC (.int 10)) (eC (.int 15)))) (eIf (tB1 (eB dLt (eV 0) (eC (.int 0)))) (eB dSub (eU dNeg (eC (.int 1))) (eV 0)) (eC (.int 0)))))
    (sRet (eLst (aCons (eV 1) (aCons (eB dAdd (eB dMod (eCa gInt (aCons (eV 0) aNil)) (eC (.int 998244353))) (eC (.int 1))) (aCons (eC (.int 1)) aNil))))))
theorem w__law_source {G : GE} {k : Nat} (T : Fx G) : DSs (scOf G N__law_source sc__law_source.nd s__law_source k) (defBody s__law_source) (g__law_source) :=
  (dss_cons (ds_set 1 (de_if (dt_ge (de_var 0) (de_pow de_int de_int)) (de_sub (de_var 0) (de_pow de_int de_int)) (de_if (dt_lt (de_var 0) de_int) (de_sub (de_neg de_int) (de_var 0)) de_int)))
    (dss_one (ds_ret (de_lst (da_cons (de_var 1) (da_cons (de_add (de_mod (de_bint (by rfl) T.z_int (da_cons (de_var 0) da_nil)) de_int) de_int) (da_cons de_int da_nil)))))))
/-! _law_draw -/
def N__law_draw : List Str := ["_law_source_here", "_law_many", "_law_state", "_law_digit"]
theorem sc__law_draw : FnScope N__law_draw ["_law_source_here", "_law_many"] (defScope s__law_draw) := ⟨rfl, rfl, rfl, by decide +kernel, rfl, by decide +kernel, by decide +kernel⟩
theorem b__law_draw : BindsP "_law_draw" s__law_draw ["_law_source_here", "_law_many"] := fun _ _ _ _ _ _ us hl => match us, hl with | [_, _], _ => rfl
def g__law_draw : SF := (sSeq (sAsg (eB dAdd (eIxV 0 (eC (.int 2))) (eC (.int 1))) (gIx 0 (eC (.int 2))))
    (sSeq (sSet 2 (eCa gInt (aCons (eIxV 0 (eC (.int 1))) aNil)))
    (sSeq (sAsg (eB dMod (eCa gInt (aCons (eB dAdd (eB dMul (eV 2) (eB dAdd (eB dFdiv (eV 2) (eC (.int 7))) (eC (.int 33461)))) (eB dMul (eC (.int 5237)) (eIxV 0 (eC (.int 2))))) aNil)) (eC (.int 998244353))) (gIx 0 (eC (.int 1))))
    (sSeq (sIf (tB1 (eB dGt (eIxV 0 (eC (.int 0))) (eC (.int 0)))) (sSeq (sAsg (eCa gDm (aCons (eIxV 0 (eC (.int 0))) (aCons (eV 1) aNil))) (gTU 2 (gsCons (gIx 0 (eC (.int 0))) (gsCons (gN 3) gsNil))))
    (sRet (eV 3))) sNil)
    (sRet (eB dMod (eCa gInt (aCons (eB dFdiv (eIxV 0 (eC (.int 1))) (eC (.int 251))) aNil)) (eV 1)))))))
theorem w__law_draw {G : GE} {k : Nat} (T : Fx G) : DSs (scOf G N__law_draw sc__law_draw.nd s__law_draw k (fun i => i == 0)) (defBody s__law_draw) (g__law_draw) :=
  (dss_cons (ds_asg (de_add (de_ixV 0 nm de_int) de_int) (dg_ix 0 nm de_int))
    (dss_cons (ds_set 2 (de_bint (by rfl) T.z_int (da_cons (de_ixV 0 nm de_int) da_nil)))
    (dss_cons (ds_asg (de_mod (de_bint (by rfl) T.z_int (da_cons (de_add (de_mul (de_var 2) (de_add (de_fdiv (de_var 2) de_int) de_int)) (de_mul de_int (de_ixV 0 nm de_int))) da_nil)) de_int) (dg_ix 0 nm de_int))
    (dss_cons (ds_if (dt_gt (de_ixV 0 nm de_int) de_int) (dss_cons (ds_asg (de_bdm (by rfl) T.z_divmod (da_cons (de_ixV 0 nm de_int) (da_cons (de_var 1) da_nil))) (dg_tupU (dgs_cons (dg_ix 0 nm de_int) (dgs_cons (dg_name 3) dgs_nil))))
    (dss_one (ds_ret (de_var 3)))) dss_nil)
    (dss_one (ds_ret (de_mod (de_bint (by rfl) T.z_int (da_cons (de_fdiv (de_ixV 0 nm de_int) de_int) da_nil)) (de_var 1))))))))
/-! _law_name -/
def N__law_name : List Str := ["_law_source_here", "_law_at", "_law_letters", "_law_name_here", "_law_turn"]
theorem sc__law_name : FnScope N__law_name ["_law_source_here", "_law_at"] (defScope s__law_name) := ⟨rfl, rfl, rfl, by decide +kernel, rfl, by decide +kernel, by decide +kernel⟩
theorem b__law_name : BindsP "_law_name" s__law_name ["_law_source_here", "_law_at"] := fun _ _ _ _ _ _ us hl => match us, hl with | [_, _], _ => rfl
def g__law_name (fm__law_draw : List D → List D → Option (Sl × List D)) : SF := (sSeq (sSet 2 (eC (.str "abcdefghijklmnopqrstuvwxyz")))
    (sSeq (sSet 3 (eB dIx (eV 2) (eCallS 0 fm__law_draw (aCons (eC (.int 26)) aNil))))
    (sSeq (sFor (iR1 (aCons (eCallS 0 fm__law_draw (aCons (eC (.int 3)) aNil)) aNil)) (gN 4) (sSet 3 (eB dAdd (eV 3) (eB dIx (eB dAdd (eV 2) (eC (.str "0123456789"))) (eCallS 0 fm__law_draw (aCons (eC (.int 36)) aNil))))))
    (sRet (eB dAdd (eV 3) (eCa gStr (aCons (eV 1) aNil)))))))
theorem w__law_name {G : GE} {k : Nat} (T : Fx G) {fm__law_draw : List D → List D → Option (Sl × List D)} (F__law_draw : FnS G k "_law_draw" 1 fm__law_draw) : DSs (scOf G N__law_name sc__law_name.nd s__law_name k (fun i => i == 0)) (defBody s__law_name) (g__law_name fm__law_draw) :=
  (dss_cons (ds_set 2 de_str)
    (dss_cons (ds_set 3 (de_ix (de_var 2) (de_callS 0 F__law_draw (by rfl) (da_cons de_int da_nil) (aCons_len aNil_len))))
    (dss_cons (ds_for (di_range1 (by rfl) T.z_range (da_cons (de_callS 0 F__law_draw (by rfl) (da_cons de_int da_nil) (aCons_len aNil_len)) da_nil)) (dg_name 4) (dss_one (ds_set 3 (de_add (de_var 3) (de_ix (de_add (de_var 2) de_str) (de_callS 0 F__law_draw (by rfl) (da_cons de_int da_nil) (aCons_len aNil_len)))))))
    (dss_one (ds_ret (de_add (de_var 3) (de_bstr (by rfl) T.z_str (da_cons (de_var 1) da_nil))))))))
/-! _law_mixed -/
def N__law_mixed : List Str := ["_law_source_here", "_law_rows", "_law_placed", "_law_row"]
theorem sc__law_mixed : FnScope N__law_mixed ["_law_source_here", "_law_rows"] (defScope s__law_mixed) := ⟨rfl, rfl, rfl, by decide +kernel, rfl, by decide +kernel, by decide +kernel⟩
theorem b__law_mixed : BindsP "_law_mixed" s__law_mixed ["_law_source_here", "_law_rows"] := fun _ _ _ _ _ _ us hl => match us, hl with | [_, _], _ => rfl
def g__law_mixed (fm__law_draw : List D → List D → Option (Sl × List D)) : SF := (sSeq (sSetO 2 (eLst aNil))
    (sSeq (sFor (iAny (eV 1)) (gN 3) (sIf (tB1 (eInV true 2 (eV 3))) (sDrop (eMutV 2 mIns (aCons (eCallS 0 fm__law_draw (aCons (eB dAdd (eLenV 2) (eC (.int 1))) aNil)) (aCons (eV 3) aNil)))) sNil))
    (sRetO 2)))
theorem w__law_mixed {G : GE} {k : Nat} (T : Fx G) {fm__law_draw : List D → List D → Option (Sl × List D)} (F__law_draw : FnS G k "_law_draw" 1 fm__law_draw) : DSs (scOf G N__law_mixed sc__law_mixed.nd s__law_mixed k (fun i => i == 0)) (defBody s__law_mixed) (g__law_mixed fm__law_draw) :=
  (dss_cons (ds_setO 2 (de_lst da_nil))
    (dss_cons (ds_for (di_any (de_var 1)) (dg_name 3) (dss_one (ds_if (dt_notinV 2 nm (de_var 3)) (dss_one (ds_expr (de_insert 2 nm (da_cons (de_callS 0 F__law_draw (by rfl) (da_cons (de_add (de_lenV 2 nm (by rfl) T.z_len) de_int) da_nil) (aCons_len aNil_len)) (da_cons (de_var 3) da_nil))))) dss_nil)))
    (dss_one (ds_retO 2))))
/-! _law_recipes -/
def N__law_recipes : List Str := ["_law_source_here", "_law_names", "_law_first", "_law_second", "_law_third", "_law_rows", "_law_turn", "_law_own", "_law_many", "_law_place"]
theorem sc__law_recipes : FnScope N__law_recipes ["_law_source_here", "_law_names"] (defScope s__law_recipes) := ⟨rfl, rfl, rfl, by decide +kernel, rfl, by decide +kernel, by decide +kernel⟩
theorem b__law_recipes : BindsP "_law_recipes" s__law_recipes ["_law_source_here", "_law_names"] := fun _ _ _ _ _ _ us hl => match us, hl with | [_, _], _ => rfl
def g__law_recipes (fm__law_draw : List D → List D → Option (Sl × List D)) (fm__law_mixed : List D → List D → Option (Sl × List D)) : SF := (sSeq (sAsg (eV 1) (gTU 3 (gsCons (gN 2) (gsCons (gN 3) (gsCons (gN 4) gsNil)))))
    (sSeq (sSetO 5 (eLc (iR1 (aCons (eB dAdd (eC (.int 1)) (eCallS 0 fm__law_draw (aCons (eC (.int 3)) aNil))) aNil)) (gN 6) tTrue (eTup (aCons (eV 2) (aCons (eB dAdd (eC (.int 1)) (eCallS 0 fm__law_draw (aCons (eC (.int 3)) aNil))) (aCons (eTup aNil) aNil)))) [6]))
    (sSeq (sFor (iR1 (aCons (eB dAdd (eC (.int 1)) (eCallS 0 fm__law_draw (aCons (eC (.int 3)) aNil))) aNil)) (gN 6) (sSeq (sPar2 7 8 (asCons (eB dAdd (eC (.int 1)) (eCallS 0 fm__law_draw (aCons (eC (.int 3)) aNil))) (asCons (eCallS 0 fm__law_draw (aCons (eC (.int 3)) aNil)) asNil)))
    (sDrop (eMutV 5 mApp (aCons (eTup (aCons (eV 3) (aCons (eV 7) (aCons (eCa gTup (aCons (eLc (iR1 (aCons (eV 8) aNil)) (gN 9) tTrue (eB dIx (eLst (aCons (eV 2) (aCons (eV 3) aNil))) (eCallS 0 fm__law_draw (aCons (eC (.int 2)) aNil))) [9]) aNil)) aNil)))) aNil)))))
    (sSeq (sFor (iR1 (aCons (eCallS 0 fm__law_draw (aCons (eC (.int 3)) aNil)) aNil)) (gN 6) (sSeq (sPar2 7 8 (asCons (eB dAdd (eC (.int 1)) (eCallS 0 fm__law_draw (aCons (eC (.int 3)) aNil))) (asCons (eCallS 0 fm__law_draw (aCons (eC (.int 4)) aNil)) asNil)))
    (sDrop (eMutV 5 mApp (aCons (eTup (aCons (eV 4) (aCons (eV 7) (aCons (eCa gTup (aCons (eLc (iR1 (aCons (eV 8) aNil)) (gN 9) tTrue (eB dIx (eLst (aCons (eV 2) (aCons (eV 3) aNil))) (eCallS 0 fm__law_draw (aCons (eC (.int 2)) aNil))) [9]) aNil)) aNil)))) aNil)))))
    (sRet (eCa gTup (aCons (eCallS 0 fm__law_mixed (aCons (eV 5) aNil)) aNil)))))))
theorem w__law_recipes {G : GE} {k : Nat} (T : Fx G) {fm__law_draw : List D → List D → Option (Sl × List D)} (F__law_draw : FnS G k "_law_draw" 1 fm__law_draw) {fm__law_mixed : List D → List D → Option (Sl × List D)} (F__law_mixed : FnS G k "_law_mixed" 1 fm__law_mixed) : DSs (scOf G N__law_recipes sc__law_recipes.nd s__law_recipes k (fun i => i == 0)) (defBody s__law_recipes) (g__law_recipes fm__law_draw fm__law_mixed) :=
  (dss_cons (ds_asg (de_var 1) (dg_tupU (dgs_cons (dg_name 2) (dgs_cons (dg_name 3) (dgs_cons (dg_name 4) dgs_nil)))))
    (dss_cons (ds_setLcO 5 [("_law_turn", 6)] (di_range1 (by rfl) T.z_range (da_cons (de_add de_int (de_callS 0 F__law_draw (by rfl) (da_cons de_int da_nil) (aCons_len aNil_len))) da_nil)) (by kernel_rfl) (dgw_name 6) dts_nil (de_tup (da_cons (de_var 2) (da_cons (de_add de_int (de_callS 0 F__law_draw (by rfl) (da_cons de_int da_nil) (aCons_len aNil_len))) (da_cons (de_tup da_nil) da_nil)))))
    (dss_cons (ds_for (di_range1 (by rfl) T.z_range (da_cons (de_add de_int (de_callS 0 F__law_draw (by rfl) (da_cons de_int da_nil) (aCons_len aNil_len))) da_nil)) (dg_name 6) (dss_cons (ds_par2 7 8 (das_cons (de_add de_int (de_callS 0 F__law_draw (by rfl) (da_cons de_int da_nil) (aCons_len aNil_len))) (das_cons (de_callS 0 F__law_draw (by rfl) (da_cons de_int da_nil) (aCons_len aNil_len)) das_nil)) (hw := fun X hX => (sws hX).trans (by kernel_rfl)))
    (dss_one (ds_expr (de_append 5 nm (da_cons (de_tup (da_cons (de_var 3) (da_cons (de_var 7) (da_cons (de_btup (by rfl) T.z_tuple (da_cons (de_lc [("_law_place", 9)] (di_range1 (by rfl) T.z_range (da_cons (de_var 8) da_nil)) (by kernel_rfl) (dgw_name 9) dts_nil (de_ix (de_lst (da_cons (de_var 2) (da_cons (de_var 3) da_nil))) (de_callS 0 F__law_draw (by rfl) (da_cons de_int da_nil) (aCons_len aNil_len)))) da_nil)) da_nil)))) da_nil))))))
    (dss_cons (ds_for (di_range1 (by rfl) T.z_range (da_cons (de_callS 0 F__law_draw (by rfl) (da_cons de_int da_nil) (aCons_len aNil_len)) da_nil)) (dg_name 6) (dss_cons (ds_par2 7 8 (das_cons (de_add de_int (de_callS 0 F__law_draw (by rfl) (da_cons de_int da_nil) (aCons_len aNil_len))) (das_cons (de_callS 0 F__law_draw (by rfl) (da_cons de_int da_nil) (aCons_len aNil_len)) das_nil)) (hw := fun X hX => (sws hX).trans (by kernel_rfl)))
    (dss_one (ds_expr (de_append 5 nm (da_cons (de_tup (da_cons (de_var 4) (da_cons (de_var 7) (da_cons (de_btup (by rfl) T.z_tuple (da_cons (de_lc [("_law_place", 9)] (di_range1 (by rfl) T.z_range (da_cons (de_var 8) da_nil)) (by kernel_rfl) (dgw_name 9) dts_nil (de_ix (de_lst (da_cons (de_var 2) (da_cons (de_var 3) da_nil))) (de_callS 0 F__law_draw (by rfl) (da_cons de_int da_nil) (aCons_len aNil_len)))) da_nil)) da_nil)))) da_nil))))))
    (dss_one (ds_ret (de_btup (by rfl) T.z_tuple (da_cons (de_callS 0 F__law_mixed (by rfl) (da_cons (de_var 5) da_nil) (aCons_len aNil_len)) da_nil))))))))
/-! _law_catalogue -/
def N__law_catalogue : List Str := ["_law_source_here", "_law_names", "_law_recipes_here", "_law_turn", "_law_at"]
theorem sc__law_catalogue : FnScope N__law_catalogue ["_law_source_here"] (defScope s__law_catalogue) := ⟨rfl, rfl, rfl, by decide +kernel, rfl, by decide +kernel, by decide +kernel⟩
theorem b__law_catalogue : BindsP "_law_catalogue" s__law_catalogue ["_law_source_here"] := fun _ _ _ _ _ _ us hl => match us, hl with | [_], _ => rfl
def g__law_catalogue (fm__law_name : List D → List D → Option (Sl × List D)) (fm__law_recipes : List D → List D → Option (Sl × List D)) (fm__law_draw : List D → List D → Option (Sl × List D)) : SF := (sSeq (sSet 1 (eLc (iR1 (aCons (eC (.int 3)) aNil)) (gN 4) tTrue (eCallS 0 fm__law_name (aCons (eV 4) aNil)) [4]))
    (sSeq (sSet 2 (eCallS 0 fm__law_recipes (aCons (eV 1) aNil)))
    (sSeq (sSet 3 (eCallS 0 fm__law_draw (aCons (eC (.int 3)) aNil)))
    (sRet (eTup (aCons (eCa gTup (aCons (eB dAdd (eSl (eV 1) (oSome (eV 3)) oNone) (eSl (eV 1) oNone (oSome (eV 3)))) aNil)) (aCons (eV 2) aNil)))))))
theorem w__law_catalogue {G : GE} {k : Nat} (T : Fx G) {fm__law_name : List D → List D → Option (Sl × List D)} (F__law_name : FnS G k "_law_name" 1 fm__law_name) {fm__law_recipes : List D → List D → Option (Sl × List D)} (F__law_recipes : FnS G k "_law_recipes" 1 fm__law_recipes) {fm__law_draw : List D → List D → Option (Sl × List D)} (F__law_draw : FnS G k "_law_draw" 1 fm__law_draw) : DSs (scOf G N__law_catalogue sc__law_catalogue.nd s__law_catalogue k (fun i => i == 0)) (defBody s__law_catalogue) (g__law_catalogue fm__law_name fm__law_recipes fm__law_draw) :=
  (dss_cons (ds_setLc 1 [("_law_at", 4)] (di_range1 (by rfl) T.z_range (da_cons de_int da_nil)) (by kernel_rfl) (dgw_name 4) dts_nil (de_callS 0 F__law_name (by rfl) (da_cons (de_var 4) da_nil) (aCons_len aNil_len)))
    (dss_cons (ds_set 2 (de_callS 0 F__law_recipes (by rfl) (da_cons (de_var 1) da_nil) (aCons_len aNil_len)))
    (dss_cons (ds_set 3 (de_callS 0 F__law_draw (by rfl) (da_cons de_int da_nil) (aCons_len aNil_len)))
    (dss_one (ds_ret (de_tup (da_cons (de_btup (by rfl) T.z_tuple (da_cons (de_add (de_slice (de_var 1) (do_some (de_var 3)) do_none) (de_slice (de_var 1) do_none (do_some (de_var 3)))) da_nil)) (da_cons (de_var 2) da_nil))))))))
/-! _law_text -/
def N__law_text : List Str := ["_law_mine", "_law_lines", "_law_kind", "_law_own", "_law_parts"]
theorem sc__law_text : FnScope N__law_text ["_law_mine"] (defScope s__law_text) := ⟨rfl, rfl, rfl, by decide +kernel, rfl, by decide +kernel, by decide +kernel⟩
theorem b__law_text : BindsP "_law_text" s__law_text ["_law_mine"] := fun _ _ _ _ _ _ us hl => match us, hl with | [_], _ => rfl
def g__law_text : SF := (sSeq (sSetO 1 (eLst (aCons (eB dAdd (eC (.str "kinds ")) (eB dJoin (eC (.str " ")) (eB dIx (eV 0) (eC (.int 0))))) aNil)))
    (sSeq (sFor (iAny (eB dIx (eV 0) (eC (.int 1)))) (gTU 3 (gsCons (gN 2) (gsCons (gN 3) (gsCons (gN 4) gsNil)))) (sDrop (eMutV 1 mApp (aCons (eB dAdd (eB dAdd (eB dAdd (eV 2) (eC (.str " "))) (eCa gStr (aCons (eV 3) aNil))) (eIf (tB1 (eB (dEq true) (eV 4) (eTup aNil))) (eB dAdd (eC (.str ": ")) (eB dJoin (eC (.str " ")) (eV 4))) (eC (.str "")))) aNil))))
    (sRet (eB dJoin (eC (.str "\n")) (eV 1)))))
theorem w__law_text {G : GE} {k : Nat} (T : Fx G) : DSs (scOf G N__law_text sc__law_text.nd s__law_text k) (defBody s__law_text) (g__law_text) :=
  (dss_cons (ds_setO 1 (de_lst (da_cons (de_add de_str (de_join de_str (de_ix (de_var 0) de_int))) da_nil)))
    (dss_cons (ds_for (di_any (de_ix (de_var 0) de_int)) (dg_tupU (dgs_cons (dg_name 2) (dgs_cons (dg_name 3) (dgs_cons (dg_name 4) dgs_nil)))) (dss_one (ds_expr (de_append 1 nm (da_cons (de_add (de_add (de_add (de_var 2) de_str) (de_bstr (by rfl) T.z_str (da_cons (de_var 3) da_nil))) (de_if (dt_ne (de_var 4) (de_tup da_nil)) (de_add de_str (de_join de_str (de_var 4))) de_str)) da_nil)))))
    (dss_one (ds_ret (de_join de_str (de_var 1))))))
/-! _law_made_of -/
def N__law_made_of : List Str := ["_law_mine", "_law_ready", "_law_turn", "_law_fresh", "_law_index", "_law_kind", "_law_own", "_law_parts", "_law_part"]
theorem sc__law_made_of : FnScope N__law_made_of ["_law_mine"] (defScope s__law_made_of) := ⟨rfl, rfl, rfl, by decide +kernel, rfl, by decide +kernel, by decide +kernel⟩
theorem b__law_made_of : BindsP "_law_made_of" s__law_made_of ["_law_mine"] := fun _ _ _ _ _ _ us hl => match us, hl with | [_], _ => rfl
def g__law_made_of : SF := (sSeq (sSetO 1 eDct0)
    (sSeq (sFor (iR1 (aCons (eCa gLen (aCons (eB dIx (eV 0) (eC (.int 0))) aNil)) aNil)) (gN 2) (sSeq (sSetO 3 (eLst aNil))
    (sSeq (sFor (iR1 (aCons (eCa gLen (aCons (eB dIx (eV 0) (eC (.int 1))) aNil)) aNil)) (gN 4) (sSeq (sAsg (eB dIx (eB dIx (eV 0) (eC (.int 1))) (eV 4)) (gTU 3 (gsCons (gN 5) (gsCons (gN 6) (gsCons (gN 7) gsNil)))))
    (sIf (tAnd2 (tB1 (eInV true 1 (eV 5))) (tB1 (eB (dIn true) (eC (.bl false)) (eLc (iAny (eV 7)) (gN 8) tTrue (eInV false 1 (eV 8)) [8])))) (sDrop (eMutV 3 mApp (aCons (eTup (aCons (eV 5) (aCons (eV 4) aNil))) aNil))) sNil)))
    (sFor (iAny (eV 3)) (gTU 2 (gsCons (gN 5) (gsCons (gN 4) gsNil))) (sIf (tB1 (eInV true 1 (eV 5))) (sPutV 1 (eV 4) (eV 5)) sNil)))))
    (sRetO 1)))
theorem w__law_made_of {G : GE} {k : Nat} (T : Fx G) : DSs (scOf G N__law_made_of sc__law_made_of.nd s__law_made_of k) (defBody s__law_made_of) (g__law_made_of) :=
  (dss_cons (ds_setO 1 de_dct0)
    (dss_cons (ds_for (di_range1 (by rfl) T.z_range (da_cons (de_len (by rfl) T.z_len (da_cons (de_ix (de_var 0) de_int) da_nil)) da_nil)) (dg_name 2) (dss_cons (ds_setO 3 (de_lst da_nil))
    (dss_cons (ds_for (di_range1 (by rfl) T.z_range (da_cons (de_len (by rfl) T.z_len (da_cons (de_ix (de_var 0) de_int) da_nil)) da_nil)) (dg_name 4) (dss_cons (ds_asg (de_ix (de_ix (de_var 0) de_int) (de_var 4)) (dg_tupU (dgs_cons (dg_name 5) (dgs_cons (dg_name 6) (dgs_cons (dg_name 7) dgs_nil)))))
    (dss_one (ds_if (dt_w (dw_and (dt_notinV 1 nm (de_var 5)) (dw_and1 (dt_notin de_bl (de_lc [("_law_part", 8)] (di_any (de_var 7)) (by kernel_rfl) (dgw_name 8) dts_nil (de_inV 1 nm (de_var 8))))))) (dss_one (ds_expr (de_append 3 nm (da_cons (de_tup (da_cons (de_var 5) (da_cons (de_var 4) da_nil))) da_nil)))) dss_nil))))
    (dss_one (ds_for (di_any (de_var 3)) (dg_tupU (dgs_cons (dg_name 5) (dgs_cons (dg_name 4) dgs_nil))) (dss_one (ds_if (dt_notinV 1 nm (de_var 5)) (dss_one (ds_putV 1 nm (de_var 4) (de_var 5))) dss_nil)))))))
    (dss_one (ds_retO 1))))
/-! _law_thing -/
def N__law_thing : List Str := ["_law_source_here", "_law_mine", "_law_ready", "_law_kind", "_law_deep", "_law_index", "_law_some", "_law_at", "_law_part"]
theorem sc__law_thing : FnScope N__law_thing ["_law_source_here", "_law_mine", "_law_ready", "_law_kind", "_law_deep"] (defScope s__law_thing) := ⟨rfl, rfl, rfl, by decide +kernel, rfl, by decide +kernel, by decide +kernel⟩
theorem b__law_thing : BindsP "_law_thing" s__law_thing ["_law_source_here", "_law_mine", "_law_ready", "_law_kind", "_law_deep"] := fun _ _ _ _ _ _ us hl => match us, hl with | [_, _, _, _, _], _ => rfl
def g__law_thing (fm__law_draw : List D → List D → Option (Sl × List D)) (fm__law_thing : List D → List D → Option (Sl × List D)) : SF := (sSeq (sSet 5 (eB dIx (eV 2) (eV 3)))
    (sSeq (sIf (tB1 (eB dGt (eV 4) (eC (.int 0)))) (sSeq (sSet 6 (eLc (iR1 (aCons (eCa gLen (aCons (eB dIx (eV 1) (eC (.int 1))) aNil)) aNil)) (gN 7) (tB1 (eB (dEq false) (eB dIx (eB dIx (eB dIx (eV 1) (eC (.int 1))) (eV 7)) (eC (.int 0))) (eV 3))) (eV 7) [7]))
    (sSeq (sSet 6 (eLc (iAny (eV 6)) (gN 7) (tB1 (eB (dIn true) (eC (.bl false)) (eLc (iAny (eB dIx (eB dIx (eB dIx (eV 1) (eC (.int 1))) (eV 7)) (eC (.int 2)))) (gN 8) tTrue (eB (dIn false) (eV 8) (eV 2)) [8]))) (eV 7) [7]))
    (sSet 5 (eB dIx (eV 6) (eCallS 0 fm__law_draw (aCons (eCa gLen (aCons (eV 6) aNil)) aNil)))))) sNil)
    (sRet (eTup (aCons (eV 5) (aCons (eCa gTup (aCons (eLc (iAny (eB dIx (eB dIx (eB dIx (eV 1) (eC (.int 1))) (eV 5)) (eC (.int 2)))) (gN 8) tTrue (eCallS 0 fm__law_thing (aCons (eV 1) (aCons (eV 2) (aCons (eV 8) (aCons (eB dSub (eV 4) (eC (.int 1))) aNil))))) [8]) aNil)) aNil))))))
theorem w__law_thing {G : GE} {k : Nat} (T : Fx G) {fm__law_draw : List D → List D → Option (Sl × List D)} (F__law_draw : FnS G k "_law_draw" 1 fm__law_draw) {fm__law_thing : List D → List D → Option (Sl × List D)} (F__law_thing : FnS G k "_law_thing" 4 fm__law_thing) : DSs (scOf G N__law_thing sc__law_thing.nd s__law_thing k (fun i => i == 0)) (defBody s__law_thing) (g__law_thing fm__law_draw fm__law_thing) :=
  (dss_cons (ds_set 5 (de_ix (de_var 2) (de_var 3)))
    (dss_cons (ds_if (dt_gt (de_var 4) de_int) (dss_cons (ds_setLc 6 [("_law_at", 7)] (di_range1 (by rfl) T.z_range (da_cons (de_len (by rfl) T.z_len (da_cons (de_ix (de_var 1) de_int) da_nil)) da_nil)) (by kernel_rfl) (dgw_name 7) (dts_one (dt_eq (de_ix (de_ix (de_ix (de_var 1) de_int) (de_var 7)) de_int) (de_var 3))) (de_var 7))
    (dss_cons (ds_setLc 6 [("_law_at", 7)] (di_any (de_var 6)) (by kernel_rfl) (dgw_name 7) (dts_one (dt_notin de_bl (de_lc [("_law_part", 8)] (di_any (de_ix (de_ix (de_ix (de_var 1) de_int) (de_var 7)) de_int)) (by kernel_rfl) (dgw_name 8) dts_nil (de_in (de_var 8) (de_var 2))))) (de_var 7))
    (dss_one (ds_set 5 (de_ix (de_var 6) (de_callS 0 F__law_draw (by rfl) (da_cons (de_len (by rfl) T.z_len (da_cons (de_var 6) da_nil)) da_nil) (aCons_len aNil_len))))))) dss_nil)
    (dss_one (ds_ret (de_tup (da_cons (de_var 5) (da_cons (de_btup (by rfl) T.z_tuple (da_cons (de_lc [("_law_part", 8)] (di_any (de_ix (de_ix (de_ix (de_var 1) de_int) (de_var 5)) de_int)) (by kernel_rfl) (dgw_name 8) dts_nil (de_callS 0 F__law_thing (by rfl) (da_cons (de_var 1) (da_cons (de_var 2) (da_cons (de_var 8) (da_cons (de_sub (de_var 4) de_int) da_nil)))) (aCons_len (aCons_len (aCons_len (aCons_len aNil_len)))))) da_nil)) da_nil)))))))
/-! _law_weighed -/
def N__law_weighed : List Str := ["_law_mine", "_law_thing_here", "_law_kind", "_law_made", "_law_own", "_law_parts", "_law_found", "_law_place", "_law_inner", "_law_one", "_law_other"]
theorem sc__law_weighed : FnScope N__law_weighed ["_law_mine", "_law_thing_here", "_law_kind"] (defScope s__law_weighed) := ⟨rfl, rfl, rfl, by decide +kernel, rfl, by decide +kernel, by decide +kernel⟩
theorem b__law_weighed : BindsP "_law_weighed" s__law_weighed ["_law_mine", "_law_thing_here", "_law_kind"] := fun _ _ _ _ _ _ us hl => match us, hl with | [_, _, _], _ => rfl
def g__law_weighed (fm__law_weighed : List D → Option Sl) : SF := (sSeq (sIf (tOr2 (tNot1 (tB1 (eCa gIsi (aCons (eV 1) (aCons (eC (.typ "tuple")) aNil))))) (tOr2 (tB1 (eB (dEq true) (eCa gLen (aCons (eV 1) aNil)) (eC (.int 2)))) (tOr2 (tNot1 (tB1 (eCa gIsi (aCons (eB dIx (eV 1) (eC (.int 0))) (aCons (eC (.typ "int")) aNil))))) (tB1 (eCa gIsi (aCons (eB dIx (eV 1) (eC (.int 0))) (aCons (eC (.typ "bool")) aNil))))))) (sRet (eC .non)) sNil)
    (sSeq (sIf (tOr2 (tNot1 (tB1 (eCh dLe dLt (eC (.int 0)) (eB dIx (eV 1) (eC (.int 0))) (eCa gLen (aCons (eB dIx (eV 0) (eC (.int 1))) aNil))))) (tNot1 (tB1 (eCa gIsi (aCons (eB dIx (eV 1) (eC (.int 1))) (aCons (eC (.typ "tuple")) aNil)))))) (sRet (eC .non)) sNil)
    (sSeq (sAsg (eB dIx (eB dIx (eV 0) (eC (.int 1))) (eB dIx (eV 1) (eC (.int 0)))) (gTU 3 (gsCons (gN 3) (gsCons (gN 4) (gsCons (gN 5) gsNil)))))
    (sSeq (sIf (tOr2 (tB1 (eB (dEq true) (eV 3) (eV 2))) (tB1 (eB (dEq true) (eCa gLen (aCons (eV 5) aNil)) (eCa gLen (aCons (eB dIx (eV 1) (eC (.int 1))) aNil))))) (sRet (eC .non)) sNil)
    (sSeq (sSet 6 (eB dAdd (eLst (aCons (eV 4) aNil)) (eLc (iAny (eB dIx (eV 0) (eC (.int 0)))) (gN 9) tTrue (eCa gInt (aCons (eB (dEq false) (eV 9) (eV 2)) aNil)) [9])))
    (sSeq (sFor (iR1 (aCons (eCa gLen (aCons (eV 5) aNil)) aNil)) (gN 7) (sSeq (sSet 8 (eCall fm__law_weighed (aCons (eV 0) (aCons (eB dIx (eB dIx (eV 1) (eC (.int 1))) (eV 7)) (aCons (eB dIx (eV 5) (eV 7)) aNil)))))
    (sSeq (sIf (tB1 (eB (dIsN false) (eV 8) (eC .non))) (sRet (eC .non)) sNil)
    (sSet 6 (eLc (iZp (aCons (eV 6) (aCons (eV 8) aNil))) (gT 2 (gsCons (gN 9) (gsCons (gN 10) gsNil))) tTrue (eB dAdd (eV 9) (eV 10)) [9, 10])))))
    (sRet (eV 6))))))))
theorem w__law_weighed {G : GE} {k : Nat} (T : Fx G) {fm__law_weighed : List D → Option Sl} (F__law_weighed : FnP G k "_law_weighed" 3 fm__law_weighed) : DSs (scOf G N__law_weighed sc__law_weighed.nd s__law_weighed k) (defBody s__law_weighed) (g__law_weighed fm__law_weighed) :=
  (dss_cons (ds_if (dt_w (dw_or (dt_not (dt_val (de_isi (by rfl) T.z_isinstance (da_cons (de_var 1) (da_cons (de_typ (T := "tuple") (by rfl) T.z_tuple (by decide +kernel)) da_nil))))) (dw_or (dt_ne (de_len (by rfl) T.z_len (da_cons (de_var 1) da_nil)) de_int) (dw_or (dt_not (dt_val (de_isi (by rfl) T.z_isinstance (da_cons (de_ix (de_var 1) de_int) (da_cons (de_typ (T := "int") (by rfl) T.z_int (by decide +kernel)) da_nil))))) (dw_or1 (dt_val (de_isi (by rfl) T.z_isinstance (da_cons (de_ix (de_var 1) de_int) (da_cons (de_typ (T := "bool") (by rfl) T.z_bool (by decide +kernel)) da_nil))))))))) (dss_one (ds_ret de_non)) dss_nil)
    (dss_cons (ds_if (dt_w (dw_or (dt_not (dt_lelt de_int (de_ix (de_var 1) de_int) (de_len (by rfl) T.z_len (da_cons (de_ix (de_var 0) de_int) da_nil)))) (dw_or1 (dt_not (dt_val (de_isi (by rfl) T.z_isinstance (da_cons (de_ix (de_var 1) de_int) (da_cons (de_typ (T := "tuple") (by rfl) T.z_tuple (by decide +kernel)) da_nil)))))))) (dss_one (ds_ret de_non)) dss_nil)
    (dss_cons (ds_asg (de_ix (de_ix (de_var 0) de_int) (de_ix (de_var 1) de_int)) (dg_tupU (dgs_cons (dg_name 3) (dgs_cons (dg_name 4) (dgs_cons (dg_name 5) dgs_nil)))))
    (dss_cons (ds_if (dt_w (dw_or (dt_ne (de_var 3) (de_var 2)) (dw_or1 (dt_ne (de_len (by rfl) T.z_len (da_cons (de_var 5) da_nil)) (de_len (by rfl) T.z_len (da_cons (de_ix (de_var 1) de_int) da_nil)))))) (dss_one (ds_ret de_non)) dss_nil)
    (dss_cons (ds_set 6 (de_add (de_lst (da_cons (de_var 4) da_nil)) (de_lc [("_law_one", 9)] (di_any (de_ix (de_var 0) de_int)) (by kernel_rfl) (dgw_name 9) dts_nil (de_bint (by rfl) T.z_int (da_cons (de_eq (de_var 9) (de_var 2)) da_nil)))))
    (dss_cons (ds_for (di_range1 (by rfl) T.z_range (da_cons (de_len (by rfl) T.z_len (da_cons (de_var 5) da_nil)) da_nil)) (dg_name 7) (dss_cons (ds_set 8 (de_call F__law_weighed (by rfl) (da_cons (de_var 0) (da_cons (de_ix (de_ix (de_var 1) de_int) (de_var 7)) (da_cons (de_ix (de_var 5) (de_var 7)) da_nil))) (aCons_len (aCons_len (aCons_len aNil_len)))))
    (dss_cons (ds_if (dt_is (de_var 8) de_non) (dss_one (ds_ret de_non)) dss_nil)
    (dss_one (ds_setLc 6 [("_law_one", 9), ("_law_other", 10)] (di_zip (by rfl) T.z_zip (da_cons (de_var 6) (da_cons (de_var 8) da_nil))) (by kernel_rfl) (dgw_tup (dgsw_cons (dgw_name 9) (dgsw_cons (dgw_name 10) dgsw_nil))) dts_nil (de_add (de_var 9) (de_var 10)))))))
    (dss_one (ds_ret (de_var 6)))))))))
/-! _law_by_hand -/
def N__law_by_hand : List Str := ["_law_text_here", "_law_thing_here", "_law_turn", "_law_told"]
theorem sc__law_by_hand : FnScope N__law_by_hand [] (defScope s__law_by_hand) := ⟨rfl, rfl, rfl, by decide +kernel, rfl, by decide +kernel, by decide +kernel⟩
theorem b__law_by_hand : BindsP "_law_by_hand" s__law_by_hand [] := fun _ _ _ _ _ _ us hl => match us, hl with | [], _ => rfl
def g__law_by_hand (fm_accepts : List D → Option Sl) : SF := (sSeq (sAsg (eTup (aCons (eC (.str "kinds box\nbox 1\nbox 1: box")) (aCons (eTup (aCons (eC (.int 0)) (aCons (eTup aNil) aNil))) aNil))) (gTU 2 (gsCons (gN 0) (gsCons (gN 1) gsNil))))
    (sSeq (sFor (iR1 (aCons (eC (.int 99)) aNil)) (gN 2) (sSet 1 (eTup (aCons (eC (.int 1)) (aCons (eTup (aCons (eV 1) aNil)) aNil)))))
    (sSeq (sSetO 3 (eLst (aCons (eCall fm_accepts (aCons (eTup (aCons (eC (.str "weighs")) (aCons (eV 0) (aCons (eC (.str "box")) (aCons (eC (.int 100)) aNil))))) (aCons (eV 1) aNil))) (aCons (eCall fm_accepts (aCons (eTup (aCons (eC (.str "holds")) (aCons (eV 0) (aCons (eC (.str "box")) (aCons (eC (.str "box")) (aCons (eC (.int 100)) (aCons (eC (.int 100)) aNil))))))) (aCons (eV 1) aNil))) aNil))))
    (sSeq (sDrop (eMutV 3 mApp (aCons (eCall fm_accepts (aCons (eTup (aCons (eC (.str "weighs")) (aCons (eV 0) (aCons (eC (.str "box")) (aCons (eC (.int 99)) aNil))))) (aCons (eV 1) aNil))) aNil)))
    (sSeq (sDrop (eMutV 3 mApp (aCons (eCall fm_accepts (aCons (eTup (aCons (eC (.str "holds")) (aCons (eV 0) (aCons (eC (.str "box")) (aCons (eC (.str "box")) (aCons (eC (.int 100)) (aCons (eC (.int 99)) aNil))))))) (aCons (eV 1) aNil))) aNil)))
    (sSeq (sSet 1 (eTup (aCons (eC (.int 1)) (aCons (eTup (aCons (eV 1) aNil)) aNil))))
    (sSeq (sDrop (eMutV 3 mApp (aCons (eCall fm_accepts (aCons (eTup (aCons (eC (.str "weighs")) (aCons (eV 0) (aCons (eC (.str "box")) (aCons (eC (.int 101)) aNil))))) (aCons (eV 1) aNil))) aNil)))
    (sSeq (sDrop (eMutV 3 mApp (aCons (eCall fm_accepts (aCons (eTup (aCons (eC (.str "holds")) (aCons (eV 0) (aCons (eC (.str "box")) (aCons (eC (.str "box")) (aCons (eC (.int 101)) (aCons (eC (.int 101)) aNil))))))) (aCons (eV 1) aNil))) aNil)))
    (sSeq (sSetO 3 (eB dAdd (eV 3) (eLst (aCons (eCall fm_accepts (aCons (eTup (aCons (eC (.str "weighs")) (aCons (eV 0) (aCons (eC (.str "box")) (aCons (eC (.int 1)) aNil))))) (aCons (eTup (aCons (eC (.int 0)) (aCons (eTup aNil) aNil))) aNil))) (aCons (eCall fm_accepts (aCons (eTup (aCons (eC (.str "weighs")) (aCons (eV 0) (aCons (eC (.str "box")) (aCons (eC (.int 0)) aNil))))) (aCons (eTup aNil) aNil))) aNil)))))
    (sSeq (sSet 0 (eC (.str "kinds one two\none 9\ntwo 1: one one one")))
    (sSeq (sSet 1 (eTup (aCons (eC (.int 1)) (aCons (eTup (aCons (eTup (aCons (eC (.int 0)) (aCons (eTup aNil) aNil))) (aCons (eTup (aCons (eC (.int 0)) (aCons (eTup aNil) aNil))) (aCons (eTup (aCons (eC (.int 0)) (aCons (eTup aNil) aNil))) aNil)))) aNil))))
    (sSeq (sDrop (eMutV 3 mApp (aCons (eCall fm_accepts (aCons (eTup (aCons (eC (.str "holds")) (aCons (eV 0) (aCons (eC (.str "two")) (aCons (eC (.str "one")) (aCons (eC (.int 28)) (aCons (eC (.int 3)) aNil))))))) (aCons (eV 1) aNil))) aNil)))
    (sSeq (sDrop (eMutV 3 mApp (aCons (eCall fm_accepts (aCons (eTup (aCons (eC (.str "holds")) (aCons (eV 0) (aCons (eC (.str "two")) (aCons (eC (.str "two")) (aCons (eC (.int 28)) (aCons (eC (.int 1)) aNil))))))) (aCons (eV 1) aNil))) aNil)))
    (sSeq (sSetO 3 (eB dAdd (eV 3) (eLst (aCons (eCall fm_accepts (aCons (eTup (aCons (eC (.str "holds")) (aCons (eV 0) (aCons (eC (.str "one")) (aCons (eC (.str "two")) (aCons (eC (.int 9)) (aCons (eC (.int 0)) aNil))))))) (aCons (eTup (aCons (eC (.int 0)) (aCons (eTup aNil) aNil))) aNil))) (aCons (eCall fm_accepts (aCons (eTup (aCons (eC (.str "weighs")) (aCons (eV 0) (aCons (eC (.str "one")) (aCons (eC (.int 28)) aNil))))) (aCons (eV 1) aNil))) aNil)))))
    (sRet (eB (dEq false) (eCa gRep (aCons (eV 3) aNil)) (eCa gRep (aCons (eLst (aCons (eC (.bl true)) (aCons (eC (.bl true)) (aCons (eC (.bl false)) (aCons (eC (.bl false)) (aCons (eC (.bl false)) (aCons (eC (.bl false)) (aCons (eC (.bl true)) (aCons (eC (.bl false)) (aCons (eC (.bl true)) (aCons (eC (.bl true)) (aCons (eC (.bl true)) (aCons (eC (.bl false)) aNil))))))))))))) aNil))))))))))))))))))
theorem w__law_by_hand {G : GE} {k : Nat} (T : Fx G) {fm_accepts : List D → Option Sl} (F_accepts : FnP G k "accepts" 2 fm_accepts) : DSs (scOf G N__law_by_hand sc__law_by_hand.nd s__law_by_hand k) (defBody s__law_by_hand) (g__law_by_hand fm_accepts) :=
  (dss_cons (ds_asg (de_tup (da_cons de_str (da_cons (de_tup (da_cons de_int (da_cons (de_tup da_nil) da_nil))) da_nil))) (dg_tupU (dgs_cons (dg_name 0) (dgs_cons (dg_name 1) dgs_nil))) (hw := fun X hX => (sws hX).trans (by kernel_rfl)))
    (dss_cons (ds_for (di_range1 (by rfl) T.z_range (da_cons de_int da_nil)) (dg_name 2) (dss_one (ds_set 1 (de_tup (da_cons de_int (da_cons (de_tup (da_cons (de_var 1) da_nil)) da_nil))))))
    (dss_cons (ds_setO 3 (de_lst (da_cons (de_call F_accepts (by rfl) (da_cons (de_tup (da_cons de_str (da_cons (de_var 0) (da_cons de_str (da_cons de_int da_nil))))) (da_cons (de_var 1) da_nil)) (aCons_len (aCons_len aNil_len))) (da_cons (de_call F_accepts (by rfl) (da_cons (de_tup (da_cons de_str (da_cons (de_var 0) (da_cons de_str (da_cons de_str (da_cons de_int (da_cons de_int da_nil))))))) (da_cons (de_var 1) da_nil)) (aCons_len (aCons_len aNil_len))) da_nil))))
    (dss_cons (ds_expr (de_append 3 nm (da_cons (de_call F_accepts (by rfl) (da_cons (de_tup (da_cons de_str (da_cons (de_var 0) (da_cons de_str (da_cons de_int da_nil))))) (da_cons (de_var 1) da_nil)) (aCons_len (aCons_len aNil_len))) da_nil)))
    (dss_cons (ds_expr (de_append 3 nm (da_cons (de_call F_accepts (by rfl) (da_cons (de_tup (da_cons de_str (da_cons (de_var 0) (da_cons de_str (da_cons de_str (da_cons de_int (da_cons de_int da_nil))))))) (da_cons (de_var 1) da_nil)) (aCons_len (aCons_len aNil_len))) da_nil)))
    (dss_cons (ds_set 1 (de_tup (da_cons de_int (da_cons (de_tup (da_cons (de_var 1) da_nil)) da_nil))))
    (dss_cons (ds_expr (de_append 3 nm (da_cons (de_call F_accepts (by rfl) (da_cons (de_tup (da_cons de_str (da_cons (de_var 0) (da_cons de_str (da_cons de_int da_nil))))) (da_cons (de_var 1) da_nil)) (aCons_len (aCons_len aNil_len))) da_nil)))
    (dss_cons (ds_expr (de_append 3 nm (da_cons (de_call F_accepts (by rfl) (da_cons (de_tup (da_cons de_str (da_cons (de_var 0) (da_cons de_str (da_cons de_str (da_cons de_int (da_cons de_int da_nil))))))) (da_cons (de_var 1) da_nil)) (aCons_len (aCons_len aNil_len))) da_nil)))
    (dss_cons (ds_setO 3 (de_add (de_var 3) (de_lst (da_cons (de_call F_accepts (by rfl) (da_cons (de_tup (da_cons de_str (da_cons (de_var 0) (da_cons de_str (da_cons de_int da_nil))))) (da_cons (de_tup (da_cons de_int (da_cons (de_tup da_nil) da_nil))) da_nil)) (aCons_len (aCons_len aNil_len))) (da_cons (de_call F_accepts (by rfl) (da_cons (de_tup (da_cons de_str (da_cons (de_var 0) (da_cons de_str (da_cons de_int da_nil))))) (da_cons (de_tup da_nil) da_nil)) (aCons_len (aCons_len aNil_len))) da_nil)))))
    (dss_cons (ds_set 0 de_str)
    (dss_cons (ds_set 1 (de_tup (da_cons de_int (da_cons (de_tup (da_cons (de_tup (da_cons de_int (da_cons (de_tup da_nil) da_nil))) (da_cons (de_tup (da_cons de_int (da_cons (de_tup da_nil) da_nil))) (da_cons (de_tup (da_cons de_int (da_cons (de_tup da_nil) da_nil))) da_nil)))) da_nil))))
    (dss_cons (ds_expr (de_append 3 nm (da_cons (de_call F_accepts (by rfl) (da_cons (de_tup (da_cons de_str (da_cons (de_var 0) (da_cons de_str (da_cons de_str (da_cons de_int (da_cons de_int da_nil))))))) (da_cons (de_var 1) da_nil)) (aCons_len (aCons_len aNil_len))) da_nil)))
    (dss_cons (ds_expr (de_append 3 nm (da_cons (de_call F_accepts (by rfl) (da_cons (de_tup (da_cons de_str (da_cons (de_var 0) (da_cons de_str (da_cons de_str (da_cons de_int (da_cons de_int da_nil))))))) (da_cons (de_var 1) da_nil)) (aCons_len (aCons_len aNil_len))) da_nil)))
    (dss_cons (ds_setO 3 (de_add (de_var 3) (de_lst (da_cons (de_call F_accepts (by rfl) (da_cons (de_tup (da_cons de_str (da_cons (de_var 0) (da_cons de_str (da_cons de_str (da_cons de_int (da_cons de_int da_nil))))))) (da_cons (de_tup (da_cons de_int (da_cons (de_tup da_nil) da_nil))) da_nil)) (aCons_len (aCons_len aNil_len))) (da_cons (de_call F_accepts (by rfl) (da_cons (de_tup (da_cons de_str (da_cons (de_var 0) (da_cons de_str (da_cons de_int da_nil))))) (da_cons (de_var 1) da_nil)) (aCons_len (aCons_len aNil_len))) da_nil)))))
    (dss_one (ds_ret (de_eq (de_brep (by rfl) T.z_repr (da_cons (de_var 3) da_nil)) (de_brep (by rfl) T.z_repr (da_cons (de_lst (da_cons de_bl (da_cons de_bl (da_cons de_bl (da_cons de_bl (da_cons de_bl (da_cons de_bl (da_cons de_bl (da_cons de_bl (da_cons de_bl (da_cons de_bl (da_cons de_bl (da_cons de_bl da_nil))))))))))))) da_nil)))))))))))))))))))
/-! _law_right -/
def N__law_right : List Str := ["_law_source_here", "_law_mine", "_law_ready", "_law_text_here", "_law_kind", "_law_thing_here", "_law_found", "_law_other", "_law_at", "_law_wrong", "_law_weight", "_law_number", "_law_told", "_law_fits", "_law_claim_here"]
theorem sc__law_right : FnScope N__law_right ["_law_source_here"] (defScope s__law_right) := ⟨rfl, rfl, rfl, by decide +kernel, rfl, by decide +kernel, by decide +kernel⟩
theorem b__law_right : BindsP "_law_right" s__law_right ["_law_source_here"] := fun _ _ _ _ _ _ us hl => match us, hl with | [_], _ => rfl
def g__law_right (fm__law_catalogue : List D → List D → Option (Sl × List D)) (fm__law_made_of : List D → Option Sl) (fm__law_text : List D → Option Sl) (fm__law_thing : List D → List D → Option (Sl × List D)) (fm__law_draw : List D → List D → Option (Sl × List D)) (fm__law_weighed : List D → Option Sl) (fm_accepts : List D → Option Sl) : SF := (sSeq (sSet 1 (eCallS 0 fm__law_catalogue aNil))
    (sSeq (sPar2 2 3 (asCons (eCall fm__law_made_of (aCons (eV 1) aNil)) (asCons (eCall fm__law_text (aCons (eV 1) aNil)) asNil)))
    (sSeq (sFor (iAny (eB dAdd (eCa gLst (aCons (eV 2) aNil)) (eCa gLst (aCons (eV 2) aNil)))) (gN 4) (sSeq (sSet 5 (eCallS 0 fm__law_thing (aCons (eV 1) (aCons (eV 2) (aCons (eV 4) (aCons (eCallS 0 fm__law_draw (aCons (eC (.int 5)) aNil)) aNil))))))
    (sSeq (sSet 6 (eCall fm__law_weighed (aCons (eV 1) (aCons (eV 5) (aCons (eV 4) aNil)))))
    (sSeq (sPar2 7 8 (asCons (eB dIx (eB dIx (eV 1) (eC (.int 0))) (eCallS 0 fm__law_draw (aCons (eC (.int 3)) aNil))) (asCons (eCallS 0 fm__law_draw (aCons (eC (.int 3)) aNil)) asNil)))
    (sFor (iR1 (aCons (eC (.int 4)) aNil)) (gN 9) (sSeq (sPar2 10 11 (asCons (eB dIx (eV 6) (eC (.int 0))) (asCons (eB dIx (eV 6) (eB dAdd (eC (.int 1)) (eV 8))) asNil)))
    (sSeq (sIf (tB1 (eB (dEq false) (eV 9) (eC (.int 1)))) (sSet 10 (eB dAdd (eV 10) (eB dIx (eLst (aCons (eC (.int 1)) (aCons (eU dNeg (eC (.int 1))) (aCons (eU dNeg (eV 10)) (aCons (eB dPow (eC (.int 10)) (eC (.int 20))) (aCons (eC (.int 1)) aNil)))))) (eCallS 0 fm__law_draw (aCons (eC (.int 5)) aNil))))) sNil)
    (sSeq (sIf (tB1 (eB (dEq false) (eV 9) (eC (.int 2)))) (sSet 11 (eB dAdd (eV 11) (eB dIx (eLst (aCons (eC (.int 1)) (aCons (eU dNeg (eC (.int 1))) (aCons (eB dSub (eU dNeg (eV 11)) (eC (.int 1))) (aCons (eB dPow (eC (.int 10)) (eC (.int 20))) (aCons (eC (.int 1)) aNil)))))) (eCallS 0 fm__law_draw (aCons (eC (.int 5)) aNil))))) sNil)
    (sSeq (sSet 12 (eCall fm_accepts (aCons (eTup (aCons (eC (.str "weighs")) (aCons (eV 3) (aCons (eIf (tB1 (eB (dEq false) (eV 9) (eC (.int 3)))) (eV 7) (eV 4)) (aCons (eV 10) aNil))))) (aCons (eV 5) aNil))))
    (sSeq (sSet 13 (eAnd (eB (dEq false) (eV 10) (eB dIx (eV 6) (eC (.int 0)))) (eAnd (eB dLt (eV 10) (eC (.int 101))) (eOr (eB (dEq true) (eV 9) (eC (.int 3))) (eB (dEq false) (eV 7) (eV 4))))))
    (sSeq (sIf (tB1 (eB (dEq true) (eCa gRep (aCons (eV 12) aNil)) (eCa gRep (aCons (eV 13) aNil)))) (sRet (eC (.bl false))) sNil)
    (sSeq (sSet 14 (eTup (aCons (eC (.str "holds")) (aCons (eV 3) (aCons (eIf (tB1 (eB (dEq false) (eV 9) (eC (.int 3)))) (eV 7) (eV 4)) (aCons (eB dIx (eB dIx (eV 1) (eC (.int 0))) (eV 8)) (aCons (eV 10) (aCons (eV 11) aNil))))))))
    (sIf (tB1 (eB (dEq true) (eCa gRep (aCons (eCall fm_accepts (aCons (eV 14) (aCons (eV 5) aNil))) aNil)) (eCa gRep (aCons (eAnd (eV 13) (eB (dEq false) (eV 11) (eB dIx (eV 6) (eB dAdd (eC (.int 1)) (eV 8))))) aNil)))) (sRet (eC (.bl false))) sNil)))))))))))))
    (sRet (eC (.bl true))))))
theorem w__law_right {G : GE} {k : Nat} (T : Fx G) {fm__law_catalogue : List D → List D → Option (Sl × List D)} (F__law_catalogue : FnS G k "_law_catalogue" 0 fm__law_catalogue) {fm__law_made_of : List D → Option Sl} (F__law_made_of : FnP G k "_law_made_of" 1 fm__law_made_of) {fm__law_text : List D → Option Sl} (F__law_text : FnP G k "_law_text" 1 fm__law_text) {fm__law_thing : List D → List D → Option (Sl × List D)} (F__law_thing : FnS G k "_law_thing" 4 fm__law_thing) {fm__law_draw : List D → List D → Option (Sl × List D)} (F__law_draw : FnS G k "_law_draw" 1 fm__law_draw) {fm__law_weighed : List D → Option Sl} (F__law_weighed : FnP G k "_law_weighed" 3 fm__law_weighed) {fm_accepts : List D → Option Sl} (F_accepts : FnP G k "accepts" 2 fm_accepts) : DSs (scOf G N__law_right sc__law_right.nd s__law_right k (fun i => i == 0)) (defBody s__law_right) (g__law_right fm__law_catalogue fm__law_made_of fm__law_text fm__law_thing fm__law_draw fm__law_weighed fm_accepts) :=
  (dss_cons (ds_set 1 (de_callS 0 F__law_catalogue (by rfl) da_nil aNil_len))
    (dss_cons (ds_par2 2 3 (das_cons (de_call F__law_made_of (by rfl) (da_cons (de_var 1) da_nil) (aCons_len aNil_len)) (das_cons (de_call F__law_text (by rfl) (da_cons (de_var 1) da_nil) (aCons_len aNil_len)) das_nil)) (hw := fun X hX => (sws hX).trans (by kernel_rfl)))
    (dss_cons (ds_for (di_any (de_add (de_blst (by rfl) T.z_list (da_cons (de_var 2) da_nil)) (de_blst (by rfl) T.z_list (da_cons (de_var 2) da_nil)))) (dg_name 4) (dss_cons (ds_set 5 (de_callS 0 F__law_thing (by rfl) (da_cons (de_var 1) (da_cons (de_var 2) (da_cons (de_var 4) (da_cons (de_callS 0 F__law_draw (by rfl) (da_cons de_int da_nil) (aCons_len aNil_len)) da_nil)))) (aCons_len (aCons_len (aCons_len (aCons_len aNil_len))))))
    (dss_cons (ds_set 6 (de_call F__law_weighed (by rfl) (da_cons (de_var 1) (da_cons (de_var 5) (da_cons (de_var 4) da_nil))) (aCons_len (aCons_len (aCons_len aNil_len)))))
    (dss_cons (ds_par2 7 8 (das_cons (de_ix (de_ix (de_var 1) de_int) (de_callS 0 F__law_draw (by rfl) (da_cons de_int da_nil) (aCons_len aNil_len))) (das_cons (de_callS 0 F__law_draw (by rfl) (da_cons de_int da_nil) (aCons_len aNil_len)) das_nil)) (hw := fun X hX => (sws hX).trans (by kernel_rfl)))
    (dss_one (ds_for (di_range1 (by rfl) T.z_range (da_cons de_int da_nil)) (dg_name 9) (dss_cons (ds_par2 10 11 (das_cons (de_ix (de_var 6) de_int) (das_cons (de_ix (de_var 6) (de_add de_int (de_var 8))) das_nil)) (hw := fun X hX => (sws hX).trans (by kernel_rfl)))
    (dss_cons (ds_if (dt_eq (de_var 9) de_int) (dss_one (ds_set 10 (de_add (de_var 10) (de_ix (de_lst (da_cons de_int (da_cons (de_neg de_int) (da_cons (de_neg (de_var 10)) (da_cons (de_pow de_int de_int) (da_cons de_int da_nil)))))) (de_callS 0 F__law_draw (by rfl) (da_cons de_int da_nil) (aCons_len aNil_len)))))) dss_nil)
    (dss_cons (ds_if (dt_eq (de_var 9) de_int) (dss_one (ds_set 11 (de_add (de_var 11) (de_ix (de_lst (da_cons de_int (da_cons (de_neg de_int) (da_cons (de_sub (de_neg (de_var 11)) de_int) (da_cons (de_pow de_int de_int) (da_cons de_int da_nil)))))) (de_callS 0 F__law_draw (by rfl) (da_cons de_int da_nil) (aCons_len aNil_len)))))) dss_nil)
    (dss_cons (ds_set 12 (de_call F_accepts (by rfl) (da_cons (de_tup (da_cons de_str (da_cons (de_var 3) (da_cons (de_if (dt_eq (de_var 9) de_int) (de_var 7) (de_var 4)) (da_cons (de_var 10) da_nil))))) (da_cons (de_var 5) da_nil)) (aCons_len (aCons_len aNil_len))))
    (dss_cons (ds_set 13 (de_and (de_eq (de_var 10) (de_ix (de_var 6) de_int)) (de_and (de_lt (de_var 10) de_int) (de_one (de_or (de_ne (de_var 9) de_int) (de_one (de_eq (de_var 7) (de_var 4))))))))
    (dss_cons (ds_if (dt_ne (de_brep (by rfl) T.z_repr (da_cons (de_var 12) da_nil)) (de_brep (by rfl) T.z_repr (da_cons (de_var 13) da_nil))) (dss_one (ds_ret de_bl)) dss_nil)
    (dss_cons (ds_set 14 (de_tup (da_cons de_str (da_cons (de_var 3) (da_cons (de_if (dt_eq (de_var 9) de_int) (de_var 7) (de_var 4)) (da_cons (de_ix (de_ix (de_var 1) de_int) (de_var 8)) (da_cons (de_var 10) (da_cons (de_var 11) da_nil))))))))
    (dss_one (ds_if (dt_ne (de_brep (by rfl) T.z_repr (da_cons (de_call F_accepts (by rfl) (da_cons (de_var 14) (da_cons (de_var 5) da_nil)) (aCons_len (aCons_len aNil_len))) da_nil)) (de_brep (by rfl) T.z_repr (da_cons (de_and (de_var 13) (de_one (de_eq (de_var 11) (de_ix (de_var 6) (de_add de_int (de_var 8)))))) da_nil))) (dss_one (ds_ret de_bl)) dss_nil)))))))))))))))
    (dss_one (ds_ret de_bl)))))
/-! law -/
def N_law : List Str := ["_law_script", "_law_at"]
theorem sc_law : FnScope N_law ["_law_script"] (defScope s_law) := ⟨rfl, rfl, rfl, by decide +kernel, rfl, by decide +kernel, by decide +kernel⟩
theorem b_law : BindsP "law" s_law ["_law_script"] := fun _ _ _ _ _ _ us hl => match us, hl with | [_], _ => rfl
def g_law (fm__law_by_hand : List D → Option Sl) (fm__law_right : List D → List D → Option (Sl × List D)) (fm__law_source : List D → Option Sl) (fm__law_cell : List D → Option Sl) : SF := (sSeq (sIf (tNot1 (tB1 (eCall fm__law_by_hand aNil))) (sRet (eC (.bl false))) sNil)
    (sSeq (sFor (iR1 (aCons (eCa gMax (aCons (eC (.int 2)) (aCons (eCa gMin (aCons (eCa gLen (aCons (eV 0) aNil)) (aCons (eC (.int 4)) aNil))) aNil))) aNil)) (gN 1) (sIf (tNot1 (tB1 (eCallT fm__law_right (eCall fm__law_source (aCons (eCall fm__law_cell (aCons (eV 0) (aCons (eV 1) aNil))) aNil))))) (sRet (eC (.bl false))) sNil))
    (sRet (eC (.bl true)))))
theorem w_law {G : GE} {k : Nat} (T : Fx G) {fm__law_by_hand : List D → Option Sl} (F__law_by_hand : FnP G k "_law_by_hand" 0 fm__law_by_hand) {fm__law_right : List D → List D → Option (Sl × List D)} (F__law_right : FnS G k "_law_right" 0 fm__law_right) {fm__law_source : List D → Option Sl} (F__law_source : FnP G k "_law_source" 1 fm__law_source) {fm__law_cell : List D → Option Sl} (F__law_cell : FnP G k "_law_cell" 2 fm__law_cell) : DSs (scOf G N_law sc_law.nd s_law k) (defBody s_law) (g_law fm__law_by_hand fm__law_right fm__law_source fm__law_cell) :=
  (dss_cons (ds_if (dt_not (dt_val (de_call0 F__law_by_hand (by rfl)))) (dss_one (ds_ret de_bl)) dss_nil)
    (dss_cons (ds_for (di_range1 (by rfl) T.z_range (da_cons (de_bmax (by rfl) T.z_max (da_cons de_int (da_cons (de_bmin (by rfl) T.z_min (da_cons (de_len (by rfl) T.z_len (da_cons (de_var 0) da_nil)) (da_cons de_int da_nil))) da_nil))) da_nil)) (dg_name 1) (dss_one (ds_if (dt_not (dt_val (de_callT F__law_right (by rfl) (de_call F__law_source (by rfl) (da_cons (de_call F__law_cell (by rfl) (da_cons (de_var 0) (da_cons (de_var 1) da_nil)) (aCons_len (aCons_len aNil_len))) da_nil) (aCons_len aNil_len))))) (dss_one (ds_ret de_bl)) dss_nil)))
    (dss_one (ds_ret de_bl))))
end WK

set_option Elab.async false
set_option linter.all false
set_option maxRecDepth 100000
set_option maxHeartbeats 4000000
namespace WK
open PySem PySem.Spec PyProof.Rows L2 DL
/-! ### isinstance -/
@[simp] theorem kb1 : kitB "NoneType" "int" = some false := by decide +kernel
@[simp] theorem kb2 : kitB "bool" "int" = some true := by decide +kernel
@[simp] theorem kb3 : kitB "int" "int" = some true := by decide +kernel
@[simp] theorem kb4 : kitB "str" "int" = some false := by decide +kernel
@[simp] theorem kb5 : kitB "list" "int" = some false := by decide +kernel
@[simp] theorem kb6 : kitB "tuple" "int" = some false := by decide +kernel
@[simp] theorem kb7 : kitB "dict" "int" = some false := by decide +kernel
@[simp] theorem kc1 : kitB "NoneType" "bool" = some false := by decide +kernel
@[simp] theorem kc2 : kitB "bool" "bool" = some true := by decide +kernel
@[simp] theorem kc3 : kitB "int" "bool" = some false := by decide +kernel
@[simp] theorem kc4 : kitB "str" "bool" = some false := by decide +kernel
@[simp] theorem kc5 : kitB "list" "bool" = some false := by decide +kernel
@[simp] theorem kc6 : kitB "tuple" "bool" = some false := by decide +kernel
@[simp] theorem kc7 : kitB "dict" "bool" = some false := by decide +kernel
@[simp] theorem kd1 : kitB "NoneType" "tuple" = some false := by decide +kernel
@[simp] theorem kd2 : kitB "bool" "tuple" = some false := by decide +kernel
@[simp] theorem kd3 : kitB "int" "tuple" = some false := by decide +kernel
@[simp] theorem kd4 : kitB "str" "tuple" = some false := by decide +kernel
@[simp] theorem kd5 : kitB "list" "tuple" = some false := by decide +kernel
@[simp] theorem kd6 : kitB "tuple" "tuple" = some true := by decide +kernel
@[simp] theorem kd7 : kitB "dict" "tuple" = some false := by decide +kernel
@[simp] theorem ke1 : kitB "NoneType" "str" = some false := by decide +kernel
@[simp] theorem ke2 : kitB "bool" "str" = some false := by decide +kernel
@[simp] theorem ke3 : kitB "int" "str" = some false := by decide +kernel
@[simp] theorem ke4 : kitB "str" "str" = some true := by decide +kernel
@[simp] theorem ke5 : kitB "list" "str" = some false := by decide +kernel
@[simp] theorem ke6 : kitB "tuple" "str" = some false := by decide +kernel
@[simp] theorem ke7 : kitB "dict" "str" = some false := by decide +kernel
def fm_is_integer : List D → Option Sl := runP g_is_integer 1
def fm_is_between : List D → Option Sl := runP (g_is_between fm_is_integer) 3
def isI : D → Bool
  | .int _ => true
  | _ => false
def Ty (d : D) : Prop := d.ty.isSome = true
theorem is_integer_at (d : D) (h : Ty d) : fm_is_integer [d] = some (.im (.bl (isI d))) := by
  unfold Ty at h
  cases d <;> simp [fm_is_integer, runP, g_is_integer, startE, gIsi, DL.D.ty, isI] at h ⊢
theorem is_between_at (d : D) (h : Ty d) (lo hi : Int) : fm_is_between [d, .int lo, .int hi] = some (.im (.bl (match d with
  | .int i => decide (lo ≤ i) && decide (i ≤ hi)
  | _ => false))) := by
  have e := is_integer_at d h
  cases d with
  | int i =>
    by_cases h1 : lo ≤ i
    · simp [fm_is_between, runP, g_is_between, startE, e, isI, dCmpI, dIsN, DL.D.isN, h1]
    · simp [fm_is_between, runP, g_is_between, startE, e, isI, dCmpI, dIsN, DL.D.isN, h1]
  | _ => simp [fm_is_between, runP, g_is_between, startE, e, isI]

/-! ### draws -/
def Src (xs : List D) : Prop := ∃ a b c : Int, xs = [.int a, .int b, .int c] ∧ 0 ≤ b ∧ b ≤ 998244353
def fm_draw : List D → List D → Option (Sl × List D) := runS g__law_draw 4
theorem ix3 {a b c : D} (i : Nat) (h : i < 3) : ixN [a, b, c].length (i : Int) = some i := by
  have : i = 0 ∨ i = 1 ∨ i = 2 := by omega
  rcases this with e | e | e <;> subst e <;> rfl
def stD (b c : Int) : Int := (b * (b.fdiv 7 + 33461) + 5237 * (c + 1)).fmod 998244353
theorem draw_ok {xs : List D} (h : Src xs) {m : Int} (h1 : 1 ≤ m) (h2 : m < 2 ^ 30) : ∃ r xs', fm_draw xs [.int m] = some (.im (.int r), xs') ∧ 0 ≤ r ∧ r < m ∧ Src xs' := by
  obtain ⟨a, b, c, rfl, hb0, hb1⟩ := h
  have e0 : ixN 3 0 = some 0 := rfl
  have e1 : ixN 3 1 = some 1 := rfl
  have e2 : ixN 3 2 = some 2 := rfl
  have c1 : CMul b (b.fdiv 7 + 33461) := .inl ⟨by omega, by omega⟩
  have c2 : ∀ z, CMul 5237 z := fun z => .inl ⟨by decide, by decide⟩
  have c3 : CDivN b 7 := ⟨by decide, by decide⟩
  have c4 : CDiv a m := ⟨by omega, by omega⟩
  have c5 : ∀ z, CDivN z 251 := fun z => ⟨by decide, by decide⟩
  have hm : m ≠ 0 := by omega
  have hs : Src [D.int (a / m), .int (stD b c), .int (c + 1)] := ⟨_, _, _, rfl, Int.fmod_nonneg_of_pos _ (by decide), Int.le_of_lt (Int.fmod_lt_of_pos _ (by decide))⟩
  have hs' : Src [D.int a, .int (stD b c), .int (c + 1)] := ⟨_, _, _, rfl, Int.fmod_nonneg_of_pos _ (by decide), Int.le_of_lt (Int.fmod_lt_of_pos _ (by decide))⟩
  by_cases ha : 0 < a
  · refine ⟨a % m, _, ?_, Int.emod_nonneg _ hm, Int.emod_lt_of_pos _ (by omega), hs⟩
    simp [fm_draw, runS, g__law_draw, startS, startE, dIx, atD, e0, e1, e2, gInt, gDm, dAdd, dMul, dFdiv, dMod, dCmpI, c1, c2, c3, c4, ha, stD]
  · refine ⟨((stD b c).fdiv 251).fmod m, _, ?_, Int.fmod_nonneg_of_pos _ (by omega), Int.fmod_lt_of_pos _ (by omega), hs'⟩
    simp [fm_draw, runS, g__law_draw, startS, startE, dIx, atD, e0, e1, e2, gInt, gDm, dAdd, dMul, dFdiv, dMod, dCmpI, c1, c2, c3, c4, c5, ha, stD, hm]
end WK

set_option Elab.async false
set_option linter.all false
set_option maxRecDepth 100000
set_option maxHeartbeats 4000000
namespace WK
open PySem PySem.Spec PyProof.Rows L2 DL
/-! ### names -/
abbrev sAZ : Str := "abcdefghijklmnopqrstuvwxyz"
abbrev s09 : Str := "0123456789"
theorem tl_az : TL.tl sAZ = (List.range 26).map (97 + ·) := by decide +kernel
theorem tl_09 : TL.tl s09 = (List.range 10).map (48 + ·) := by decide +kernel
def isLet (c : Nat) : Prop := 97 ≤ c ∧ c ≤ 122
def isDig (c : Nat) : Prop := 48 ≤ c ∧ c ≤ 57
theorem mem_az {c : Nat} : c ∈ TL.tl sAZ ↔ isLet c := by
  rw [tl_az, List.mem_map]
  constructor
  · rintro ⟨i, hi, rfl⟩
    have := List.mem_range.mp hi
    exact ⟨by omega, by omega⟩
  · rintro ⟨h1, h2⟩
    exact ⟨c - 97, List.mem_range.mpr (by omega), by omega⟩
theorem mem_09 {c : Nat} : c ∈ TL.tl s09 ↔ isDig c := by
  rw [tl_09, List.mem_map]
  constructor
  · rintro ⟨i, hi, rfl⟩
    have := List.mem_range.mp hi
    exact ⟨by omega, by omega⟩
  · rintro ⟨h1, h2⟩
    exact ⟨c - 48, List.mem_range.mpr (by omega), by omega⟩
theorem len_az : sAZ.length = 26 := by rw [TL.len_tl, tl_az]; simp
theorem len_09 : s09.length = 10 := by rw [TL.len_tl, tl_09]; simp
/-- a name: a letter, up to two letters or digits, this digit -/
def NameOk (x : Str) (n : Nat) : Prop := ∃ (c : Nat) (mid : List Nat), TL.tl x = c :: mid ++ [48 + n] ∧ isLet c ∧ mid.length ≤ 2 ∧ ∀ m ∈ mid, isLet m ∨ isDig m
theorem strIx {z : Str} {r : Int} (h0 : 0 ≤ r) (h1 : r < z.length) (hb : z.length ≤ big) : ∃ c, c ∈ TL.tl z ∧ dIx (.str z) (.int r) = some (.im (.str ⟨#[c]⟩)) := by
  obtain ⟨c, h2, h3⟩ := atD_nn (xs := z.cps.toList) h0 (by rw [← TL.len_tl]; exact h1)
  exact ⟨c, List.mem_of_getElem? h2, by simp only [dIx]; rw [if_pos hb, h3]; rfl⟩
theorem tl_one (c : Nat) : TL.tl (⟨#[c]⟩ : Str) = [c] := rfl
def digS (n : Nat) : Str := Str.ofString (toString (n : Int))
theorem tl_digit {n : Nat} (h : n < 10) : TL.tl (digS n) = [48 + n] := by
  unfold digS
  rw [TL.tl_num, TL.numL_lt h]
theorem gStr_dig {n : Nat} (h : n < 10) : gStr [.int (n : Int)] = some (.im (.str (digS n))) := by
  unfold digS
  simp only [gStr]
  rw [if_pos]
  have : n.log2 < 1920 := by
    have h1 : n.log2 ≤ n := Nat.log2_le_self n
    omega
  simpa using this
def fm_name : List D → List D → Option (Sl × List D) := runS (g__law_name fm_draw) 5
theorem name_ok {xs : List D} (h : Src xs) {n : Nat} (hn : n < 3) : ∃ x xs', fm_name xs [.int (n : Int)] = some (.im (.str x), xs') ∧ NameOk x n ∧ Src xs' := by
  obtain ⟨r0, s0, e0, a0, b0, h0⟩ := draw_ok h (m := 26) (by decide) (by decide)
  obtain ⟨r1, s1, e1, a1, b1, h1⟩ := draw_ok h0 (m := 3) (by decide) (by decide)
  obtain ⟨c0, hc0, i0⟩ := strIx (z := sAZ) a0 (by rw [len_az]; exact b0) (by rw [len_az]; decide)
  have hr1 : r1.toNat ≤ 2 := by omega
  obtain ⟨ρ', hf, src, x, z, rfl, hs, mid, hx, hm, hall⟩ := for_ok (gb := gN 4) (body := sSet 3 (eB dAdd (eV 3) (eB dIx (eB dAdd (eV 2) (eC (.str s09))) (eCallS 0 fm_draw (aCons (eC (.int 36)) aNil))))) (all := rangeD 0 r1.toNat)
    (fun pre ρ => ∃ src x z, ρ = [some (.ol src), some (.im (.int (n : Int))), some (.im (.str sAZ)), some (.im (.str x)), z] ∧ Src src ∧ ∃ mid, TL.tl x = c0 :: mid ∧ mid.length = pre.length ∧ ∀ m ∈ mid, isLet m ∨ isDig m)
    (ρ := [some (.ol s1), some (.im (.int (n : Int))), some (.im (.str sAZ)), some (.im (.str ⟨#[c0]⟩)), none])
    ⟨s1, _, none, rfl, h1, [], rfl, rfl, by simp⟩ (by
      rintro pre d post ρ hall ⟨src, x, z, rfl, hs, mid, hx, hm, hmid⟩
      obtain ⟨hp, rfl⟩ := rangeD_at hall
      obtain ⟨r2, s2, e2, a2, b2, h2⟩ := draw_ok hs (m := 36) (by decide) (by decide)
      have l36 : (sAZ ++ s09).length = 36 := by rw [TL.len_tl, TL.tl_append, List.length_append, ← TL.len_tl, ← TL.len_tl, len_az, len_09]
      obtain ⟨c, hc, ic⟩ := strIx (z := sAZ ++ s09) a2 (by rw [l36]; exact b2) (by rw [l36]; decide)
      have hxl : x.length + (⟨#[c]⟩ : Str).length ≤ big := by
        rw [TL.len_tl, hx]
        show (c0 :: mid).length + 1 ≤ big
        simp only [List.length_cons]
        have : big = 100000 := rfl
        omega
      have hal : sAZ.length + s09.length ≤ big := by rw [len_az, len_09]; decide
      refine ⟨_, [some (.ol s2), some (.im (.int (n : Int))), some (.im (.str sAZ)), some (.im (.str (x ++ ⟨#[c]⟩))), some (.im (.int (0 + (pre.length : Nat))))], rfl, .inl ?_, s2, _, _, rfl, h2, mid ++ [c], ?_, ?_, ?_⟩
      · simp [dAdd, hal, e2, ic, hxl]
      · rw [TL.tl_append, hx]; rfl
      · simp [hm]
      · intro m hm2
        rcases List.mem_append.mp hm2 with q | q
        · exact hmid m q
        · rw [List.mem_singleton.mp q]
          rw [TL.tl_append] at hc
          rcases List.mem_append.mp hc with q | q
          · exact .inl (mem_az.mp q)
          · exact .inr (mem_09.mp q))
  rw [rangeD_len] at hm
  have hxl : x.length + (digS n).length ≤ big := by
    rw [TL.len_tl, hx, TL.len_tl, tl_digit (by omega)]
    show (c0 :: mid).length + 1 ≤ big
    simp only [List.length_cons]
    have : big = 100000 := rfl
    omega
  refine ⟨x ++ digS n, src, ?_, ⟨c0, mid, ?_, mem_az.mp hc0, by omega, hall⟩, hs⟩
  · have hlo : -4611686018427387904 ≤ r1 := by omega
    have hhi : r1 < 4611686018427387904 := by omega
    simp [fm_name, runS, g__law_name, startS, startE, e0, e1, i0, hlo, hhi, hf, gStr_dig (show n < 10 by omega), dAdd, hxl]
  · rw [TL.tl_append, hx, tl_digit (by omega)]
end WK

set_option Elab.async false
set_option linter.all false
set_option maxRecDepth 100000
set_option maxHeartbeats 4000000
namespace WK
open PySem PySem.Spec PyProof.Rows L2 DL
/-! ### data of a bounded depth -/
mutual
def okD : D → Nat → Bool
  | .non, _ => true
  | .bl _, _ => true
  | .int _, _ => true
  | .str x, _ => PyData.strOk x
  | .lst xs, n + 1 => okL xs n
  | .tup xs, n + 1 => okL xs n
  | _, _ => false
def okL : List D → Nat → Bool
  | [], _ => true
  | d :: ds, n => okD d n && okL ds n
end
mutual
theorem okD_py : ∀ {d : D} {n : Nat}, okD d n = true → ∃ p, d.py = some p ∧ p.canLay0 = true ∧ p.depth ≤ n
  | .non, _, _ => ⟨_, rfl, rfl, Nat.zero_le _⟩
  | .bl _, _, _ => ⟨_, rfl, rfl, Nat.zero_le _⟩
  | .int _, _, _ => ⟨_, rfl, rfl, Nat.zero_le _⟩
  | .str x, _, h => ⟨_, rfl, by unfold okD at h; simpa [PyData.canLay0] using h, by simp [PyData.depth]⟩
  | .lst xs, 0, h => by unfold okD at h; cases h
  | .lst xs, n + 1, h => by
    unfold okD at h
    obtain ⟨ps, h1, h2, h3⟩ := okL_py h
    exact ⟨.list ps, by unfold D.py; rw [h1]; rfl, by simpa [PyData.canLay0] using h2, by simp [PyData.depth]; exact h3⟩
  | .tup xs, 0, h => by unfold okD at h; cases h
  | .tup xs, n + 1, h => by
    unfold okD at h
    obtain ⟨ps, h1, h2, h3⟩ := okL_py h
    exact ⟨.tuple ps, by unfold D.py; rw [h1]; rfl, by simpa [PyData.canLay0] using h2, by simp [PyData.depth]; exact h3⟩
  | .dct _, n, h => by cases n <;> (unfold okD at h; cases h)
  | .scr _, n, h => by cases n <;> (unfold okD at h; cases h)
  | .typ _, n, h => by cases n <;> (unfold okD at h; cases h)
theorem okL_py : ∀ {ds : List D} {n : Nat}, okL ds n = true → ∃ ps, pyL ds = some ps ∧ PyData.canLayAll0 ps = true ∧ PyData.depthAll ps ≤ n
  | [], _, _ => ⟨[], rfl, rfl, Nat.zero_le _⟩
  | d :: ds, n, h => by
    unfold okL at h
    rw [Bool.and_eq_true] at h
    obtain ⟨p, h1, h2, h3⟩ := okD_py h.1
    obtain ⟨ps, h4, h5, h6⟩ := okL_py h.2
    refine ⟨p :: ps, by unfold pyL; rw [h1, h4], by simp [PyData.canLayAll0, h2, h5], ?_⟩
    simp only [PyData.depthAll]
    omega
end
theorem shp_of {d : D} (h : okD d 64 = true) : d.shp = true := by
  obtain ⟨p, h1, h2, h3⟩ := okD_py h
  unfold D.shp
  rw [h1]
  simp only [SeqAt.shaped, h2, h3, decide_true, Bool.and_self]
mutual
theorem okD_mono : ∀ {d : D} {n m : Nat}, n ≤ m → okD d n = true → okD d m = true
  | .non, _, _, _, _ => by simp [okD]
  | .bl _, _, _, _, _ => by simp [okD]
  | .int _, _, _, _, _ => by simp [okD]
  | .str x, _, _, _, h => by simpa [okD] using h
  | .lst xs, 0, _, _, h => by unfold okD at h; cases h
  | .lst xs, n + 1, 0, e, _ => by omega
  | .lst xs, n + 1, m + 1, e, h => by
    unfold okD at h ⊢
    exact okL_mono (by omega) h
  | .tup xs, 0, _, _, h => by unfold okD at h; cases h
  | .tup xs, n + 1, 0, e, _ => by omega
  | .tup xs, n + 1, m + 1, e, h => by
    unfold okD at h ⊢
    exact okL_mono (by omega) h
  | .dct _, n, _, _, h => by cases n <;> (unfold okD at h; cases h)
  | .scr _, n, _, _, h => by cases n <;> (unfold okD at h; cases h)
  | .typ _, n, _, _, h => by cases n <;> (unfold okD at h; cases h)
theorem okL_mono : ∀ {ds : List D} {n m : Nat}, n ≤ m → okL ds n = true → okL ds m = true
  | [], _, _, _, _ => by simp [okL]
  | d :: ds, n, m, e, h => by
    unfold okL at h ⊢
    rw [Bool.and_eq_true] at h ⊢
    exact ⟨okD_mono e h.1, okL_mono e h.2⟩
end
theorem okL_iff {ds : List D} {n : Nat} : okL ds n = true ↔ ∀ d ∈ ds, okD d n = true := by
  induction ds with
  | nil => simp [okL]
  | cons d ds ih => unfold okL; rw [Bool.and_eq_true, ih]; simp
theorem strOk_of {x : Str} (h : ∀ c ∈ TL.tl x, c < 1114112) : PyData.strOk x = true := by
  unfold PyData.strOk
  rw [← Array.all_toList, List.all_eq_true]
  intro c hc
  exact decide_eq_true (h c hc)
theorem NameOk.sok {x : Str} {n : Nat} (hn : n < 10) (h : NameOk x n) : PyData.strOk x = true := by
  obtain ⟨c, mid, e, h1, h2, h3⟩ := h
  refine strOk_of fun d hd => ?_
  rw [e] at hd
  simp only [List.cons_append, List.mem_cons, List.mem_append, List.not_mem_nil, or_false] at hd
  unfold isLet at h1 h3
  unfold isDig at h3
  rcases hd with rfl | hd | rfl
  · omega
  · have := h3 d hd; omega
  · omega
/-! ### recipes -/
structure Rec where
  k : Str
  own : Int
  ps : List Str
deriving DecidableEq
def enc (r : Rec) : D := .tup [.str r.k, .int r.own, .tup (r.ps.map .str)]
theorem eqvL_str : ∀ {xs ys : List Str}, eqvL (xs.map .str) (ys.map .str) = decide (xs = ys)
  | [], [] => rfl
  | [], _ :: _ => rfl
  | _ :: _, [] => rfl
  | x :: xs, y :: ys => by
    simp only [List.map_cons, eqvL, D.eqv, eqvL_str]
    by_cases h1 : x = y
    · by_cases h2 : xs = ys <;> simp [h1, h2]
    · simp [h1]
theorem eqv_str (x y : Str) : D.eqv (.str x) (.str y) = decide (x = y) := by
  unfold D.eqv
  by_cases h : x = y <;> simp [h]
theorem eqv_enc (r s : Rec) : D.eqv (enc r) (enc s) = decide (r = s) := by
  obtain ⟨k, o, ps⟩ := r
  obtain ⟨k', o', ps'⟩ := s
  unfold enc
  simp only [D.eqv, eqvL, eqvL_str]
  by_cases h1 : k = k' <;> by_cases h2 : o = o' <;> by_cases h3 : ps = ps' <;> simp [h1, h2, h3]
theorem any_enc {r : Rec} {qs : List Rec} : ((qs.map enc).any fun y => D.eqv y (enc r)) = decide (r ∈ qs) := by
  induction qs with
  | nil => rfl
  | cons q qs ih =>
    rw [List.map_cons, List.any_cons, ih, eqv_enc]
    by_cases h1 : q = r
    · subst h1; simp
    · have h1' : ¬ r = q := fun e => h1 e.symm
      simp [h1, h1']
theorem any_str {x : Str} {qs : List Str} : ((qs.map D.str).any fun y => D.eqv y (.str x)) = decide (x ∈ qs) := by
  induction qs with
  | nil => rfl
  | cons q qs ih =>
    rw [List.map_cons, List.any_cons, ih, eqv_str]
    by_cases h1 : q = x
    · subst h1; simp
    · have h1' : ¬ x = q := fun e => h1 e.symm
      simp [h1, h1']
structure RecT (r : Rec) : Prop where
  k : PyData.strOk r.k = true
  ps : ∀ p ∈ r.ps, PyData.strOk p = true
theorem okD_enc {r : Rec} (h : RecT r) : okD (enc r) 2 = true := by
  have e : okL (r.ps.map .str) 0 = true := okL_iff.mpr fun d hd => by
    obtain ⟨p, hp, rfl⟩ := List.mem_map.mp hd
    simpa [okD] using h.ps p hp
  simp [enc, okD, okL, h.k, e]
theorem flat_strs {ys : List Str} : (ys.map D.str).all D.flat = true := by simp [List.all_map, D.flat]
theorem in_strs (neg : Bool) (x : Str) (ys : List Str) : dIn neg (.str x) (.tup (ys.map .str)) = some (.im (.bl (if neg then !decide (x ∈ ys) else decide (x ∈ ys)))) := by
  simp only [dIn, seqIn, flat_strs, any_str, D.flat, Bool.and_self, Bool.true_or, if_true, Option.map_some]
theorem in_encs (neg : Bool) {r : Rec} {qs : List Rec} (hr : RecT r) (hq : ∀ q ∈ qs, RecT q) : dIn neg (enc r) (.lst (qs.map enc)) = some (.im (.bl (if neg then !decide (r ∈ qs) else decide (r ∈ qs)))) := by
  have h1 : (enc r).shp = true := shp_of (okD_mono (by decide) (okD_enc hr))
  have h2 : (D.lst (qs.map enc)).shp = true := by
    refine shp_of (okD_mono (n := 3) (by decide) ?_)
    unfold okD
    refine okL_iff.mpr fun d hd => ?_
    obtain ⟨q, hq', rfl⟩ := List.mem_map.mp hd
    exact okD_enc (hq q hq')
  simp only [dIn, seqIn, h1, h2, any_enc, Bool.and_self, Bool.or_true, if_true, Option.map_some]
/-! ### in a drawn order -/
def fm_mixed : List D → List D → Option (Sl × List D) := runS (g__law_mixed fm_draw) 4
theorem mixed_ok {xs : List D} (h : Src xs) {rs : List Rec} (hr : ∀ r ∈ rs, RecT r) (hl : rs.length ≤ 100) : ∃ (qs : List Rec) (xs' : List D), fm_mixed xs [.lst (rs.map enc)] = some (.ol (qs.map enc), xs') ∧ qs.Nodup ∧ (∀ q, q ∈ qs ↔ q ∈ rs) ∧ qs.length ≤ rs.length ∧ Src xs' := by
  obtain ⟨ρ', hf, src, qs, z, rfl, hs, hn, hm, hle⟩ := for_ok (gb := gN 3) (body := sIf (tB1 (eInV true 2 (eV 3))) (sDrop (eMutV 2 mIns (aCons (eCallS 0 fm_draw (aCons (eB dAdd (eLenV 2) (eC (.int 1))) aNil)) (aCons (eV 3) aNil)))) sNil) (all := rs.map enc)
    (fun pre ρ => ∃ (src : List D) (qs : List Rec) (z : Option Sl), ρ = [some (.ol src), some (.im (.lst (rs.map enc))), some (.ol (qs.map enc)), z] ∧ Src src ∧ qs.Nodup ∧ (∀ q, enc q ∈ pre ↔ q ∈ qs) ∧ qs.length ≤ pre.length)
    (ρ := [some (.ol xs), some (.im (.lst (rs.map enc))), some (.ol []), none])
    ⟨xs, [], none, rfl, h, List.nodup_nil, by simp, by simp⟩ (by
      rintro pre d post ρ hall ⟨src, qs, z, rfl, hs, hn, hm, hle⟩
      have hd : d ∈ rs.map enc := by rw [hall]; simp
      obtain ⟨r, hr1, rfl⟩ := List.mem_map.mp hd
      have inj : ∀ {a b : Rec}, enc a = enc b → a = b := fun {a b} e => by
        have := eqv_enc a b
        rw [e, eqv_enc b b] at this
        simpa using this
      have hlen : pre.length < rs.length := by
        have := congrArg List.length hall
        simp at this
        omega
      have hq : ∀ q ∈ qs, RecT q := fun q hq => by
        have := (hm q).mpr hq
        have : enc q ∈ rs.map enc := by rw [hall]; simp [this]
        obtain ⟨q', hq', e⟩ := List.mem_map.mp this
        exact inj e ▸ hr q' hq'
      have ein := in_encs true (hr r hr1) hq
      by_cases hin : r ∈ qs
      · refine ⟨_, _, rfl, .inl ?_, src, qs, some (.im (enc r)), rfl, hs, hn, ?_, by simp; omega⟩
        · simp [ein, hin]
        · intro q
          rw [List.mem_append, hm q, List.mem_singleton]
          constructor
          · rintro (h | h)
            · exact h
            · exact inj h ▸ hin
          · exact .inl
      · obtain ⟨r2, s2, e2, a2, b2, h2⟩ := draw_ok hs (m := (qs.length : Int) + 1) (by omega) (by omega)
        have hil : qs.length < big := by
          have : big = 100000 := rfl
          omega
        have hr3 : r2 < 9223372036854775808 := by omega
        refine ⟨_, [some (.ol s2), some (.im (.lst (rs.map enc))), some (.ol ((qs.take r2.toNat ++ [r] ++ qs.drop r2.toNat).map enc)), some (.im (enc r))], rfl, .inl ?_, s2, _, _, rfl, h2, ?_, ?_, ?_⟩
        · simp [ein, hin, gLen, dLen, dAdd, e2, mIns, hil, a2, hr3, List.map_take, List.map_drop]
        · have : (qs.take r2.toNat ++ [r] ++ qs.drop r2.toNat).Perm (r :: qs) := by
            have h1 : (qs.take r2.toNat ++ [r] ++ qs.drop r2.toNat).Perm ([r] ++ qs.take r2.toNat ++ qs.drop r2.toNat) := (List.perm_append_comm).append_right _
            have h2 := h1
            rw [List.append_assoc [r], List.take_append_drop] at h2
            exact h2
          exact this.nodup_iff.mpr (List.nodup_cons.mpr ⟨hin, hn⟩)
        · intro q
          have hqm : q ∈ qs ↔ q ∈ qs.take r2.toNat ∨ q ∈ qs.drop r2.toNat := by
            rw [← List.mem_append, List.take_append_drop]
          simp only [List.mem_append, List.mem_singleton, hm q, hqm]
          constructor
          · rintro ((h | h) | h)
            · exact .inl (.inl h)
            · exact .inr h
            · exact .inl (.inr (inj h))
          · rintro ((h | h) | h)
            · exact .inl (.inl h)
            · exact .inr (h ▸ rfl)
            · exact .inl (.inr h)
        · simp only [List.length_append, List.length_take, List.length_drop, List.length_singleton]
          omega)
  refine ⟨qs, src, ?_, hn, ?_, ?_, hs⟩
  · simp [fm_mixed, runS, g__law_mixed, startS, startE, hf]
  · intro q
    rw [← hm q]
    constructor
    · intro h
      obtain ⟨q', hq', e⟩ := List.mem_map.mp h
      have : q' = q := by
        have := eqv_enc q' q
        rw [e, eqv_enc q q] at this
        simpa using this.symm
      exact this ▸ hq'
    · exact fun h => List.mem_map.mpr ⟨q, h, rfl⟩
  · simpa using hle
end WK

set_option Elab.async false
set_option linter.all false
set_option maxRecDepth 100000
set_option maxHeartbeats 4000000
namespace WK
open PySem PySem.Spec PyProof.Rows L2 DL
/-! ### recipes -/
structure RecOk (a b c : Str) (r : Rec) : Prop where
  o1 : 1 ≤ r.own
  o3 : r.own ≤ 3
  l : r.ps.length ≤ 3
  k : r.k = a ∨ r.k = b ∨ r.k = c
  ps : ∀ p ∈ r.ps, p = a ∨ p = b
@[simp] theorem big_eq : big = 100000 := rfl
theorem rangeD0_at {n : Nat} {pre post : List D} {d : D} (h : rangeD 0 n = pre ++ d :: post) : pre.length < n ∧ d = .int (pre.length : Nat) := by
  have := rangeD_at h
  simpa using this
/-- the parts of a recipe -/
theorem parts_ok {src : List D} (h : Src src) {a b : Str} {x1 x4 x5 x6 x7 x8 : Option Sl} {m : Nat} (hm : m ≤ 3) :
    ∃ (ps : List Str) (src' : List D) (z : Option Sl), lcF (gN 9) tTrue (eB dIx (eLst (aCons (eV 2) (aCons (eV 3) aNil))) (eCallS 0 fm_draw (aCons (eC (.int 2)) aNil))) [9] (rangeD 0 m)
      [some (.ol src), x1, some (.im (.str a)), some (.im (.str b)), x4, x5, x6, x7, x8, none] = some (ps.map .str, [some (.ol src'), x1, some (.im (.str a)), some (.im (.str b)), x4, x5, x6, x7, x8, z])
      ∧ ps.length = m ∧ (∀ p ∈ ps, p = a ∨ p = b) ∧ Src src' := by
  obtain ⟨ys, ρ', hf, ps, src', z, rfl, rfl, hl, hp, hs⟩ := lc_ok (gb := gN 9) (t := tTrue) (fe := eB dIx (eLst (aCons (eV 2) (aCons (eV 3) aNil))) (eCallS 0 fm_draw (aCons (eC (.int 2)) aNil))) (vs := [9]) (all := rangeD 0 m)
    (fun pre acc ρ => ∃ (ps : List Str) (src' : List D) (z : Option Sl), acc = ps.map .str ∧ ρ = [some (.ol src'), x1, some (.im (.str a)), some (.im (.str b)), x4, x5, x6, x7, x8, z] ∧ ps.length = pre.length ∧ (∀ p ∈ ps, p = a ∨ p = b) ∧ Src src')
    (ρ := [some (.ol src), x1, some (.im (.str a)), some (.im (.str b)), x4, x5, x6, x7, x8, none]) ⟨[], src, none, rfl, rfl, rfl, by simp, h⟩ (by
      rintro pre d post acc ρ hall ⟨ps, s1, z, rfl, rfl, hl, hp, hs⟩
      obtain ⟨hlt, rfl⟩ := rangeD0_at hall
      obtain ⟨r, s2, e2, a2, b2, h2⟩ := draw_ok hs (m := 2) (by decide) (by decide)
      have hr : r = 0 ∨ r = 1 := by omega
      have hb : (1 : Nat) ≤ 100000 := by decide
      have hx : dIx (D.lst [.str a, .str b]) (.int r) = some (.im (.str (if r = 0 then a else b))) := by
        rcases hr with rfl | rfl <;> rfl
      refine ⟨some (.str (if r = 0 then a else b)), _, ⟨_, rfl, .inr ⟨_, _, [some (.ol s2), x1, some (.im (.str a)), some (.im (.str b)), x4, x5, x6, x7, x8, some (.im (.int (pre.length : Nat)))], rfl, rfl, ?_, rfl⟩⟩, ps ++ [if r = 0 then a else b], s2, none, by simp, by simp, by simp [hl], ?_, h2⟩
      · simp [e2, hx]
      · intro p hp2
        rcases List.mem_append.mp hp2 with q | q
        · exact hp p q
        · rw [List.mem_singleton.mp q]
          rcases hr with rfl | rfl <;> simp)
  rw [rangeD_len] at hl
  exact ⟨ps, src', z, hf, hl, hp, hs⟩
def keepI : Option Sl → Option Sl
  | some (.im d) => some (.im d)
  | _ => none
theorem asS_map : ∀ (xs : List Str), asS (xs.map .str) = some xs
  | [] => rfl
  | x :: xs => by simp [asS, asS_map xs]
def fm_recipes : List D → List D → Option (Sl × List D) := runS (g__law_recipes fm_draw fm_mixed) 10
theorem recipes_ok {xs : List D} (h : Src xs) {a b c : Str} (ha : PyData.strOk a = true) (hb : PyData.strOk b = true) (hc : PyData.strOk c = true) :
    ∃ (rs : List Rec) (xs' : List D), fm_recipes xs [.lst [.str a, .str b, .str c]] = some (.im (.tup (rs.map enc)), xs') ∧ rs.Nodup ∧ rs.length ≤ 8 ∧ (∀ r ∈ rs, RecOk a b c r) ∧ Src xs' := by
  -- the first kind
  obtain ⟨q1, s1, e1, a1, b1, h1⟩ := draw_ok h (m := 3) (by decide) (by decide)
  have n1 : ((1 + q1).toNat : Nat) ≤ 3 := by omega
  obtain ⟨ys, ρ1, hf1, rs, src, z, rfl, rfl, hl, hr, hs⟩ := lc_ok (gb := gN 6) (t := tTrue) (fe := eTup (aCons (eV 2) (aCons (eB dAdd (eC (.int 1)) (eCallS 0 fm_draw (aCons (eC (.int 3)) aNil))) (aCons (eTup aNil) aNil)))) (vs := [6]) (all := rangeD 0 (1 + q1).toNat)
    (fun pre acc ρ => ∃ (rs : List Rec) (src : List D) (z : Option Sl), acc = rs.map enc ∧ ρ = [some (.ol src), some (.im (.lst [.str a, .str b, .str c])), some (.im (.str a)), some (.im (.str b)), some (.im (.str c)), none, z, none, none, none] ∧ rs.length = pre.length ∧ (∀ r ∈ rs, RecOk a b c r) ∧ Src src)
    (ρ := [some (.ol s1), some (.im (.lst [.str a, .str b, .str c])), some (.im (.str a)), some (.im (.str b)), some (.im (.str c)), none, none, none, none, none]) ⟨[], s1, none, rfl, rfl, rfl, by simp, h1⟩ (by
      rintro pre d post acc ρ hall ⟨rs, s1, z, rfl, rfl, hl, hp, hs⟩
      obtain ⟨hlt, rfl⟩ := rangeD0_at hall
      obtain ⟨r, s2, e2, a2, b2, h2⟩ := draw_ok hs (m := 3) (by decide) (by decide)
      refine ⟨some (enc ⟨a, 1 + r, []⟩), _, ⟨_, rfl, .inr ⟨_, _, [some (.ol s2), some (.im (.lst [.str a, .str b, .str c])), some (.im (.str a)), some (.im (.str b)), some (.im (.str c)), none, some (.im (.int (pre.length : Nat))), none, none, none], rfl, rfl, ?_, rfl⟩⟩, rs ++ [⟨a, 1 + r, []⟩], s2, none, by simp, by simp, by simp [hl], ?_, h2⟩
      · simp [e2, dAdd, enc]
      · intro p hp2
        rcases List.mem_append.mp hp2 with q | q
        · exact hp p q
        · rw [List.mem_singleton.mp q]
          exact ⟨by simp; omega, by simp; omega, by simp, .inl rfl, by simp⟩)
  rw [rangeD_len] at hl
  -- the second
  obtain ⟨q2, s2, e2, a2, b2, h2⟩ := draw_ok hs (m := 3) (by decide) (by decide)
  have n2 : ((1 + q2).toNat : Nat) ≤ 3 := by omega
  obtain ⟨ρ2, hf2, rs2, src2, z6, z7, z8, z9, rfl, hl2, hr2, hs2⟩ := for_ok (gb := gN 6) (body := sSeq (sPar2 7 8 (asCons (eB dAdd (eC (.int 1)) (eCallS 0 fm_draw (aCons (eC (.int 3)) aNil))) (asCons (eCallS 0 fm_draw (aCons (eC (.int 3)) aNil)) asNil)))
    (sDrop (eMutV 5 mApp (aCons (eTup (aCons (eV 3) (aCons (eV 7) (aCons (eCa gTup (aCons (eLc (iR1 (aCons (eV 8) aNil)) (gN 9) tTrue (eB dIx (eLst (aCons (eV 2) (aCons (eV 3) aNil))) (eCallS 0 fm_draw (aCons (eC (.int 2)) aNil))) [9]) aNil)) aNil)))) aNil)))) (all := rangeD 0 (1 + q2).toNat)
    (fun pre ρ => ∃ (rs : List Rec) (src : List D) (z6 z7 z8 z9 : Option Sl), ρ = [some (.ol src), some (.im (.lst [.str a, .str b, .str c])), some (.im (.str a)), some (.im (.str b)), some (.im (.str c)), some (.ol (rs.map enc)), z6, z7, z8, z9] ∧ rs.length ≤ 3 + pre.length ∧ (∀ r ∈ rs, RecOk a b c r) ∧ Src src)
    (ρ := [some (.ol s2), some (.im (.lst [.str a, .str b, .str c])), some (.im (.str a)), some (.im (.str b)), some (.im (.str c)), some (.ol (rs.map enc)), none, none, none, none]) ⟨rs, s2, none, none, none, none, rfl, by omega, hr, h2⟩ (by
      rintro pre d post ρ hall ⟨rs, s1, z6, z7, z8, z9, rfl, hl, hp, hs⟩
      obtain ⟨hlt, rfl⟩ := rangeD0_at hall
      obtain ⟨o, s2, e2, a2, b2, h2⟩ := draw_ok hs (m := 3) (by decide) (by decide)
      obtain ⟨m, s3, e3, a3, b3, h3⟩ := draw_ok h2 (m := 3) (by decide) (by decide)
      obtain ⟨ps, s4, z, hf, hpl, hpm, h4⟩ := parts_ok h3 (a := a) (b := b) (x1 := some (.im (.lst [.str a, .str b, .str c]))) (x4 := some (.im (.str c))) (x5 := some (.ol (rs.map enc))) (x6 := some (.im (.int (pre.length : Nat)))) (x7 := some (.im (.int (1 + o)))) (x8 := some (.im (.int m))) (m := m.toNat) (by omega)
      have hlo : -4611686018427387904 ≤ m := by omega
      have hhi : m < 4611686018427387904 := by omega
      have hm1 : m ≤ 100000 := by omega
      have hrl : rs.length < 100000 := by omega
      have hpl2 : ps.length ≤ 100000 := by omega
      refine ⟨_, [some (.ol s4), some (.im (.lst [.str a, .str b, .str c])), some (.im (.str a)), some (.im (.str b)), some (.im (.str c)), some (.ol ((rs ++ [(⟨b, 1 + o, ps⟩ : Rec)]).map enc)), some (.im (.int (pre.length : Nat))), some (.im (.int (1 + o))), some (.im (.int m)), keepI z9], rfl, .inl ?_, rs ++ [⟨b, 1 + o, ps⟩], s4, _, _, _, _, rfl, by simp; omega, ?_, h4⟩
      · rcases z9 with _ | ⟨_ | _ | _⟩ <;> simp [keepI, e2, e3, dAdd, hlo, hhi, hf, DL.gTup, mApp, hrl, enc, hpl2, rangeD_len, hpl, hm1]
      · intro p hp2
        rcases List.mem_append.mp hp2 with q | q
        · exact hp p q
        · rw [List.mem_singleton.mp q]
          exact ⟨by simp; omega, by simp; omega, by simp; omega, .inr (.inl rfl), hpm⟩)
  rw [rangeD_len] at hl2
  -- the third
  obtain ⟨q3, s3, e3, a3, b3, h3⟩ := draw_ok hs2 (m := 3) (by decide) (by decide)
  have n3 : (q3.toNat : Nat) ≤ 2 := by omega
  obtain ⟨ρ3, hf3, rs3, src3, y6, y7, y8, y9, rfl, hl3, hr3, hs3⟩ := for_ok (gb := gN 6) (body := sSeq (sPar2 7 8 (asCons (eB dAdd (eC (.int 1)) (eCallS 0 fm_draw (aCons (eC (.int 3)) aNil))) (asCons (eCallS 0 fm_draw (aCons (eC (.int 4)) aNil)) asNil)))
    (sDrop (eMutV 5 mApp (aCons (eTup (aCons (eV 4) (aCons (eV 7) (aCons (eCa gTup (aCons (eLc (iR1 (aCons (eV 8) aNil)) (gN 9) tTrue (eB dIx (eLst (aCons (eV 2) (aCons (eV 3) aNil))) (eCallS 0 fm_draw (aCons (eC (.int 2)) aNil))) [9]) aNil)) aNil)))) aNil)))) (all := rangeD 0 q3.toNat)
    (fun pre ρ => ∃ (rs : List Rec) (src : List D) (z6 z7 z8 z9 : Option Sl), ρ = [some (.ol src), some (.im (.lst [.str a, .str b, .str c])), some (.im (.str a)), some (.im (.str b)), some (.im (.str c)), some (.ol (rs.map enc)), z6, z7, z8, z9] ∧ rs.length ≤ 6 + pre.length ∧ (∀ r ∈ rs, RecOk a b c r) ∧ Src src)
    (ρ := [some (.ol s3), some (.im (.lst [.str a, .str b, .str c])), some (.im (.str a)), some (.im (.str b)), some (.im (.str c)), some (.ol (rs2.map enc)), z6, z7, z8, z9]) ⟨rs2, s3, z6, z7, z8, z9, rfl, by omega, hr2, h3⟩ (by
      rintro pre d post ρ hall ⟨rs, s1, z6, z7, z8, z9, rfl, hl, hp, hs⟩
      obtain ⟨hlt, rfl⟩ := rangeD0_at hall
      obtain ⟨o, s2, e2, a2, b2, h2⟩ := draw_ok hs (m := 3) (by decide) (by decide)
      obtain ⟨m, s3, e3, a3, b3, h3⟩ := draw_ok h2 (m := 4) (by decide) (by decide)
      obtain ⟨ps, s4, z, hf, hpl, hpm, h4⟩ := parts_ok h3 (a := a) (b := b) (x1 := some (.im (.lst [.str a, .str b, .str c]))) (x4 := some (.im (.str c))) (x5 := some (.ol (rs.map enc))) (x6 := some (.im (.int (pre.length : Nat)))) (x7 := some (.im (.int (1 + o)))) (x8 := some (.im (.int m))) (m := m.toNat) (by omega)
      have hlo : -4611686018427387904 ≤ m := by omega
      have hhi : m < 4611686018427387904 := by omega
      have hm1 : m ≤ 100000 := by omega
      have hrl : rs.length < 100000 := by omega
      have hpl2 : ps.length ≤ 100000 := by omega
      refine ⟨_, [some (.ol s4), some (.im (.lst [.str a, .str b, .str c])), some (.im (.str a)), some (.im (.str b)), some (.im (.str c)), some (.ol ((rs ++ [(⟨c, 1 + o, ps⟩ : Rec)]).map enc)), some (.im (.int (pre.length : Nat))), some (.im (.int (1 + o))), some (.im (.int m)), keepI z9], rfl, .inl ?_, rs ++ [⟨c, 1 + o, ps⟩], s4, _, _, _, _, rfl, by simp; omega, ?_, h4⟩
      · rcases z9 with _ | ⟨_ | _ | _⟩ <;> simp [keepI, e2, e3, dAdd, hlo, hhi, hf, DL.gTup, mApp, hrl, enc, hpl2, rangeD_len, hpl, hm1]
      · intro p hp2
        rcases List.mem_append.mp hp2 with q | q
        · exact hp p q
        · rw [List.mem_singleton.mp q]
          exact ⟨by simp; omega, by simp; omega, by simp; omega, .inr (.inr rfl), hpm⟩)
  rw [rangeD_len] at hl3
  have ht : ∀ r ∈ rs3, RecT r := fun r hr => by
    obtain ⟨_, _, _, hk, hp⟩ := hr3 r hr
    refine ⟨?_, fun p hp2 => ?_⟩
    · rcases hk with e | e | e <;> rw [e] <;> assumption
    · rcases hp p hp2 with e | e <;> rw [e] <;> assumption
  obtain ⟨qs, s4, e4, hn, hm, hle, h4⟩ := mixed_ok hs3 ht (by omega)
  refine ⟨qs, s4, ?_, hn, by omega, fun r hr => hr3 r ((hm r).mp hr), h4⟩
  have c1 : -4611686018427387904 ≤ 1 + q1 := by omega
  have c2 : 1 + q1 < 4611686018427387904 := by omega
  have c3 : -4611686018427387904 ≤ 1 + q2 := by omega
  have c4 : 1 + q2 < 4611686018427387904 := by omega
  have c5 : -4611686018427387904 ≤ q3 := by omega
  have c6 : q3 < 4611686018427387904 := by omega
  have c7 : (1 + q1) ≤ 100000 := by omega
  simp [fm_recipes, runS, g__law_recipes, startS, startE, e1, e2, e3, e4, dAdd, c1, c2, c3, c4, c5, c6, c7, hf1, hf2, hf3, rangeD_len, DL.gTup]
end WK

set_option Elab.async false
set_option linter.all false
set_option maxRecDepth 100000
set_option maxHeartbeats 4000000
namespace WK
open PySem PySem.Spec PyProof.Rows L2 DL
@[simp] theorem ev_bndN {β : Type} (g : Option Int → En → Option β) (ρ : En) : bnd oNone g ρ = g none ρ := rfl
@[simp] theorem ev_bndS {β : Type} (f : EF) (g : Option Int → En → Option β) (ρ : En) : bnd (oSome f) g ρ = bnd (eD f) (fun d ρ => match d with
  | .int i => g (some i) ρ
  | _ => none) ρ := by
  unfold oSome
  unfold bnd
  cases eD f ρ with
  | none => rfl
  | some p =>
    obtain ⟨d, ρ'⟩ := p
    cases d <;> rfl
/-! ### catalogues -/
structure CatOk (ks : List Str) (rs : List Rec) : Prop where
  nm : ∀ k ∈ ks, ∃ n, n < 3 ∧ NameOk k n
  nd : ks.Nodup
  l : ks.length = 3
  rd : rs.Nodup
  rl : rs.length ≤ 8
  o1 : ∀ r ∈ rs, 1 ≤ r.own
  o3 : ∀ r ∈ rs, r.own ≤ 3
  pl : ∀ r ∈ rs, r.ps.length ≤ 3
  rk : ∀ r ∈ rs, r.k ∈ ks
  rp : ∀ r ∈ rs, ∀ p ∈ r.ps, p ∈ ks
def encC (ks : List Str) (rs : List Rec) : D := .tup [.tup (ks.map .str), .tup (rs.map enc)]
theorem NameOk.inj {x : Str} {n m : Nat} (h1 : NameOk x n) (h2 : NameOk x m) : n = m := by
  obtain ⟨c, mid, e, _⟩ := h1
  obtain ⟨c', mid', e', _⟩ := h2
  have := congrArg List.getLast? (e.symm.trans e')
  simp only [List.getLast?_append, List.getLast?_singleton] at this
  have := Option.some.inj this
  omega
theorem NameOk.len {x : Str} {n : Nat} (h : NameOk x n) : x.length ≤ 4 ∧ 2 ≤ x.length := by
  obtain ⟨c, mid, e, h1, h2, h3⟩ := h
  rw [TL.len_tl, e]
  simp
  omega
def fm_catalogue : List D → List D → Option (Sl × List D) := runS (g__law_catalogue fm_name fm_recipes fm_draw) 5
theorem range3 : rangeD 0 3 = [.int 0, .int 1, .int 2] := rfl
theorem catalogue_ok {xs : List D} (h : Src xs) : ∃ (ks : List Str) (rs : List Rec) (xs' : List D), fm_catalogue xs [] = some (.im (encC ks rs), xs') ∧ CatOk ks rs ∧ Src xs' := by
  obtain ⟨a, s0, e0, n0, h0⟩ := name_ok h (n := 0) (by decide)
  obtain ⟨b, s1, e1, n1, h1⟩ := name_ok h0 (n := 1) (by decide)
  obtain ⟨c, s2, e2, n2, h2⟩ := name_ok h1 (n := 2) (by decide)
  obtain ⟨rs, s3, e3, hn, hl, hr, h3⟩ := recipes_ok h2 (n0.sok (by decide)) (n1.sok (by decide)) (n2.sok (by decide))
  obtain ⟨t, s4, e4, a4, b4, h4⟩ := draw_ok h3 (m := 3) (by decide) (by decide)
  have ab : a ≠ b := fun e => absurd (n0.inj (e ▸ n1)) (by decide)
  have ac : a ≠ c := fun e => absurd (n0.inj (e ▸ n2)) (by decide)
  have bc : b ≠ c := fun e => absurd (n1.inj (e ▸ n2)) (by decide)
  have hlc : lcF (gN 4) tTrue (eCallS 0 fm_name (aCons (eV 4) aNil)) [4] (rangeD 0 3) [some (.ol xs), none, none, none, none] = some ([.str a, .str b, .str c], [some (.ol s2), none, none, none, none]) := by
    rw [range3]
    have f0 : fm_name xs [.int 0] = some (.im (.str a), s0) := e0
    have f1 : fm_name s0 [.int 1] = some (.im (.str b), s1) := e1
    have f2 : fm_name s1 [.int 2] = some (.im (.str c), s2) := e2
    simp [lcF, f0, f1, f2]
  have cat : ∀ ks : List Str, (∀ x, x ∈ ks ↔ x = a ∨ x = b ∨ x = c) → ks.Nodup → ks.length = 3 → CatOk ks rs := fun ks hm hd hl3 =>
    { nm := fun k hk => by
        rcases (hm k).mp hk with rfl | rfl | rfl
        · exact ⟨0, by decide, n0⟩
        · exact ⟨1, by decide, n1⟩
        · exact ⟨2, by decide, n2⟩
      nd := hd, l := hl3, rd := hn, rl := hl
      o1 := fun r q => (hr r q).o1
      o3 := fun r q => (hr r q).o3
      pl := fun r q => (hr r q).l
      rk := fun r q => (hm _).mpr (hr r q).k
      rp := fun r q p hp => (hm _).mpr (by
        rcases (hr r q).ps p hp with e | e
        · exact .inl e
        · exact .inr (.inl e)) }
  have ht : t = 0 ∨ t = 1 ∨ t = 2 := by omega
  rcases ht with rfl | rfl | rfl
  · refine ⟨[a, b, c], rs, s4, ?_, cat _ (by simp) (by simp [ab, ac, bc]) rfl, h4⟩
    simp [fm_catalogue, runS, g__law_catalogue, startS, startE, hlc, e3, e4, dSl, rangeD_len, DL.cutD, HT.sIx, dAdd, DL.gTup, encC]
  · refine ⟨[b, c, a], rs, s4, ?_, cat _ (by intro x; simp; constructor <;> (rintro (h | h | h) <;> simp [h])) (by simp [ab.symm, ac.symm, bc]) rfl, h4⟩
    simp [fm_catalogue, runS, g__law_catalogue, startS, startE, hlc, e3, e4, dSl, rangeD_len, DL.cutD, HT.sIx, dAdd, DL.gTup, encC]
  · refine ⟨[c, a, b], rs, s4, ?_, cat _ (by intro x; simp; constructor <;> (rintro (h | h | h) <;> simp [h])) (by simp [ab, ac.symm, bc.symm]) rfl, h4⟩
    simp [fm_catalogue, runS, g__law_catalogue, startS, startE, hlc, e3, e4, dSl, rangeD_len, DL.cutD, HT.sIx, dAdd, DL.gTup, encC]
/-! ### the text of a catalogue -/
abbrev sp : Str := " "
abbrev nl : Str := "\n"
def rline (r : Rec) : Str := r.k ++ sp ++ digS r.own.toNat ++ (if r.ps = [] then ("" : Str) else (": " : Str) ++ Txt.join sp r.ps)
def kline (ks : List Str) : Str := ("kinds " : Str) ++ Txt.join sp ks
def textOf (ks : List Str) (rs : List Rec) : Str := Txt.join nl (kline ks :: rs.map rline)
def fm_text : List D → Option Sl := runP g__law_text 5
theorem len_app (x y : Str) : (x ++ y).length = x.length + y.length := by rw [TL.len_tl, TL.tl_append, List.length_append, ← TL.len_tl, ← TL.len_tl]
theorem joinL_len (s : Nat) : ∀ (l : List (List Nat)) (n : Nat), (∀ x ∈ l, x.length ≤ n) → (TL.joinL [s] l).length ≤ l.length * (n + 1)
  | [], _, _ => by simp [TL.joinL]
  | [x], n, h => by
    have := h x (by simp)
    simp [TL.joinL]
    omega
  | x :: y :: l, n, h => by
    have h1 := h x (by simp)
    have h2 := joinL_len s (y :: l) n fun z hz => h z (List.mem_cons_of_mem _ hz)
    have e : (x :: y :: l).length * (n + 1) = (y :: l).length * (n + 1) + (n + 1) := by
      simp only [List.length_cons]
      rw [Nat.add_mul (l.length + 1) 1]
      simp
    rw [e]
    show (x ++ ([s] ++ TL.joinL [s] (y :: l))).length ≤ _
    simp only [List.length_append, List.length_singleton]
    omega
theorem tl_sp : TL.tl sp = [32] := by decide +kernel
theorem tl_nl : TL.tl nl = [10] := by decide +kernel
theorem join_len {l : List Str} {n : Nat} (h : ∀ x ∈ l, x.length ≤ n) : (Txt.join sp l).length ≤ l.length * (n + 1) := by
  rw [TL.join_eq, TL.len_tl, TL.tl_join, tl_sp]
  have := joinL_len 32 (l.map TL.tl) n fun x hx => by
    obtain ⟨y, hy, rfl⟩ := List.mem_map.mp hx
    rw [← TL.len_tl]
    exact h y hy
  simpa using this
theorem digS_len {n : Nat} (h : n < 10) : (digS n).length = 1 := by rw [TL.len_tl, tl_digit h]; rfl
theorem sum_le {l : List Str} {n : Nat} (h : ∀ x ∈ l, x.length ≤ n) : (l.map (·.length)).sum ≤ l.length * n := by
  induction l with
  | nil => simp
  | cons x l ih =>
    have h1 := h x (by simp)
    have h2 := ih fun y hy => h y (List.mem_cons_of_mem _ hy)
    simp only [List.map_cons, List.sum_cons, List.length_cons]
    rw [Nat.add_mul]
    omega
theorem rline_len {r : Rec} (hk : r.k.length ≤ 4) (ho : r.own.toNat < 10) (hp : ∀ p ∈ r.ps, p.length ≤ 4) (hl : r.ps.length ≤ 3) : (rline r).length ≤ 30 := by
  have h1 := join_len hp
  have h2 : r.ps.length * 5 ≤ 15 := by omega
  have e1 : sp.length = 1 := by decide +kernel
  have e2 : (": " : Str).length = 2 := by decide +kernel
  have e3 : ("" : Str).length = 0 := by decide +kernel
  unfold rline
  simp only [len_app, digS_len ho, e1]
  split
  · rw [e3]; omega
  · rw [len_app, e2]; omega
theorem kline_len {ks : List Str} (hk : ∀ k ∈ ks, k.length ≤ 4) (hl : ks.length = 3) : (kline ks).length ≤ 30 := by
  have h1 := join_len hk
  have e2 : ("kinds " : Str).length = 6 := by decide +kernel
  unfold kline
  rw [len_app, e2]
  omega
end WK

set_option Elab.async false
set_option linter.all false
set_option maxRecDepth 100000
set_option maxHeartbeats 4000000
namespace WK
open PySem PySem.Spec PyProof.Rows L2 DL
@[simp] theorem ev_cmpI (p : Int → Int → Bool) (a b : Int) : dCmpI p (.int a) (.int b) = some (.im (.bl (p a b))) := rfl
@[simp] theorem ev_addI (a b : Int) : dAdd (.int a) (.int b) = some (.im (.int (a + b))) := rfl
@[simp] theorem ev_subI (a b : Int) : dSub (.int a) (.int b) = some (.im (.int (a - b))) := rfl
@[simp] theorem ev_negI (a : Int) : dNeg (.int a) = some (.im (.int (-a))) := rfl
@[simp] theorem ev_isNN (n : Bool) (a : D) : dIsN n a .non = some (.im (.bl (if n then !a.isN else a.isN))) := rfl
@[simp] theorem ev_lenL (xs : List D) : gLen [.lst xs] = some (.im (.int (xs.length : Nat))) := rfl
@[simp] theorem ev_lenT (xs : List D) : gLen [.tup xs] = some (.im (.int (xs.length : Nat))) := rfl
@[simp] theorem ev_isNn : D.isN .non = true := rfl
@[simp] theorem ev_isNi (i : Int) : D.isN (.int i) = false := rfl
@[simp] theorem ev_isNs (i : Str) : D.isN (.str i) = false := rfl
@[simp] theorem ev_isNl (i : List D) : D.isN (.lst i) = false := rfl
@[simp] theorem ev_isNt (i : List D) : D.isN (.tup i) = false := rfl
@[simp] theorem ev_tupL (xs : List D) : DL.gTup [.lst xs] = some (.im (.tup xs)) := rfl
theorem at0 {α : Type} (x0 : α) (xs : List α) : atD (x0 :: xs) 0 = some x0 := by
  unfold atD ixN
  rw [if_pos (by decide), if_pos (by simp only [List.length_cons]; omega)]
  rfl
@[simp] theorem ev_ixL0 (x0 : D) (xs : List D) : dIx (.lst (x0 :: xs)) (.int 0) = some (.im x0) := by
  show (atD (x0 :: xs) 0).map Sl.im = _
  rw [at0]
  rfl
@[simp] theorem ev_ixT0 (x0 : D) (xs : List D) : dIx (.tup (x0 :: xs)) (.int 0) = some (.im x0) := by
  show (atD (x0 :: xs) 0).map Sl.im = _
  rw [at0]
  rfl
theorem at1 {α : Type} (x0 x1 : α) (xs : List α) : atD (x0 :: x1 :: xs) 1 = some x1 := by
  unfold atD ixN
  rw [if_pos (by decide), if_pos (by simp only [List.length_cons]; omega)]
  rfl
@[simp] theorem ev_ixL1 (x0 x1 : D) (xs : List D) : dIx (.lst (x0 :: x1 :: xs)) (.int 1) = some (.im x1) := by
  show (atD (x0 :: x1 :: xs) 1).map Sl.im = _
  rw [at1]
  rfl
@[simp] theorem ev_ixT1 (x0 x1 : D) (xs : List D) : dIx (.tup (x0 :: x1 :: xs)) (.int 1) = some (.im x1) := by
  show (atD (x0 :: x1 :: xs) 1).map Sl.im = _
  rw [at1]
  rfl
theorem at2 {α : Type} (x0 x1 x2 : α) (xs : List α) : atD (x0 :: x1 :: x2 :: xs) 2 = some x2 := by
  unfold atD ixN
  rw [if_pos (by decide), if_pos (by simp only [List.length_cons]; omega)]
  rfl
@[simp] theorem ev_ixL2 (x0 x1 x2 : D) (xs : List D) : dIx (.lst (x0 :: x1 :: x2 :: xs)) (.int 2) = some (.im x2) := by
  show (atD (x0 :: x1 :: x2 :: xs) 2).map Sl.im = _
  rw [at2]
  rfl
@[simp] theorem ev_ixT2 (x0 x1 x2 : D) (xs : List D) : dIx (.tup (x0 :: x1 :: x2 :: xs)) (.int 2) = some (.im x2) := by
  show (atD (x0 :: x1 :: x2 :: xs) 2).map Sl.im = _
  rw [at2]
  rfl
theorem at3 {α : Type} (x0 x1 x2 x3 : α) (xs : List α) : atD (x0 :: x1 :: x2 :: x3 :: xs) 3 = some x3 := by
  unfold atD ixN
  rw [if_pos (by decide), if_pos (by simp only [List.length_cons]; omega)]
  rfl
@[simp] theorem ev_ixL3 (x0 x1 x2 x3 : D) (xs : List D) : dIx (.lst (x0 :: x1 :: x2 :: x3 :: xs)) (.int 3) = some (.im x3) := by
  show (atD (x0 :: x1 :: x2 :: x3 :: xs) 3).map Sl.im = _
  rw [at3]
  rfl
@[simp] theorem ev_ixT3 (x0 x1 x2 x3 : D) (xs : List D) : dIx (.tup (x0 :: x1 :: x2 :: x3 :: xs)) (.int 3) = some (.im x3) := by
  show (atD (x0 :: x1 :: x2 :: x3 :: xs) 3).map Sl.im = _
  rw [at3]
  rfl
theorem at4 {α : Type} (x0 x1 x2 x3 x4 : α) (xs : List α) : atD (x0 :: x1 :: x2 :: x3 :: x4 :: xs) 4 = some x4 := by
  unfold atD ixN
  rw [if_pos (by decide), if_pos (by simp only [List.length_cons]; omega)]
  rfl
@[simp] theorem ev_ixL4 (x0 x1 x2 x3 x4 : D) (xs : List D) : dIx (.lst (x0 :: x1 :: x2 :: x3 :: x4 :: xs)) (.int 4) = some (.im x4) := by
  show (atD (x0 :: x1 :: x2 :: x3 :: x4 :: xs) 4).map Sl.im = _
  rw [at4]
  rfl
@[simp] theorem ev_ixT4 (x0 x1 x2 x3 x4 : D) (xs : List D) : dIx (.tup (x0 :: x1 :: x2 :: x3 :: x4 :: xs)) (.int 4) = some (.im x4) := by
  show (atD (x0 :: x1 :: x2 :: x3 :: x4 :: xs) 4).map Sl.im = _
  rw [at4]
  rfl
theorem at5 {α : Type} (x0 x1 x2 x3 x4 x5 : α) (xs : List α) : atD (x0 :: x1 :: x2 :: x3 :: x4 :: x5 :: xs) 5 = some x5 := by
  unfold atD ixN
  rw [if_pos (by decide), if_pos (by simp only [List.length_cons]; omega)]
  rfl
@[simp] theorem ev_ixL5 (x0 x1 x2 x3 x4 x5 : D) (xs : List D) : dIx (.lst (x0 :: x1 :: x2 :: x3 :: x4 :: x5 :: xs)) (.int 5) = some (.im x5) := by
  show (atD (x0 :: x1 :: x2 :: x3 :: x4 :: x5 :: xs) 5).map Sl.im = _
  rw [at5]
  rfl
@[simp] theorem ev_ixT5 (x0 x1 x2 x3 x4 x5 : D) (xs : List D) : dIx (.tup (x0 :: x1 :: x2 :: x3 :: x4 :: x5 :: xs)) (.int 5) = some (.im x5) := by
  show (atD (x0 :: x1 :: x2 :: x3 :: x4 :: x5 :: xs) 5).map Sl.im = _
  rw [at5]
  rfl
theorem cut1 {α : Type} (x0 : α) (xs : List α) : DL.cutD (x0 :: xs) (some 1) none = xs := by
  have e : HT.sIx (x0 :: xs).length 0 (some 1) = 1 := by
    have h := HT.sIx_nat (x0 :: xs).length 0 1
    rw [show (((1 : Nat) : Int)) = 1 from rfl] at h
    rw [h]
    simp only [List.length_cons]
    omega
  unfold DL.cutD
  rw [e]
  show (((x0 :: xs).drop 1).take ((x0 :: xs).length - 1)) = xs
  have e2 : (x0 :: xs).length - 1 = xs.length := by
    simp only [List.length_cons]
    omega
  rw [e2]
  exact List.take_length
@[simp] theorem ev_slL1 (x0 : D) (xs : List D) : dSl (.lst (x0 :: xs)) (some 1) none = some (.ol xs) := by
  show some (Sl.ol (DL.cutD (x0 :: xs) (some 1) none)) = _
  rw [cut1]
theorem cut2 {α : Type} (x0 x1 : α) (xs : List α) : DL.cutD (x0 :: x1 :: xs) (some 2) none = xs := by
  have e : HT.sIx (x0 :: x1 :: xs).length 0 (some 2) = 2 := by
    have h := HT.sIx_nat (x0 :: x1 :: xs).length 0 2
    rw [show (((2 : Nat) : Int)) = 2 from rfl] at h
    rw [h]
    simp only [List.length_cons]
    omega
  unfold DL.cutD
  rw [e]
  show (((x0 :: x1 :: xs).drop 2).take ((x0 :: x1 :: xs).length - 2)) = xs
  have e2 : (x0 :: x1 :: xs).length - 2 = xs.length := by
    simp only [List.length_cons]
    omega
  rw [e2]
  exact List.take_length
@[simp] theorem ev_slL2 (x0 x1 : D) (xs : List D) : dSl (.lst (x0 :: x1 :: xs)) (some 2) none = some (.ol xs) := by
  show some (Sl.ol (DL.cutD (x0 :: x1 :: xs) (some 2) none)) = _
  rw [cut2]
theorem tl_colon : TL.tl (": " : Str) = [58, 32] := by decide +kernel
theorem tl_colon1 : TL.tl (":" : Str) = [58] := by decide +kernel
theorem tl_kinds : TL.tl ("kinds" : Str) = [107, 105, 110, 100, 115] := by decide +kernel
theorem tl_kindsp : TL.tl ("kinds " : Str) = [107, 105, 110, 100, 115, 32] := by decide +kernel
theorem tl_empty : TL.tl ("" : Str) = [] := by decide +kernel
theorem joinL_cons (S p : List Nat) (q : List Nat) (r : List (List Nat)) : TL.joinL S (p :: q :: r) = p ++ (S ++ TL.joinL S (q :: r)) := rfl
def markOf (r : Rec) : Str := if r.ps = [] then digS r.own.toNat else digS r.own.toNat ++ (":" : Str)
def wordsOf (r : Rec) : List Str := r.k :: markOf r :: r.ps
theorem rline_eq (r : Rec) : rline r = Txt.join sp (wordsOf r) := by
  obtain ⟨k, o, ps⟩ := r
  apply TL.ext_tl
  unfold rline wordsOf markOf
  cases ps with
  | nil =>
    simp only [if_true, TL.join_eq, TL.tl_join, TL.tl_append, List.map_cons, List.map_nil, joinL_cons, TL.joinL, tl_sp, tl_empty, List.append_nil, List.append_assoc]
  | cons p ps =>
    rw [TL.join_eq, TL.join_eq]
    simp only [reduceCtorEq, if_false, TL.tl_append, TL.tl_join, List.map_cons, joinL_cons, tl_sp, tl_colon, tl_colon1, List.append_assoc]
    simp
theorem kline_eq {ks : List Str} (h : ks ≠ []) : kline ks = Txt.join sp (("kinds" : Str) :: ks) := by
  apply TL.ext_tl
  unfold kline
  rw [TL.join_eq, TL.join_eq]
  cases ks with
  | nil => exact absurd rfl h
  | cons k ks =>
    simp only [TL.tl_append, TL.tl_join, List.map_cons, joinL_cons, tl_sp, tl_kinds, tl_kindsp, List.append_assoc]
    simp
theorem NameOk.free {x : Str} {n s : Nat} (hn : n < 10) (h : NameOk x n) (hs : s < 48) : s ∉ TL.tl x := by
  obtain ⟨c, mid, e, h1, h2, h3⟩ := h
  rw [e]
  unfold isLet at h1 h3
  unfold isDig at h3
  simp only [List.cons_append, List.mem_cons, List.mem_append, List.not_mem_nil, or_false, not_or]
  refine ⟨by omega, fun hm => ?_, by omega⟩
  have := h3 s hm
  omega
theorem mark_free {r : Rec} (ho : r.own.toNat < 10) {s : Nat} (hs : s < 48) : s ∉ TL.tl (markOf r) := by
  unfold markOf
  split
  · rw [tl_digit ho]; simp; omega
  · rw [TL.tl_append, tl_digit ho, tl_colon1]; simp; omega
/-- names and their like -/
def Nm (x : Str) : Prop := ∃ n, n < 3 ∧ NameOk x n
theorem words_free {r : Rec} (ho : r.own.toNat < 10) (hk : Nm r.k) (hp : ∀ p ∈ r.ps, Nm p) {s : Nat} (hs : s < 48) : ∀ w ∈ wordsOf r, s ∉ TL.tl w := by
  intro w hw
  unfold wordsOf at hw
  rcases List.mem_cons.mp hw with rfl | hw
  · obtain ⟨n, hn, h⟩ := hk
    exact h.free (by omega) hs
  · rcases List.mem_cons.mp hw with rfl | hw
    · exact mark_free ho hs
    · obtain ⟨n, hn, h⟩ := hp w hw
      exact h.free (by omega) hs
theorem kind_sp : sp.cps.all (· < 256) = true := by decide +kernel
theorem kind_nl : nl.cps.all (· < 256) = true := by decide +kernel
theorem split_rline {r : Rec} (ho : r.own.toNat < 10) (hk : Nm r.k) (hp : ∀ p ∈ r.ps, Nm p) : Txt.split (rline r) sp = wordsOf r := by
  rw [rline_eq]
  exact TL.split_join tl_sp kind_sp (by simp [wordsOf]) (words_free ho hk hp (by decide))
theorem joinL_free {s t : Nat} (h : s ≠ t) : ∀ {l : List (List Nat)}, (∀ x ∈ l, s ∉ x) → s ∉ TL.joinL [t] l
  | [], _ => by simp [TL.joinL]
  | [x], hx => by simpa [TL.joinL] using hx x (by simp)
  | x :: y :: l, hx => by
    have h1 := hx x (by simp)
    have h2 := joinL_free h (l := y :: l) fun z hz => hx z (List.mem_cons_of_mem _ hz)
    rw [joinL_cons]
    simp only [List.mem_append, List.mem_singleton, not_or]
    exact ⟨h1, h, h2⟩
theorem join_free {s : Nat} (h : s ≠ 32) {l : List Str} (hx : ∀ x ∈ l, s ∉ TL.tl x) : s ∉ TL.tl (Txt.join sp l) := by
  rw [TL.join_eq, TL.tl_join, tl_sp]
  refine joinL_free h fun x hx2 => ?_
  obtain ⟨y, hy, rfl⟩ := List.mem_map.mp hx2
  exact hx y hy
/-! ### numbers -/
def fm_number_of : List D → Option Sl := runP g_number_of 2
theorem dig1 : digS 1 = ("1" : Str) := by decide +kernel
theorem dig2 : digS 2 = ("2" : Str) := by decide +kernel
theorem dig3 : digS 3 = ("3" : Str) := by decide +kernel
theorem number1 : fm_number_of [.str ("1" : Str)] = some (.im (.int 1)) := by kernel_rfl
theorem number2 : fm_number_of [.str ("2" : Str)] = some (.im (.int 2)) := by kernel_rfl
theorem number3 : fm_number_of [.str ("3" : Str)] = some (.im (.int 3)) := by kernel_rfl
theorem all_true {α : Type} (xs : List α) : gAll [.lst (xs.map fun _ => .bl true)] = some (.im (.bl true)) := by
  have : asB (xs.map fun _ => .bl true) = some (xs.map fun _ => true) := by
    induction xs with
    | nil => rfl
    | cons x xs ih => simp [asB, ih]
  simp [gAll, this]
theorem sq_to {g g' : SF} {ρ : En} {o : Option Out} (ρ' : En) (h1 : g ρ = some (.nx ρ')) (h2 : g' ρ' = o) : sSeq g g' ρ = o := by
  show (match g ρ with
    | some (.nx ρ') => g' ρ'
    | o => o) = o
  rw [h1]
  exact h2
theorem runP_rt {g : SF} {n : Nat} {ds : List D} {s : Sl} {ρ : En} (h : g (startE n ds) = some (.rt s ρ)) : runP g n ds = some s := by
  unfold runP
  rw [h]
/-! ### told_recipe -/
def fm_told_recipe : List D → Option Sl := runP (g_told_recipe fm_number_of fm_is_between) 6
theorem told_recipe_ok {r : Rec} {ks : List Str} (h1 : 1 ≤ r.own) (h3 : r.own ≤ 3) (hl : r.ps.length ≤ 3) (hk : Nm r.k) (hp : ∀ p ∈ r.ps, Nm p) (mk : r.k ∈ ks) (mp : ∀ p ∈ r.ps, p ∈ ks) :
    fm_told_recipe [.str (rline r), .tup (ks.map .str)] = some (.im (enc r)) := by
  have hsp := split_rline (r := r) (by omega) hk hp
  have hlen : (rline r).length ≤ 100000 := by
    have := rline_len (r := r) (by obtain ⟨n, _, h⟩ := hk; exact h.len.1) (by omega) (fun p hp2 => by obtain ⟨n, _, h⟩ := hp p hp2; exact h.len.1) hl
    omega
  have hs0 : ((" " : Str).length == 0) = false := by decide +kernel
  have hd : dSplit (.str (rline r)) (.str " ") = some (.ol ((wordsOf r).map .str)) := by
    show (if ((" " : Str).length == 0) = false ∧ (rline r).length ≤ big then some (Sl.ol ((Txt.split (rline r) sp).map .str)) else none) = _
    rw [if_pos ⟨hs0, hlen⟩, hsp]
  have hb : fm_is_between [.int r.own, .int 1, .int 9] = some (.im (.bl true)) := by
    rw [is_between_at (.int r.own) rfl 1 9]
    have : r.own ≤ 9 := by omega
    simp [h1, this]
  have hn : fm_number_of [.str (digS r.own.toNat)] = some (.im (.int r.own)) := by
    have : r.own = 1 ∨ r.own = 2 ∨ r.own = 3 := by omega
    rcases this with e | e | e <;> rw [e]
    · exact number1
    · exact number2
    · exact number3
  have hc : cutS (digS r.own.toNat ++ (":" : Str)) none (some (-1)) = digS r.own.toNat := by
    have : r.own = 1 ∨ r.own = 2 ∨ r.own = 3 := by omega
    rcases this with e | e | e <;> rw [e]
    · show cutS (digS 1 ++ (":" : Str)) none (some (-1)) = digS 1
      decide +kernel
    · show cutS (digS 2 ++ (":" : Str)) none (some (-1)) = digS 2
      decide +kernel
    · show cutS (digS 3 ++ (":" : Str)) none (some (-1)) = digS 3
      decide +kernel
  have he : Txt.endswith (digS r.own.toNat ++ (":" : Str)) (":" : Str) = true := by
    have : r.own = 1 ∨ r.own = 2 ∨ r.own = 3 := by omega
    rcases this with e | e | e <;> rw [e]
    · show Txt.endswith (digS 1 ++ (":" : Str)) (":" : Str) = true
      decide +kernel
    · show Txt.endswith (digS 2 ++ (":" : Str)) (":" : Str) = true
      decide +kernel
    · show Txt.endswith (digS 3 ++ (":" : Str)) (":" : Str) = true
      decide +kernel
  have hl2 : (digS r.own.toNat ++ (":" : Str)).length ≤ 100000 := by
    rw [len_app, digS_len (by omega)]
    have : (":" : Str).length = 1 := by decide +kernel
    omega
  have hall : ∀ x2 x3 x4, lcF (gN 5) tTrue (eB (dIn false) (eV 5) (eV 1)) [5] ((r.k :: r.ps).map .str) [some (.im (.str (rline r))), some (.im (.tup (ks.map .str))), x2, x3, x4, none] = some ((r.k :: r.ps).map (fun _ => .bl true), [some (.im (.str (rline r))), some (.im (.tup (ks.map .str))), x2, x3, x4, none]) := fun x2 x3 x4 => by
    have := lc_map (gb := gN 5) (t := tTrue) (fe := eB (dIn false) (eV 5) (eV 1)) (vs := [5]) (ρ := [some (.im (.str (rline r))), some (.im (.tup (ks.map .str))), x2, x3, x4, none]) (fun _ => .bl true) (ds := (r.k :: r.ps).map .str) (by
      intro d hd
      obtain ⟨x, hx, rfl⟩ := List.mem_map.mp hd
      have hm : x ∈ ks := by
        rcases List.mem_cons.mp hx with rfl | hx
        · exact mk
        · exact mp x hx
      refine ⟨_, rfl, .inr ⟨_, _, [some (.im (.str (rline r))), some (.im (.tup (ks.map .str))), x2, x3, x4, some (.im (.str x))], rfl, rfl, ?_, rfl⟩⟩
      simp [in_strs, hm])
    rw [this, List.map_map]
    rfl
  have hga := all_true (r.k :: r.ps)
  obtain ⟨k, o, ps⟩ := r
  simp only at *
  cases ps with
  | nil => 
    simp only [wordsOf, markOf, if_true, List.map_cons, List.map_nil] at hd hall hga
    simp [fm_told_recipe, runP, g_told_recipe, startE, hd, hn, hb, hall, hga, enc]
  | cons p ps =>
    simp only [wordsOf, markOf, reduceCtorEq, if_false, List.map_cons, List.map_nil] at hd hall hga
    simp only [List.length_cons] at hl
    have c1 : (ps.length : Int) + 1 + 1 + 1 ≤ 5 := by omega
    have c2 : (2 : Int) < (ps.length : Int) + 1 + 1 + 1 := by omega
    have c4 : ps.length + 1 + 1 ≤ 100000 := by omega
    have c3 : (2 : Int) ≤ (ps.length : Int) + 1 + 1 + 1 := by omega
    refine runP_rt (ρ := [some (.im (.str (rline ⟨k, o, p :: ps⟩))), some (.im (.tup (ks.map .str))), some (.im (.lst (.str k :: .str (digS o.toNat ++ (":" : Str)) :: .str p :: ps.map .str))), some (.im (.str (digS o.toNat))), some (.im (.int o)), none]) ?_
    refine sq_to [some (.im (.str (rline ⟨k, o, p :: ps⟩))), some (.im (.tup (ks.map .str))), some (.im (.lst (.str k :: .str (digS o.toNat ++ (":" : Str)) :: .str p :: ps.map .str))), none, none, none] (by simp [startE, hd]) ?_
    refine sq_to _ (by simp [c1, c3]; rfl) ?_
    refine sq_to _ (by simp; rfl) ?_
    refine sq_to [some (.im (.str (rline ⟨k, o, p :: ps⟩))), some (.im (.tup (ks.map .str))), some (.im (.lst (.str k :: .str (digS o.toNat ++ (":" : Str)) :: .str p :: ps.map .str))), some (.im (.str (digS o.toNat))), none, none] (by simp [c2, dEndsw, he, dSl, hl2, hc]) ?_
    refine sq_to _ (by simp [hn]; rfl) ?_
    refine sq_to _ (by simp [hb]; rfl) ?_
    refine sq_to _ (by simp [hall, hga, c4]; rfl) ?_
    simp [enc]
end WK

set_option Elab.async false
set_option linter.all false
set_option maxRecDepth 100000
set_option maxHeartbeats 4000000
namespace WK
open PySem PySem.Spec PyProof.Rows L2 DL
theorem okD_strs {xs : List Str} (h : ∀ x ∈ xs, PyData.strOk x = true) : okD (.tup (xs.map .str)) 1 = true := by
  unfold okD
  refine okL_iff.mpr fun d hd => ?_
  obtain ⟨x, hx, rfl⟩ := List.mem_map.mp hd
  simpa [okD] using h x hx
theorem eq_tup0 (neg : Bool) {xs : List Str} (h : ∀ x ∈ xs, PyData.strOk x = true) : dEq neg (.tup (xs.map .str)) (.tup []) = some (.im (.bl (if neg then !decide (xs = []) else decide (xs = [])))) := by
  have h1 : (D.tup (xs.map .str)).shp = true := shp_of (okD_mono (by decide) (okD_strs h))
  have h2 : (D.tup []).shp = true := shp_of rfl
  have h3 : D.eqv (.tup (xs.map .str)) (.tup []) = decide (xs = []) := by
    cases xs <;> simp [D.eqv, eqvL]
  unfold dEq
  rw [h1, h2, h3]
  simp
@[simp] theorem ev_appS (xs : List D) (d : D) : mApp xs [d] = if xs.length < big then some (.non, xs ++ [d]) else none := rfl
theorem add_str {a b : Str} (h : a.length + b.length ≤ 100000) : dAdd (.str a) (.str b) = some (.im (.str (a ++ b))) := by
  show (if a.length + b.length ≤ big then some (Sl.im (.str (a ++ b))) else none) = _
  rw [if_pos h]
theorem join_tup {xs : List Str} {n : Nat} (h : ∀ x ∈ xs, x.length ≤ n) (hl : xs.length * (n + 1) ≤ 100000) : dJoin (.str (" " : Str)) (.tup (xs.map .str)) = some (.im (.str (Txt.join sp xs))) := by
  have h1 := sum_le h
  have e1 : (" " : Str).length = 1 := by decide +kernel
  have e2 : xs.length * (n + 1) = xs.length * n + xs.length := by rw [Nat.mul_add]; omega
  show (match asS (xs.map D.str) with
    | some zs => if (zs.map fun (z : Str) => z.length).sum + zs.length * (" " : Str).length ≤ 16777216 then some (Sl.im (.str (Txt.join (" " : Str) zs))) else none
    | none => none) = _
  rw [asS_map]
  simp only [e1]
  rw [if_pos (by omega)]
theorem join_lst {s : Str} (e1 : s.length = 1) {xs : List Str} {n : Nat} (h : ∀ x ∈ xs, x.length ≤ n) (hl : xs.length * (n + 1) ≤ 100000) : dJoin (.str s) (.lst (xs.map .str)) = some (.im (.str (Txt.join s xs))) := by
  have h1 := sum_le h
  have e2 : xs.length * (n + 1) = xs.length * n + xs.length := by rw [Nat.mul_add]; omega
  show (match asS (xs.map D.str) with
    | some zs => if (zs.map fun (z : Str) => z.length).sum + zs.length * s.length ≤ 16777216 then some (Sl.im (.str (Txt.join s zs))) else none
    | none => none) = _
  rw [asS_map]
  simp only [e1]
  rw [if_pos (by omega)]
theorem Nm.len {x : Str} (h : Nm x) : x.length ≤ 4 ∧ 2 ≤ x.length := by obtain ⟨n, _, h⟩ := h; exact h.len
theorem Nm.sok {x : Str} (h : Nm x) : PyData.strOk x = true := by obtain ⟨n, hn, h⟩ := h; exact h.sok (by omega)
theorem Nm.free {x : Str} {s : Nat} (h : Nm x) (hs : s < 48) : s ∉ TL.tl x := by obtain ⟨n, hn, h⟩ := h; exact h.free (by omega) hs
section
variable {ks : List Str} {rs : List Rec} (C : CatOk ks rs)
include C
theorem CatOk.kn {k : Str} (h : k ∈ ks) : Nm k := C.nm k h
theorem CatOk.rt {r : Rec} (h : r ∈ rs) : RecT r := ⟨(C.kn (C.rk r h)).sok, fun p hp => (C.kn (C.rp r h p hp)).sok⟩
theorem CatOk.rlen {r : Rec} (h : r ∈ rs) : (rline r).length ≤ 30 :=
  rline_len (C.kn (C.rk r h)).len.1 (by have := C.o3 r h; omega) (fun p hp => (C.kn (C.rp r h p hp)).len.1) (C.pl r h)
theorem CatOk.klen : (kline ks).length ≤ 30 := kline_len (fun k hk => (C.kn hk).len.1) C.l
/-- one line -/
theorem CatOk.line {r : Rec} (h : r ∈ rs) {x : Option Sl} {ls : List D} (hl : ls.length < 100) :
    (sDrop (eMutV 1 mApp (aCons (eB dAdd (eB dAdd (eB dAdd (eV 2) (eC (.str " "))) (eCa gStr (aCons (eV 3) aNil))) (eIf (tB1 (eB (dEq true) (eV 4) (eTup aNil))) (eB dAdd (eC (.str ": ")) (eB dJoin (eC (.str " ")) (eV 4))) (eC (.str "")))) aNil)))
      [x, some (.ol ls), some (.im (.str r.k)), some (.im (.int r.own)), some (.im (.tup (r.ps.map .str)))]
      = some (.nx [x, some (.ol (ls ++ [.str (rline r)])), some (.im (.str r.k)), some (.im (.int r.own)), some (.im (.tup (r.ps.map .str)))]) := by
  have ho1 := C.o1 r h
  have ho3 := C.o3 r h
  have hk := (C.kn (C.rk r h)).len.1
  have eo : r.own = ((r.own.toNat : Nat) : Int) := by omega
  have hg : gStr [.int r.own] = some (.im (.str (digS r.own.toNat))) := by
    rw [eo, Int.toNat_natCast]
    exact gStr_dig (by omega)
  have hd := digS_len (n := r.own.toNat) (by omega)
  have e1 : (" " : Str).length = 1 := by decide +kernel
  have e2 : (": " : Str).length = 2 := by decide +kernel
  have e3 : ("" : Str).length = 0 := by decide +kernel
  have a1 := add_str (a := r.k) (b := (" " : Str)) (by omega)
  have l1 : (r.k ++ (" " : Str)).length ≤ 5 := by rw [len_app]; omega
  have a2 := add_str (a := r.k ++ (" " : Str)) (b := digS r.own.toNat) (by omega)
  have l2 : (r.k ++ (" " : Str) ++ digS r.own.toNat).length ≤ 6 := by rw [len_app]; omega
  have hpl : ∀ p ∈ r.ps, p.length ≤ 4 := fun p hp => (C.kn (C.rp r h p hp)).len.1
  have hpn := C.pl r h
  have j1 := join_tup hpl (by omega)
  have jl := join_len hpl
  have a3 := add_str (a := (": " : Str)) (b := Txt.join sp r.ps) (by omega)
  have l3 : ((": " : Str) ++ Txt.join sp r.ps).length ≤ 17 := by rw [len_app]; omega
  have a4 := add_str (a := r.k ++ (" " : Str) ++ digS r.own.toNat) (b := (": " : Str) ++ Txt.join sp r.ps) (by omega)
  have a5 := add_str (a := r.k ++ (" " : Str) ++ digS r.own.toNat) (b := ("" : Str)) (by omega)
  have q := eq_tup0 true (xs := r.ps) fun p hp => (C.kn (C.rp r h p hp)).sok
  have hls : ls.length < 100000 := by omega
  by_cases hp : r.ps = []
  · have e : rline r = r.k ++ (" " : Str) ++ digS r.own.toNat ++ ("" : Str) := by unfold rline; rw [if_pos hp]
    rw [e]
    rw [hp] at q
    simp at q
    simp [a1, a2, hg, hp, q, a5, hls]
  · have e : rline r = r.k ++ (" " : Str) ++ digS r.own.toNat ++ ((": " : Str) ++ Txt.join sp r.ps) := by unfold rline; rw [if_neg hp]
    rw [e]
    simp [hp] at q
    simp [a1, a2, hg, q, j1, a3, a4, hls]
theorem CatOk.text : fm_text [encC ks rs] = some (.im (.str (textOf ks rs))) := by
  have e6 : ("kinds " : Str).length = 6 := by decide +kernel
  have hkl : ∀ k ∈ ks, k.length ≤ 4 := fun k hk => (C.kn hk).len.1
  have hl3 := C.l
  have hr8 := C.rl
  have j0 := join_tup hkl (by omega)
  have jl := join_len hkl
  have a0 := add_str (a := ("kinds " : Str)) (b := Txt.join sp ks) (by omega)
  obtain ⟨ρ', hf, z2, z3, z4, hρ⟩ := for_ok (gb := gTU 3 (gsCons (gN 2) (gsCons (gN 3) (gsCons (gN 4) gsNil)))) (body := sDrop (eMutV 1 mApp (aCons (eB dAdd (eB dAdd (eB dAdd (eV 2) (eC (.str " "))) (eCa gStr (aCons (eV 3) aNil))) (eIf (tB1 (eB (dEq true) (eV 4) (eTup aNil))) (eB dAdd (eC (.str ": ")) (eB dJoin (eC (.str " ")) (eV 4))) (eC (.str "")))) aNil))) (all := rs.map enc)
    (fun pre ρ => ∃ (z2 z3 z4 : Option Sl), ρ = [some (.im (encC ks rs)), some (.ol ((kline ks :: (rs.take pre.length).map rline).map .str)), z2, z3, z4])
    (ρ := [some (.im (encC ks rs)), some (.ol [.str (("kinds " : Str) ++ Txt.join sp ks)]), none, none, none]) ⟨none, none, none, rfl⟩ (by
      rintro pre d post ρ hall ⟨z2, z3, z4, rfl⟩
      have hd : d ∈ rs.map enc := by rw [hall]; simp
      have hlt : pre.length < rs.length := by
        have := congrArg List.length hall
        simp at this
        omega
      have he : d = enc rs[pre.length] := by
        have h1 : (rs.map enc)[pre.length]? = some d := by rw [hall]; simp
        rw [List.getElem?_map, List.getElem?_eq_getElem hlt] at h1
        exact (Option.some.inj h1).symm
      subst he
      refine ⟨[some (.im (encC ks rs)), some (.ol ((kline ks :: (rs.take pre.length).map rline).map .str)), some (.im (.str rs[pre.length].k)), some (.im (.int rs[pre.length].own)), some (.im (.tup (rs[pre.length].ps.map .str)))], _, rfl, .inl (C.line (List.getElem_mem hlt) (by simp; omega)), some (.im (.str rs[pre.length].k)), some (.im (.int rs[pre.length].own)), some (.im (.tup (rs[pre.length].ps.map .str))), ?_⟩
      have e : (pre ++ [enc rs[pre.length]]).length = pre.length + 1 := by simp
      rw [e, List.take_succ_eq_append_getElem hlt]
      simp only [List.map_append, List.map_cons, List.map_nil, List.cons_append])
  have hj := join_lst (s := nl) (by decide +kernel) (xs := kline ks :: rs.map rline) (n := 30) (by
    intro x hx
    rcases List.mem_cons.mp hx with rfl | hx
    · exact C.klen
    · obtain ⟨r, hr, rfl⟩ := List.mem_map.mp hx
      exact C.rlen hr) (by simp only [List.length_cons, List.length_map]; omega)
  have ht : rs.take (rs.map enc).length = rs := List.take_of_length_le (by simp)
  rw [ht] at hρ
  subst hρ
  have hj2 : dJoin (.str ("\n" : Str)) (.lst ((kline ks :: rs.map rline).map .str)) = some (.im (.str (textOf ks rs))) := hj
  refine runP_rt (ρ := [some (.im (encC ks rs)), some (.im (.lst ((kline ks :: rs.map rline).map .str))), z2, z3, z4]) ?_
  refine sq_to [some (.im (encC ks rs)), some (.ol [.str (("kinds " : Str) ++ Txt.join sp ks)]), none, none, none] ?_ ?_
  · simp [startE, encC, j0, a0]
  refine sq_to [some (.im (encC ks rs)), some (.ol ((kline ks :: rs.map rline).map .str)), z2, z3, z4] ?_ ?_
  · simp only [ev_sFor, ev_bnd, ev_iAny, ev_eD, ev_eB, ev_eV, ev_eC, encC, List.getElem?_cons_zero, ev_im, ev_ixT1] at hf ⊢
    exact hf
  · simp only [ev_sRet, ev_bnd, ev_eD, ev_eB, ev_eV, ev_eC, ev_im, ev_ol, List.getElem?_cons_succ, List.getElem?_cons_zero, hj2]
    rfl
end
end WK

set_option Elab.async false
set_option linter.all false
set_option maxRecDepth 100000
set_option maxHeartbeats 4000000
namespace WK
open PySem PySem.Spec PyProof.Rows L2 DL
/-! ### names, told -/
instance (c : Nat) : Decidable (isLet c) := inferInstanceAs (Decidable (97 ≤ c ∧ c ≤ 122))
instance (c : Nat) : Decidable (isDig c) := inferInstanceAs (Decidable (48 ≤ c ∧ c ≤ 57))
def fm_is_name : List D → Option Sl := runP g_is_name 2
theorem Nm.is_name {x : Str} (h : Nm x) : fm_is_name [.str x] = some (.im (.bl true)) := by
  have hl := h.len
  obtain ⟨n, hn, c, mid, e, h1, h2, h3⟩ := h
  have hx : x.length ≤ 100000 := by omega
  have hl8 : (x.length : Int) ≤ 8 := by omega
  have hl1 : (1 : Int) ≤ x.length := by omega
  have hat : dIx (.str x) (.int 0) = some (.im (.str ⟨#[c]⟩)) := by
    show (if x.length ≤ big then (atD x.cps.toList 0).map fun c => Sl.im (.str ⟨#[c]⟩) else none) = _
    rw [if_pos hx]
    have : x.cps.toList = c :: (mid ++ [48 + n]) := e
    rw [this, at0]
    rfl
  have one : ∀ c : Nat, one? (⟨#[c]⟩ : Str) = some c := fun c => rfl
  have inL : ∀ c, dIn false (.str ⟨#[c]⟩) (.str sAZ) = some (.im (.bl (decide (isLet c)))) := fun c => by
    show (one? (⟨#[c]⟩ : Str)).map (fun c => Sl.im (.bl (decide (c ∈ TL.tl sAZ)))) = _
    rw [one]
    simp only [Option.map_some]
    rw [decide_eq_decide.mpr mem_az]
  have inD : ∀ c, dIn false (.str ⟨#[c]⟩) (.str s09) = some (.im (.bl (decide (isDig c)))) := fun c => by
    show (one? (⟨#[c]⟩ : Str)).map (fun c => Sl.im (.bl (decide (c ∈ TL.tl s09)))) = _
    rw [one]
    simp only [Option.map_some]
    rw [decide_eq_decide.mpr mem_09]
  have inL0 : dIn true (.str ⟨#[c]⟩) (.str sAZ) = some (.im (.bl false)) := by
    show (one? (⟨#[c]⟩ : Str)).map (fun c => Sl.im (.bl (!decide (c ∈ TL.tl sAZ)))) = _
    rw [one]
    simp only [Option.map_some, mem_az.mpr h1]
    rfl
  have hall : lcF (gN 1) tTrue (eOr (eB (dIn false) (eV 1) (eC (.str sAZ))) (eB (dIn false) (eV 1) (eC (.str s09)))) [1] (chars x) [some (.im (.str x)), none] = some ((chars x).map (fun _ => .bl true), [some (.im (.str x)), none]) := by
    refine lc_map (fun _ => .bl true) fun d hd => ?_
    unfold chars at hd
    obtain ⟨d, hdm, rfl⟩ := List.mem_map.mp hd
    have hd2 : isLet d ∨ isDig d := by
      have : d ∈ c :: mid ++ [48 + n] := e ▸ hdm
      rcases List.mem_append.mp this with q | q
      · rcases List.mem_cons.mp q with rfl | q
        · exact .inl h1
        · exact h3 d q
      · rw [List.mem_singleton.mp q]
        exact .inr ⟨by omega, by omega⟩
    refine ⟨_, rfl, .inr ⟨_, _, [some (.im (.str x)), some (.im (.str ⟨#[d]⟩))], rfl, rfl, ?_, rfl⟩⟩
    by_cases hL : isLet d
    · simp [inL, hL]
    · have hD := hd2.resolve_left hL
      simp [inL, hL, inD, hD]
  have hga := all_true (chars x)
  have hcl : (chars x).length ≤ 100000 := by
    unfold chars
    rw [List.length_map, ← TL.len_tl]
    exact hx
  have hlen : gLen [.str x] = some (.im (.int (x.length : Nat))) := by
    show (if x.length ≤ big then some x.length else none).map (fun n : Nat => Sl.im (.int n)) = _
    rw [if_pos hx]
    rfl
  refine runP_rt (ρ := [some (.im (.str x)), none]) (sq_to [some (.im (.str x)), none] ?_ ?_)
  · simp [startE, gIsi, DL.D.ty, hlen, hl8, hl1, hat, inL0]
  · simp [hcl, hall, hga]
/-! ### the sets of texts, of recipes -/
theorem nub_str {ks : List Str} (h : ks.Nodup) (hl : ks.length < 4000) : dLenSet (.tup (ks.map .str)) = some ks.length := by
  show (match asS (ks.map .str) with
    | some ss => if ss.length < 4000 then some (nub ss).length else none
    | none => _) = _
  rw [asS_map]
  simp only
  rw [if_pos hl, nub_nodup h]
def nk (r : Rec) : NK := .tup [.text r.k, .num r.own, .tup (r.ps.map .text)]
theorem mkNs_str : ∀ xs : List Str, mkNs (xs.map .str) = some (xs.map .text)
  | [] => rfl
  | x :: xs => by
    rw [List.map_cons]
    unfold mkNs
    rw [mkNs_str xs]
    rfl
theorem mkN_enc (r : Rec) : mkN (enc r) = some (nk r) := by
  unfold enc nk
  simp only [mkN, mkNs, mkNs_str, Option.map_some]
theorem mkNs_enc : ∀ rs : List Rec, mkNs (rs.map enc) = some (rs.map nk)
  | [] => rfl
  | r :: rs => by
    rw [List.map_cons]
    unfold mkNs
    rw [mkN_enc, mkNs_enc rs]
    rfl
theorem text_inj : ∀ {xs ys : List Str}, xs.map NestedKey.text = ys.map NestedKey.text → xs = ys
  | [], [], _ => rfl
  | [], _ :: _, h => by simp at h
  | _ :: _, [], h => by simp at h
  | x :: xs, y :: ys, h => by
    simp only [List.map_cons, List.cons.injEq, NestedKey.text.injEq] at h
    rw [h.1, text_inj h.2]
theorem nk_inj {r s : Rec} (h : nk r = nk s) : r = s := by
  obtain ⟨k, o, ps⟩ := r
  obtain ⟨k', o', ps'⟩ := s
  unfold nk at h
  simp only [NestedKey.tup.injEq, List.cons.injEq, NestedKey.text.injEq, NestedKey.num.injEq, and_true] at h
  rw [h.1, h.2.1, text_inj h.2.2]
theorem depth_texts (xs : List Str) : NestedKey.depthAll (xs.map .text) = 0 := by
  induction xs with
  | nil => rfl
  | cons x xs ih => simp [NestedKey.depthAll, NestedKey.depth, ih]
theorem nub_rec {rs : List Rec} (h : rs.Nodup) (hl : rs.length < 64) : dLenSet (.tup (rs.map enc)) = some rs.length := by
  cases rs with
  | nil => rfl
  | cons r rs =>
    have e0 : asS ((r :: rs).map enc) = none := rfl
    have hd : ∀ k ∈ (r :: rs).map nk, k.depth ≤ 8 := fun k hk => by
      obtain ⟨s, _, rfl⟩ := List.mem_map.mp hk
      simp [nk, NestedKey.depth, NestedKey.depthAll, depth_texts]
    have hn : ((r :: rs).map nk).Nodup := by
      have := List.pairwise_map (f := nk) (R := (· ≠ ·)) (l := r :: rs)
      refine this.mpr (h.imp fun {a b} hab e => hab (nk_inj e))
    have ht : ((r :: rs).map enc).all D.isTup = true := by simp [List.all_map, D.isTup, enc]
    show (match asS ((r :: rs).map enc) with
      | some ss => if ss.length < 4000 then some (nub ss).length else none
      | none => match mkNs ((r :: rs).map enc) with
        | some ks => if ks.length < 64 ∧ (∀ k ∈ ks, k.depth ≤ 8) ∧ ((r :: rs).map enc).all D.isTup = true then some (nub ks).length else none
        | none => none) = _
    rw [e0, mkNs_enc]
    simp only
    rw [if_pos ⟨by simpa using hl, hd, ht⟩, nub_nodup hn]
    simp
end WK

namespace WK
open PySem PySem.Spec PyProof.Rows L2 DL
/-! ### told_catalogue -/
def fm_told_catalogue : List D → Option Sl := runP (g_told_catalogue fm_told_recipe fm_is_name) 7
theorem CatOk.told {ks : List Str} {rs : List Rec} (C : CatOk ks rs) : fm_told_catalogue [.str (textOf ks rs)] = some (.im (encC ks rs)) := by
  have hl3 := C.l
  have hr8 := C.rl
  -- the lines
  have hfree : ∀ l ∈ kline ks :: rs.map rline, 10 ∉ TL.tl l := by
    intro l hl
    rcases List.mem_cons.mp hl with rfl | hl
    · rw [kline_eq (by intro e; rw [e] at hl3; simp at hl3)]
      refine join_free (by decide) fun x hx => ?_
      rcases List.mem_cons.mp hx with rfl | hx
      · rw [tl_kinds]; decide
      · exact (C.kn hx).free (by decide)
    · obtain ⟨r, hr, rfl⟩ := List.mem_map.mp hl
      rw [rline_eq]
      refine join_free (by decide) (words_free (by have := C.o3 r hr; omega) (C.kn (C.rk r hr)) (fun p hp => C.kn (C.rp r hr p hp)) (by decide))
  have hlines : ∀ l ∈ kline ks :: rs.map rline, l.length ≤ 30 := by
    intro x hx
    rcases List.mem_cons.mp hx with rfl | hx
    · exact C.klen
    · obtain ⟨r, hr, rfl⟩ := List.mem_map.mp hx
      exact C.rlen hr
  have hsplit : Txt.split (textOf ks rs) nl = kline ks :: rs.map rline := TL.split_join tl_nl kind_nl (by simp) hfree
  have htl : (textOf ks rs).length ≤ 100000 := by
    unfold textOf
    rw [TL.join_eq, TL.len_tl, TL.tl_join, tl_nl]
    have := joinL_len 10 ((kline ks :: rs.map rline).map TL.tl) 30 fun x hx => by
      obtain ⟨y, hy, rfl⟩ := List.mem_map.mp hx
      rw [← TL.len_tl]
      exact hlines y hy
    simp only [List.length_map, List.length_cons] at this
    omega
  have d1 : dSplit (.str (textOf ks rs)) (.str ("\n" : Str)) = some (.ol (.str (kline ks) :: (rs.map rline).map .str)) := by
    show (if (nl.length == 0) = false ∧ (textOf ks rs).length ≤ big then some (Sl.ol ((Txt.split (textOf ks rs) nl).map .str)) else none) = _
    rw [if_pos ⟨by decide +kernel, htl⟩, hsplit]
    rfl
  have hksplit : Txt.split (kline ks) sp = ("kinds" : Str) :: ks := by
    rw [kline_eq (by intro e; rw [e] at hl3; simp at hl3)]
    refine TL.split_join tl_sp kind_sp (by simp) fun x hx => ?_
    rcases List.mem_cons.mp hx with rfl | hx
    · rw [tl_kinds]; decide
    · exact (C.kn hx).free (by decide)
  have d2 : dSplit (.str (kline ks)) (.str (" " : Str)) = some (.ol (.str ("kinds" : Str) :: ks.map .str)) := by
    have := C.klen
    show (if (sp.length == 0) = false ∧ (kline ks).length ≤ big then some (Sl.ol ((Txt.split (kline ks) sp).map .str)) else none) = _
    rw [if_pos ⟨by decide +kernel, by rw [big_eq]; omega⟩, hksplit]
    rfl
  have d3 := nub_str C.nd (by omega)
  have d4 := nub_rec C.rd (by omega)
  let T : Option Sl := some (.im (.str (textOf ks rs)))
  let L : Option Sl := some (.im (.lst (.str (kline ks) :: (rs.map rline).map .str)))
  let W : Option Sl := some (.im (.lst (.str ("kinds" : Str) :: ks.map .str)))
  let KK : Option Sl := some (.im (.tup (ks.map .str)))
  let R : Option Sl := some (.im (.tup (rs.map enc)))
  have l1 : lcF (gN 5) tTrue (eCall fm_told_recipe (aCons (eV 5) (aCons (eV 3) aNil))) [5] ((rs.map rline).map .str) [T, L, W, KK, none, none, none] = some (rs.map enc, [T, L, W, KK, none, none, none]) := by
    have e : ∀ (qs : List Rec), (∀ r ∈ qs, r ∈ rs) → lcF (gN 5) tTrue (eCall fm_told_recipe (aCons (eV 5) (aCons (eV 3) aNil))) [5] ((qs.map rline).map .str) [T, L, W, KK, none, none, none] = some (qs.map enc, [T, L, W, KK, none, none, none]) := by
      intro qs
      induction qs with
      | nil => intro _; rfl
      | cons r qs ih =>
        intro h
        have hr := h r List.mem_cons_self
        have := told_recipe_ok (C.o1 r hr) (C.o3 r hr) (C.pl r hr) (C.kn (C.rk r hr)) (fun p hp => C.kn (C.rp r hr p hp)) (C.rk r hr) (C.rp r hr)
        have ih2 := ih fun q hq => h q (List.mem_cons_of_mem _ hq)
        simp only [List.map_cons]
        unfold lcF
        simp only [ev_gN, ev_tTrue]
        simp [KK] at ih2
        simp [KK, this, ih2]
    exact e rs fun r hr => hr
  have l2 : lcF (gN 6) tTrue (eCall fm_is_name (aCons (eV 6) aNil)) [6] (ks.map .str) [T, L, W, KK, R, none, none] = some ((ks.map D.str).map (fun _ => .bl true), [T, L, W, KK, R, none, none]) := by
    refine lc_map (fun _ => .bl true) fun d hd => ?_
    obtain ⟨x, hx, rfl⟩ := List.mem_map.mp hd
    refine ⟨_, rfl, .inr ⟨_, _, [T, L, W, KK, R, none, some (.im (.str x))], rfl, rfl, ?_, rfl⟩⟩
    simp [(C.kn hx).is_name]
  have g2 := all_true (ks.map D.str)
  have d5 : dIn false .non (.tup (rs.map enc)) = some (.im (.bl false)) := by
    have h1 : D.non.shp = true := shp_of rfl
    have h2 : (D.lst (rs.map enc)).shp = true := by
      refine shp_of (okD_mono (n := 3) (by decide) ?_)
      unfold okD
      refine okL_iff.mpr fun d hd => ?_
      obtain ⟨q, hq', rfl⟩ := List.mem_map.mp hd
      exact okD_enc (C.rt hq')
    have h3 : ((rs.map enc).any fun y => D.eqv y .non) = false := by
      rw [List.any_eq_false]
      intro d hd
      obtain ⟨q, hq', rfl⟩ := List.mem_map.mp hd
      simp [enc, D.eqv]
    show (seqIn .non (rs.map enc)).map _ = _
    unfold seqIn
    rw [h1, h2, h3]
    simp
  have c1 : (ks.length : Int) = 3 := by omega
  have c2 : (rs.length : Int) ≤ 10 := by omega
  have c3 : rs.length ≤ 100000 := by omega
  have e1 : dEq true (.str ("kinds" : Str)) (.str ("kinds" : Str)) = some (.im (.bl false)) := by
    unfold dEq
    simp [scalD, D.flat, D.eqv]
  have e2 : ∀ n : Nat, dEq false (.int n) (.int n) = some (.im (.bl true)) := by
    intro n
    unfold dEq
    simp [scalD, D.flat, D.eqv]
  refine runP_rt (ρ := [T, L, W, KK, R, none, none]) ?_
  refine sq_to [T, none, none, none, none, none, none] (by simp [startE, gIsi, DL.D.ty, T]) ?_
  refine sq_to [T, L, none, none, none, none, none] (by simp [T, L, d1]) ?_
  refine sq_to [T, L, W, none, none, none, none] (by simp [T, L, W, d2]) ?_
  refine sq_to [T, L, W, KK, none, none, none] (by simp [T, L, W, KK]) ?_
  refine sq_to [T, L, W, KK, none, none, none] (by simp [T, L, W, KK, e1, c1, d3, hl3]) ?_
  refine sq_to [T, L, W, KK, R, none, none] ?_ ?_
  · simp [T, L, W, KK, R] at l1 ⊢
    simp [l1, c3]
  refine sq_to [T, L, W, KK, R, none, none] ?_ ?_
  · simp [T, L, W, KK, R] at l2 g2 ⊢
    simp [l2, g2, d5, hl3]
  · simp [T, L, W, KK, R, d4, e2, c2, encC]
end WK

set_option Elab.async false
set_option linter.all false
set_option maxRecDepth 100000
set_option maxHeartbeats 4000000
namespace WK
open PySem PySem.Spec PyProof.Rows L2 DL
/-! ### ready kinds -/
abbrev Rd := List (Str × Nat)
def encR (rd : Rd) : List (Key × D) := rd.map fun p => (.inr p.1, .int (p.2 : Nat))
def keys (rd : Rd) : List Str := rd.map (·.1)
inductive Rdy (rs : List Rec) : Rd → Prop
  | nil : Rdy rs []
  | snoc {rd : Rd} {i : Nat} {r : Rec} : Rdy rs rd → rs[i]? = some r → (∀ p ∈ r.ps, p ∈ keys rd) → r.k ∉ keys rd → Rdy rs (rd ++ [(r.k, i)])
theorem look_some {k : Str} {i : Nat} : ∀ {rd : Rd}, rd.lookup k = some i → lookD (encR rd) (.inr k) = some (.int (i : Nat))
  | [], h => by cases h
  | (k', j) :: rd, h => by
    show (if (Sum.inr k' : Key) = .inr k then some (D.int j) else lookD (encR rd) (.inr k)) = _
    by_cases e : k = k'
    · subst e
      rw [List.lookup_cons_self] at h
      cases h
      rw [if_pos rfl]
    · have e2 : (k == k') = false := by simpa using e
      rw [List.lookup_cons, e2] at h
      rw [if_neg (fun q => e (Sum.inr.inj q).symm)]
      exact look_some h
theorem look_isSome {k : Str} : ∀ {rd : Rd}, (lookD (encR rd) (.inr k)).isSome = decide (k ∈ keys rd)
  | [] => rfl
  | (k', j) :: rd => by
    show (if (Sum.inr k' : Key) = .inr k then some (D.int j) else lookD (encR rd) (.inr k)).isSome = decide (k ∈ k' :: keys rd)
    by_cases e : k' = k
    · subst e
      rw [if_pos rfl]
      simp
    · have e3 : ¬ k = k' := fun q => e q.symm
      rw [if_neg (fun q => e (Sum.inr.inj q)), look_isSome]
      simp [e3]
theorem put_new {k : Str} {d : D} : ∀ {kvs : List (Key × D)}, lookD kvs (.inr k) = none → putD kvs (.inr k) d = kvs ++ [(.inr k, d)]
  | [], _ => rfl
  | (k', d') :: kvs, h => by
    unfold lookD at h
    split at h
    · cases h
    · rename_i e
      unfold putD
      rw [if_neg e, put_new h]
      rfl
theorem in_ready (neg : Bool) (k : Str) (rd : Rd) : dIn neg (.str k) (.dct (encR rd)) = some (.im (.bl (if neg then !decide (k ∈ keys rd) else decide (k ∈ keys rd)))) := by
  show (mkKey (.str k)).map (fun key => Sl.im (.bl (if neg then !(lookD (encR rd) key).isSome else (lookD (encR rd) key).isSome))) = _
  show some (Sl.im (.bl (if neg then !(lookD (encR rd) (.inr k)).isSome else (lookD (encR rd) (.inr k)).isSome))) = _
  rw [look_isSome]
/-- False not in [..] -/
theorem all_bools {α : Type} (xs : List α) (p : α → Bool) : dIn true (.bl false) (.lst (xs.map fun x => .bl (p x))) = some (.im (.bl (xs.all p))) := by
  have h1 : (xs.map fun x => D.bl (p x)).all D.flat = true := by simp [List.all_map, D.flat]
  have h2 : ((xs.map fun x => D.bl (p x)).any fun y => D.eqv y (.bl false)) = !(xs.all p) := by
    induction xs with
    | nil => rfl
    | cons x xs ih =>
      have := ih (by simp [List.all_map, D.flat])
      rw [List.map_cons, List.any_cons, this, List.all_cons]
      simp only [D.eqv]
      cases p x <;> simp
  show (seqIn _ _).map _ = _
  unfold seqIn
  rw [h1, h2]
  simp [D.flat]
theorem Rdy.sub {rs : List Rec} {ks : List Str} (C : CatOk ks rs) : ∀ {rd : Rd}, Rdy rs rd → (∀ k ∈ keys rd, k ∈ ks) ∧ (keys rd).Nodup := by
  intro rd h
  induction h with
  | nil => exact ⟨by simp [keys], by simp [keys]⟩
  | snoc h1 h2 h3 h4 ih =>
    rename_i rd i r
    have hr : r ∈ rs := List.mem_of_getElem? h2
    have e : keys (rd ++ [(r.k, i)]) = keys rd ++ [r.k] := by simp [keys]
    rw [e]
    refine ⟨fun k hk => ?_, ?_⟩
    · rcases List.mem_append.mp hk with q | q
      · exact ih.1 k q
      · rw [List.mem_singleton.mp q]; exact C.rk r hr
    · rw [List.nodup_append]
      refine ⟨ih.2, by simp, fun a ha b hb => ?_⟩
      rw [List.mem_singleton.mp hb]
      exact fun e => h4 (e ▸ ha)
theorem nodup_le : ∀ {xs ys : List Str}, xs.Nodup → (∀ x ∈ xs, x ∈ ys) → xs.length ≤ ys.length
  | [], _, _, _ => Nat.zero_le _
  | x :: xs, ys, h, hs => by
    obtain ⟨h1, h2⟩ := List.nodup_cons.mp h
    have hx := hs x List.mem_cons_self
    have := nodup_le (ys := ys.erase x) h2 fun y hy => (List.mem_erase_of_ne (fun (q : y = x) => h1 (q ▸ hy))).mpr (hs y (List.mem_cons_of_mem _ hy))
    rw [List.length_erase_of_mem hx] at this
    have hp : 0 < ys.length := List.length_pos_of_mem hx
    simp only [List.length_cons]
    omega
theorem Rdy.len {rs : List Rec} {ks : List Str} (C : CatOk ks rs) {rd : Rd} (h : Rdy rs rd) : rd.length ≤ 3 := by
  obtain ⟨h1, h2⟩ := h.sub C
  have : (keys rd).length ≤ ks.length := nodup_le h2 h1
  rw [C.l] at this
  simpa [keys] using this
theorem for_len {e : EF} {ρ ρ' : En} {xs : List D} {n : Nat} {gb : D → En → Option En} {body : SF} {o : Option Out} (h : eD e ρ = some (.tup xs, ρ')) (hn : xs.length = n) (hl : n ≤ 100000) (hf : forF gb body (rangeD 0 n) ρ' = o) :
    sFor (iR1 (aCons (eCa gLen (aCons e aNil)) aNil)) gb body ρ = o := by
  subst hn
  have h1 : (aCons (eCa gLen (aCons e aNil)) aNil) ρ = some ([.int (xs.length : Nat)], ρ') := by
    rw [ev_aCons, ev_bnd, ev_eD, ev_eCa, ev_bnd, ev_aCons, ev_bnd, h]
    rfl
  have h2 : iR1 (aCons (eCa gLen (aCons e aNil)) aNil) ρ = some (rangeD 0 xs.length, ρ') := by
    unfold iR1
    rw [ev_bnd, h1]
    show (if -(2 ^ 62) ≤ ((xs.length : Nat) : Int) ∧ ((xs.length : Nat) : Int) < 2 ^ 62 then some (rangeD 0 ((xs.length : Nat) : Int).toNat, ρ') else none) = _
    rw [if_pos ⟨by omega, by omega⟩, Int.toNat_natCast]
  rw [ev_sFor, ev_bnd, h2]
  exact hf
def fm_made_of : List D → Option Sl := runP g__law_made_of 9
section
variable {ks : List Str} {rs : List Rec} (C : CatOk ks rs)
include C
abbrev fenc (p : Str × Nat) : D := .tup [.str p.1, .int (p.2 : Nat)]
omit C in
@[simp] theorem ixC1 : dIx (encC ks rs) (.int 1) = some (.im (.tup (rs.map enc))) := ev_ixT1 _ _ _
omit C in
@[simp] theorem ixC0 : dIx (encC ks rs) (.int 0) = some (.im (.tup (ks.map .str))) := ev_ixT0 _ _
omit C in
@[simp] theorem gTU_enc (f : List D → En → Option En) (r : Rec) (ρ : En) : gTU 3 f (enc r) ρ = f [.str r.k, .int r.own, .tup (r.ps.map .str)] ρ := rfl
omit C in
theorem ix_rec {i : Nat} {r : Rec} (h : rs[i]? = some r) : dIx (.tup (rs.map enc)) (.int (i : Nat)) = some (.im (enc r)) := by
  have hlt : i < rs.length := by
    rcases Nat.lt_or_ge i rs.length with q | q
    · exact q
    · rw [List.getElem?_eq_none q] at h; cases h
  show (atD (rs.map enc) (i : Nat)).map Sl.im = _
  unfold atD
  rw [ixN_nn (by omega) (by simp; omega)]
  simp [h]
omit C in
theorem ready_lc {rd : Rd} {M T F z4 z5 z6 z7 : Option Sl} (ps : List Str) : lcF (gN 8) tTrue (eInV false 1 (eV 8)) [8] (ps.map .str) [M, some (.od (encR rd)), T, F, z4, z5, z6, z7, none] = some (ps.map (fun p => .bl (decide (p ∈ keys rd))), [M, some (.od (encR rd)), T, F, z4, z5, z6, z7, none]) := by
  have := lc_map (gb := gN 8) (t := tTrue) (fe := eInV false 1 (eV 8)) (vs := [8]) (ρ := [M, some (.od (encR rd)), T, F, z4, z5, z6, z7, none]) (fun d => match d with
    | .str p => .bl (decide (p ∈ keys rd))
    | _ => .non) (ds := ps.map .str) (by
    intro d hd
    obtain ⟨x, hx, rfl⟩ := List.mem_map.mp hd
    refine ⟨_, rfl, .inr ⟨_, _, [M, some (.od (encR rd)), T, F, z4, z5, z6, z7, some (.im (.str x))], rfl, rfl, ?_, rfl⟩⟩
    simp [in_ready])
  rw [this, List.map_map]
  rfl
/-- one recipe, looked at -/
theorem CatOk.freshStep {rd : Rd} {i : Nat} {r : Rec} (h : rs[i]? = some r) {T y5 y6 y7 y8 : Option Sl} {fr : List D} (hf : fr.length < 100000) :
    ∃ z8, (sSeq (sAsg (eB dIx (eB dIx (eV 0) (eC (.int 1))) (eV 4)) (gTU 3 (gsCons (gN 5) (gsCons (gN 6) (gsCons (gN 7) gsNil)))))
    (sIf (tAnd2 (tB1 (eInV true 1 (eV 5))) (tB1 (eB (dIn true) (eC (.bl false)) (eLc (iAny (eV 7)) (gN 8) tTrue (eInV false 1 (eV 8)) [8])))) (sDrop (eMutV 3 mApp (aCons (eTup (aCons (eV 5) (aCons (eV 4) aNil))) aNil))) sNil)) [some (.im (encC ks rs)), some (.od (encR rd)), T, some (.ol fr), some (.im (.int (i : Nat))), y5, y6, y7, y8]
      = some (.nx [some (.im (encC ks rs)), some (.od (encR rd)), T, some (.ol (if r.k ∉ keys rd ∧ (∀ p ∈ r.ps, p ∈ keys rd) then fr ++ [fenc (r.k, i)] else fr)), some (.im (.int (i : Nat))), some (.im (.str r.k)), some (.im (.int r.own)), some (.im (.tup (r.ps.map .str))), z8]) := by
  have hix := ix_rec h
  have hpl : r.ps.length ≤ 100000 := by
    have := C.pl r (List.mem_of_getElem? h)
    omega
  have hlc := @ready_lc rd (some (.im (encC ks rs))) T (some (.ol fr)) (some (.im (.int (i : Nat)))) (some (.im (.str r.k))) (some (.im (.int r.own))) (some (.im (.tup (r.ps.map .str)))) r.ps
  have hab := all_bools r.ps fun p => decide (p ∈ keys rd)
  refine ⟨if r.k ∈ keys rd then y8 else keepI y8, ?_⟩
  refine sq_to [some (.im (encC ks rs)), some (.od (encR rd)), T, some (.ol fr), some (.im (.int (i : Nat))), some (.im (.str r.k)), some (.im (.int r.own)), some (.im (.tup (r.ps.map .str))), y8] (by simp [hix]) ?_
  by_cases hk : r.k ∈ keys rd
  · simp [in_ready, hk]
  · by_cases hp : ∀ p ∈ r.ps, p ∈ keys rd
    · have hb : r.ps.all (fun p => decide (p ∈ keys rd)) = true := List.all_eq_true.mpr fun p q => decide_eq_true (hp p q)
      rw [hb] at hab
      rw [if_pos ⟨hk, hp⟩, if_neg hk]
      rcases y8 with _ | ⟨_ | _ | _⟩ <;> simp [keepI, in_ready, hk, hlc, hab, hpl, hf]
    · have hb : r.ps.all (fun p => decide (p ∈ keys rd)) = false := by
        rw [Bool.eq_false_iff]
        intro e
        exact hp fun p q => of_decide_eq_true (List.all_eq_true.mp e p q)
      rw [hb] at hab
      rw [if_neg (fun q => hp q.2), if_neg hk]
      rcases y8 with _ | ⟨_ | _ | _⟩ <;> simp [keepI, in_ready, hk, hlc, hab, hpl, hf]
theorem CatOk.fresh {rd : Rd} {T z4 z5 z6 z7 z8 : Option Sl} : ∃ (fr : Rd) (y4 y5 y6 y7 y8 : Option Sl), forF (gN 4) (sSeq (sAsg (eB dIx (eB dIx (eV 0) (eC (.int 1))) (eV 4)) (gTU 3 (gsCons (gN 5) (gsCons (gN 6) (gsCons (gN 7) gsNil)))))
    (sIf (tAnd2 (tB1 (eInV true 1 (eV 5))) (tB1 (eB (dIn true) (eC (.bl false)) (eLc (iAny (eV 7)) (gN 8) tTrue (eInV false 1 (eV 8)) [8])))) (sDrop (eMutV 3 mApp (aCons (eTup (aCons (eV 5) (aCons (eV 4) aNil))) aNil))) sNil)) (rangeD 0 rs.length) [some (.im (encC ks rs)), some (.od (encR rd)), T, some (.ol []), z4, z5, z6, z7, z8]
    = some (.nx [some (.im (encC ks rs)), some (.od (encR rd)), T, some (.ol (fr.map fenc)), y4, y5, y6, y7, y8]) ∧ (∀ p ∈ fr, ∃ r, rs[p.2]? = some r ∧ r.k = p.1 ∧ ∀ q ∈ r.ps, q ∈ keys rd) := by
  have hr8 := C.rl
  obtain ⟨ρ1, hf1, fr, y4, y5, y6, y7, y8, rfl, hfr, hfl⟩ := for_ok (gb := gN 4) (body := (sSeq (sAsg (eB dIx (eB dIx (eV 0) (eC (.int 1))) (eV 4)) (gTU 3 (gsCons (gN 5) (gsCons (gN 6) (gsCons (gN 7) gsNil)))))
    (sIf (tAnd2 (tB1 (eInV true 1 (eV 5))) (tB1 (eB (dIn true) (eC (.bl false)) (eLc (iAny (eV 7)) (gN 8) tTrue (eInV false 1 (eV 8)) [8])))) (sDrop (eMutV 3 mApp (aCons (eTup (aCons (eV 5) (aCons (eV 4) aNil))) aNil))) sNil))) (all := rangeD 0 rs.length)
    (fun pre ρ => ∃ (fr : Rd) (y4 y5 y6 y7 y8 : Option Sl), ρ = [some (.im (encC ks rs)), some (.od (encR rd)), T, some (.ol (fr.map fenc)), y4, y5, y6, y7, y8] ∧ (∀ p ∈ fr, ∃ r, rs[p.2]? = some r ∧ r.k = p.1 ∧ ∀ q ∈ r.ps, q ∈ keys rd) ∧ fr.length ≤ pre.length)
    (ρ := [some (.im (encC ks rs)), some (.od (encR rd)), T, some (.ol []), z4, z5, z6, z7, z8]) ⟨[], z4, z5, z6, z7, z8, rfl, by simp, by simp⟩ (by
      rintro pre d post ρ hall ⟨fr, y4, y5, y6, y7, y8, rfl, hfr, hfl⟩
      obtain ⟨hlt, rfl⟩ := rangeD0_at hall
      have hget : rs[pre.length]? = some rs[pre.length] := List.getElem?_eq_getElem hlt
      generalize hrr : rs[pre.length] = r at hget
      obtain ⟨z8, hs⟩ := C.freshStep (rd := rd) hget (T := T) (y5 := y5) (y6 := y6) (y7 := y7) (y8 := y8) (fr := fr.map fenc) (by simp; omega)
      by_cases hc : r.k ∉ keys rd ∧ ∀ p ∈ r.ps, p ∈ keys rd
      · rw [if_pos hc] at hs
        refine ⟨_, _, rfl, .inl hs, fr ++ [(r.k, pre.length)], _, _, _, _, _, by rw [List.map_append]; rfl, ?_, by simp; omega⟩
        intro p hp
        rcases List.mem_append.mp hp with q | q
        · exact hfr p q
        · rw [List.mem_singleton.mp q]
          exact ⟨r, hget, rfl, hc.2⟩
      · rw [if_neg hc] at hs
        exact ⟨_, _, rfl, .inl hs, fr, _, _, _, _, _, rfl, hfr, by simp; omega⟩)
  exact ⟨fr, y4, y5, y6, y7, y8, hf1, hfr⟩
theorem CatOk.puts {rd fr : Rd} (hrd : Rdy rs rd) (hfr : ∀ p ∈ fr, ∃ r, rs[p.2]? = some r ∧ r.k = p.1 ∧ ∀ q ∈ r.ps, q ∈ keys rd) {T F y4 y5 y6 y7 y8 : Option Sl} : ∃ (rd2 : Rd) (x4 x5 : Option Sl), forF (gTU 2 (gsCons (gN 5) (gsCons (gN 4) gsNil))) (sIf (tB1 (eInV true 1 (eV 5))) (sPutV 1 (eV 4) (eV 5)) sNil) (fr.map fenc) [some (.im (encC ks rs)), some (.od (encR rd)), T, F, y4, y5, y6, y7, y8]
    = some (.nx [some (.im (encC ks rs)), some (.od (encR rd2)), T, F, x4, x5, y6, y7, y8]) ∧ Rdy rs rd2 := by
  obtain ⟨ρ2, hf2, rd2, x4, x5, rfl, hrd2, hsub⟩ := for_ok (gb := gTU 2 (gsCons (gN 5) (gsCons (gN 4) gsNil))) (body := (sIf (tB1 (eInV true 1 (eV 5))) (sPutV 1 (eV 4) (eV 5)) sNil)) (all := fr.map fenc)
    (fun pre ρ => ∃ (rd2 : Rd) (x4 x5 : Option Sl), ρ = [some (.im (encC ks rs)), some (.od (encR rd2)), T, F, x4, x5, y6, y7, y8] ∧ Rdy rs rd2 ∧ ∀ k ∈ keys rd, k ∈ keys rd2)
    (ρ := [some (.im (encC ks rs)), some (.od (encR rd)), T, F, y4, y5, y6, y7, y8]) ⟨rd, y4, y5, rfl, hrd, fun k hk => hk⟩ (by
      rintro pre d post ρ hall ⟨rd2, x4, x5, rfl, hrd2, hsub⟩
      have hd : d ∈ fr.map fenc := by rw [hall]; simp
      obtain ⟨p, hp, rfl⟩ := List.mem_map.mp hd
      obtain ⟨r, hr1, hr2, hr3⟩ := hfr p hp
      obtain ⟨k, i⟩ := p
      simp only at hr1 hr2
      subst hr2
      by_cases hk : r.k ∈ keys rd2
      · refine ⟨_, [some (.im (encC ks rs)), some (.od (encR rd2)), T, F, some (.im (.int (i : Nat))), some (.im (.str r.k)), y6, y7, y8], rfl, .inl ?_, rd2, _, _, rfl, hrd2, hsub⟩
        simp [in_ready, hk]
      · have hlen := hrd2.len C
        have hlen2 : (encR rd2).length < 100000 := by simp [encR]; omega
        have hnone : lookD (encR rd2) (.inr r.k) = none := by
          have := look_isSome (k := r.k) (rd := rd2)
          rw [decide_eq_false hk] at this
          simpa using this
        have ek : keys (rd2 ++ [(r.k, i)]) = keys rd2 ++ [r.k] := by simp [keys]
        refine ⟨_, [some (.im (encC ks rs)), some (.od (encR (rd2 ++ [(r.k, i)]))), T, F, some (.im (.int (i : Nat))), some (.im (.str r.k)), y6, y7, y8], rfl, .inl ?_, rd2 ++ [(r.k, i)], _, _, rfl, .snoc hrd2 hr1 (fun q hq => hsub q (hr3 q hq)) hk, fun k hk => ?_⟩
        · have hput := put_new (d := .int (i : Nat)) hnone
          have e : encR (rd2 ++ [(r.k, i)]) = encR rd2 ++ [(.inr r.k, .int (i : Nat))] := by simp [encR]
          rw [e]
          simp [in_ready, hk, mkKey, hlen2, hput]
        · rw [ek]
          exact List.mem_append.mpr (.inl (hsub k hk)))
  exact ⟨rd2, x4, x5, hf2, hrd2⟩
abbrev turnB : SF := sSeq (sSetO 3 (eLst aNil))
    (sSeq (sFor (iR1 (aCons (eCa gLen (aCons (eB dIx (eV 0) (eC (.int 1))) aNil)) aNil)) (gN 4) (sSeq (sAsg (eB dIx (eB dIx (eV 0) (eC (.int 1))) (eV 4)) (gTU 3 (gsCons (gN 5) (gsCons (gN 6) (gsCons (gN 7) gsNil)))))
    (sIf (tAnd2 (tB1 (eInV true 1 (eV 5))) (tB1 (eB (dIn true) (eC (.bl false)) (eLc (iAny (eV 7)) (gN 8) tTrue (eInV false 1 (eV 8)) [8])))) (sDrop (eMutV 3 mApp (aCons (eTup (aCons (eV 5) (aCons (eV 4) aNil))) aNil))) sNil)))
    (sFor (iAny (eV 3)) (gTU 2 (gsCons (gN 5) (gsCons (gN 4) gsNil))) (sIf (tB1 (eInV true 1 (eV 5))) (sPutV 1 (eV 4) (eV 5)) sNil)))
theorem CatOk.turn {rd : Rd} (hrd : Rdy rs rd) {T z3 z4 z5 z6 z7 z8 : Option Sl} : ∃ (rd2 : Rd) (x3 x4 x5 x6 x7 x8 : Option Sl), turnB [some (.im (encC ks rs)), some (.od (encR rd)), T, z3, z4, z5, z6, z7, z8] = some (.nx [some (.im (encC ks rs)), some (.od (encR rd2)), T, x3, x4, x5, x6, x7, x8]) ∧ Rdy rs rd2 := by
  have hr8 := C.rl
  obtain ⟨fr, y4, y5, y6, y7, y8, hf1, hfr⟩ := C.fresh (rd := rd) (T := T) (z4 := z4) (z5 := z5) (z6 := z6) (z7 := z7) (z8 := z8)
  obtain ⟨rd2, x4, x5, hf2, hrd2⟩ := C.puts hrd hfr (T := T) (F := some (.im (.lst (fr.map fenc)))) (y4 := y4) (y5 := y5) (y6 := y6) (y7 := y7) (y8 := y8)
  refine ⟨rd2, some (.im (.lst (fr.map fenc))), x4, x5, y6, y7, y8, ?_, hrd2⟩
  refine sq_to [some (.im (encC ks rs)), some (.od (encR rd)), T, some (.ol []), z4, z5, z6, z7, z8] (by simp) ?_
  refine sq_to [some (.im (encC ks rs)), some (.od (encR rd)), T, some (.ol (fr.map fenc)), y4, y5, y6, y7, y8] ?_ ?_
  · exact for_len (xs := rs.map enc) (n := rs.length) (by simp) (by simp) (by omega) hf1
  · simp [hf2]
theorem CatOk.made_of : ∃ rd : Rd, fm_made_of [encC ks rs] = some (.od (encR rd)) ∧ Rdy rs rd := by
  have hl3 := C.l
  obtain ⟨ρ', hf, rd, z2, z3, z4, z5, z6, z7, z8, rfl, hrd⟩ := for_ok (gb := gN 2) (body := turnB) (all := rangeD 0 3)
    (fun pre ρ => ∃ (rd : Rd) (z2 z3 z4 z5 z6 z7 z8 : Option Sl), ρ = [some (.im (encC ks rs)), some (.od (encR rd)), z2, z3, z4, z5, z6, z7, z8] ∧ Rdy rs rd)
    (ρ := [some (.im (encC ks rs)), some (.od []), none, none, none, none, none, none, none]) ⟨[], none, none, none, none, none, none, none, rfl, .nil⟩ (by
      rintro pre d post ρ hall ⟨rd, z2, z3, z4, z5, z6, z7, z8, rfl, hrd⟩
      obtain ⟨rd2, x3, x4, x5, x6, x7, x8, h1, h2⟩ := C.turn hrd (T := some (.im d)) (z3 := z3) (z4 := z4) (z5 := z5) (z6 := z6) (z7 := z7) (z8 := z8)
      exact ⟨_, _, rfl, .inl h1, rd2, _, _, _, _, _, _, _, rfl, h2⟩)
  refine ⟨rd, ?_, hrd⟩
  refine runP_rt (ρ := [some (.im (encC ks rs)), none, z2, z3, z4, z5, z6, z7, z8]) ?_
  refine sq_to [some (.im (encC ks rs)), some (.od []), none, none, none, none, none, none, none] (by simp [startE]) ?_
  refine sq_to [some (.im (encC ks rs)), some (.od (encR rd)), z2, z3, z4, z5, z6, z7, z8] ?_ (by simp)
  exact for_len (xs := ks.map .str) (n := 3) (by simp) (by simp [hl3]) (by omega) hf
end
end WK

set_option Elab.async false
set_option linter.all false
set_option maxRecDepth 100000
set_option maxHeartbeats 4000000
namespace WK
open PySem PySem.Spec PyProof.Rows L2 DL
/-! ### what a thing is made of -/
mutual
def nod (rs : List Rec) : D → Str → Option (List Rec)
  | .tup [.int i, .tup xs], k => if 0 ≤ i then match rs[i.toNat]? with
    | some r => if r.k = k then (nodL rs xs r.ps).map (r :: ·) else none
    | none => none
    else none
  | _, _ => none
def nodL (rs : List Rec) : List D → List Str → Option (List Rec)
  | [], [] => some []
  | x :: xs, p :: ps => match nod rs x p with
    | some a => (nodL rs xs ps).map (a ++ ·)
    | none => none
  | _, _ => none
end
theorem nodL_len {rs : List Rec} : ∀ {xs : List D} {ps : List Str}, xs.length ≠ ps.length → nodL rs xs ps = none
  | [], [], h => absurd rfl h
  | [], _ :: _, _ => by unfold nodL; rfl
  | _ :: _, [], _ => by unfold nodL; rfl
  | x :: xs, p :: ps, h => by
    unfold nodL
    rw [nodL_len (xs := xs) (ps := ps) (fun e => h (by simp [e]))]
    cases nod rs x p <;> rfl
theorem nod_cons {rs : List Rec} {i : Int} {xs : List D} {k : Str} {r : Rec} (h0 : 0 ≤ i) (hr : rs[i.toNat]? = some r) : nod rs (.tup [.int i, .tup xs]) k = if r.k = k then (nodL rs xs r.ps).map (r :: ·) else none := by
  rw [nod, if_pos h0, hr]
def vec (ks : List Str) (ns : List Rec) : List Int := (ns.map (·.own)).sum :: ks.map fun k => ((ns.filter fun r => decide (r.k = k)).length : Int)
def wres (ks : List Str) : Option (List Rec) → D
  | none => .non
  | some ns => .lst ((vec ks ns).map .int)
theorem vec_app (ks : List Str) (a b : List Rec) : List.zipWith (fun x y => x + y) (vec ks a) (vec ks b) = vec ks (a ++ b) := by
  unfold vec
  simp only [List.zipWith_cons_cons, List.map_append, List.sum_append, List.filter_append, List.length_append]
  congr 1
  induction ks with
  | nil => rfl
  | cons k ks ih => simp [ih]
theorem vec_len (ks : List Str) (a : List Rec) : (vec ks a).length = ks.length + 1 := by simp [vec]
def fm_weighed : Nat → List D → Option Sl
  | 0 => fun _ => none
  | n + 1 => runP (g__law_weighed (fm_weighed n)) 11
/-- one + other for one, other in zip -/
theorem zip_add {z0 z1 z2 z3 z4 z5 z6 z7 z8 : Option Sl} : ∀ (xs ys : List Int), lcF (gT 2 (gsCons (gN 9) (gsCons (gN 10) gsNil))) tTrue (eB dAdd (eV 9) (eV 10)) [9, 10] (zipD (xs.map .int) (ys.map .int)) [z0, z1, z2, z3, z4, z5, z6, z7, z8, none, none]
    = some ((List.zipWith (fun x y => x + y) xs ys).map .int, [z0, z1, z2, z3, z4, z5, z6, z7, z8, none, none])
  | [], _ => rfl
  | _ :: _, [] => rfl
  | x :: xs, y :: ys => by
    have ih := zip_add (z0 := z0) (z1 := z1) (z2 := z2) (z3 := z3) (z4 := z4) (z5 := z5) (z6 := z6) (z7 := z7) (z8 := z8) xs ys
    have e : zipD ((x :: xs).map D.int) ((y :: ys).map D.int) = .tup [.int x, .int y] :: zipD (xs.map .int) (ys.map .int) := rfl
    rw [e]
    unfold lcF
    simp [ih]
section
variable {ks : List Str} {rs : List Rec} (C : CatOk ks rs)
include C
/-- int(one == kind) for one in kinds -/
theorem kinds_lc {k : Str} {z0 z1 z3 z4 z5 z6 z7 z8 z10 : Option Sl} : ∀ (qs : List Str), lcF (gN 9) tTrue (eCa gInt (aCons (eB (dEq false) (eV 9) (eV 2)) aNil)) [9] (qs.map .str) [z0, z1, some (.im (.str k)), z3, z4, z5, z6, z7, z8, none, z10]
    = some (qs.map (fun q => .int (if q = k then 1 else 0)), [z0, z1, some (.im (.str k)), z3, z4, z5, z6, z7, z8, none, z10])
  | [] => rfl
  | q :: qs => by
    have ih := kinds_lc (k := k) (z0 := z0) (z1 := z1) (z3 := z3) (z4 := z4) (z5 := z5) (z6 := z6) (z7 := z7) (z8 := z8) (z10 := z10) qs
    have e : dEq false (.str q) (.str k) = some (.im (.bl (decide (q = k)))) := by
      unfold dEq
      rw [eqv_str]
      simp [scalD, D.flat]
    have e2 : gInt [.bl (decide (q = k))] = some (.im (.int (if q = k then 1 else 0))) := by
      show some (Sl.im (.int (if decide (q = k) = true then 1 else 0))) = _
      simp
    rw [List.map_cons]
    unfold lcF
    simp [ih, e, e2]
end
theorem eq_int (neg : Bool) (a b : Int) : dEq neg (.int a) (.int b) = some (.im (.bl (if neg then !decide (a = b) else decide (a = b)))) := by
  unfold dEq
  have : D.eqv (.int a) (.int b) = decide (a = b) := by
    unfold D.eqv
    by_cases h : a = b <;> simp [h]
  rw [this]
  simp [scalD, D.flat]
theorem eq_str (neg : Bool) (a b : Str) : dEq neg (.str a) (.str b) = some (.im (.bl (if neg then !decide (a = b) else decide (a = b)))) := by
  unfold dEq
  rw [eqv_str]
  simp [scalD, D.flat]
theorem ix_at {xs : List D} {i : Nat} {x : D} (h : xs[i]? = some x) : dIx (.tup xs) (.int (i : Nat)) = some (.im x) := by
  have hlt : i < xs.length := by
    rcases Nat.lt_or_ge i xs.length with q | q
    · exact q
    · rw [List.getElem?_eq_none q] at h; cases h
  show (atD xs (i : Nat)).map Sl.im = _
  unfold atD
  rw [ixN_nn (by omega) (by omega)]
  simp [h]
theorem wres_isN (ks : List Str) (o : Option (List Rec)) : (wres ks o).isN = o.isNone := by cases o <;> rfl
theorem vec_base {ks : List Str} {r : Rec} : vec ks [r] = r.own :: ks.map (fun q => if q = r.k then 1 else 0) := by
  unfold vec
  simp only [List.map_cons, List.map_nil, List.sum_cons, List.sum_nil, Int.add_zero]
  congr 1
  refine List.map_congr_left fun q _ => ?_
  by_cases h : q = r.k
  · simp [h]
  · have h' : ¬ r.k = q := fun e => h e.symm
    simp [h, h']
theorem sq_rt {g g' : SF} {ρ ρ' : En} {s : Sl} (h1 : g ρ = some (.rt s ρ')) : sSeq g g' ρ = some (.rt s ρ') := by
  show (match g ρ with
    | some (.nx ρ') => g' ρ'
    | o => o) = _
  rw [h1]
theorem runP_ex {g : SF} {n : Nat} {ds : List D} {s : Sl} (h : ∃ ρ, g (startE n ds) = some (.rt s ρ)) : runP g n ds = some s := by
  obtain ⟨ρ, h⟩ := h
  exact runP_rt h
theorem sq_ex {g g' : SF} {ρ : En} {s : Sl} (ρ' : En) (h1 : g ρ = some (.nx ρ')) (h2 : ∃ ρ2, g' ρ' = some (.rt s ρ2)) : ∃ ρ2, sSeq g g' ρ = some (.rt s ρ2) := by
  obtain ⟨ρ2, h2⟩ := h2
  exact ⟨ρ2, sq_to ρ' h1 h2⟩
theorem sq_rx {g g' : SF} {ρ : En} {s : Sl} (h1 : ∃ ρ', g ρ = some (.rt s ρ')) : ∃ ρ2, sSeq g g' ρ = some (.rt s ρ2) := by
  obtain ⟨ρ2, h2⟩ := h1
  exact ⟨ρ2, sq_rt h2⟩
theorem nod_other {rs : List Rec} {k : Str} : ∀ {t : D}, D.isTup t = false → nod rs t k = none
  | .tup _, h => by cases h
  | .non, _ => by rw [nod]; simp
  | .bl _, _ => by rw [nod]; simp
  | .int _, _ => by rw [nod]; simp
  | .str _, _ => by rw [nod]; simp
  | .lst _, _ => by rw [nod]; simp
  | .dct _, _ => by rw [nod]; simp
  | .scr _, _ => by rw [nod]; simp
  | .typ _, _ => by rw [nod]; simp
abbrev wB (fw : List D → Option Sl) : SF := (sSeq (sSet 8 (eCall fw (aCons (eV 0) (aCons (eB dIx (eB dIx (eV 1) (eC (.int 1))) (eV 7)) (aCons (eB dIx (eV 5) (eV 7)) aNil)))))
    (sSeq (sIf (tB1 (eB (dIsN false) (eV 8) (eC .non))) (sRet (eC .non)) sNil)
    (sSet 6 (eLc (iZp (aCons (eV 6) (aCons (eV 8) aNil))) (gT 2 (gsCons (gN 9) (gsCons (gN 10) gsNil))) tTrue (eB dAdd (eV 9) (eV 10)) [9, 10]))))
theorem zipD_len (xs ys : List D) : (zipD xs ys).length = min xs.length ys.length := by simp [zipD]
theorem CatOk.wmain {ks : List Str} {rs : List Rec} (C : CatOk ks rs) {fw : List D → Option Sl} {xs : List D} (ih : ∀ x ∈ xs, ∀ p, fw [encC ks rs, x, .str p] = some (.im (wres ks (nod rs x p)))) {j : Nat} {r : Rec} (hr : rs[j]? = some r) {k : Str} :
    runP (g__law_weighed fw) 11 [encC ks rs, .tup [.int (j : Nat), .tup xs], .str k] = some (.im (wres ks (nod rs (.tup [.int (j : Nat), .tup xs]) k))) := by
  have hr8 := C.rl
  have hl3 := C.l
  have hrm := List.mem_of_getElem? hr
  have hlt : j < rs.length := by
    rcases Nat.lt_or_ge j rs.length with q | q
    · exact q
    · rw [List.getElem?_eq_none q] at hr; cases hr
  have e0 := nod_cons (rs := rs) (i := (j : Nat)) (xs := xs) (k := k) (r := r) (by omega) (by simpa using hr)
  rw [e0]
  have hix := ix_rec hr
  have c1 : ((rs.map enc).length : Int) = rs.length := by simp
  let M : Option Sl := some (.im (encC ks rs))
  let T : Option Sl := some (.im (.tup [.int (j : Nat), .tup xs]))
  let P : Option Sl := some (.im (.tup (r.ps.map .str)))
  refine runP_ex ?_
  refine sq_ex [M, T, some (.im (.str k)), none, none, none, none, none, none, none, none] (by simp [startE, M, T, gIsi, DL.D.ty, eq_int]) ?_
  refine sq_ex [M, T, some (.im (.str k)), none, none, none, none, none, none, none, none] (by simp [M, T, gIsi, DL.D.ty, hlt]) ?_
  refine sq_ex [M, T, some (.im (.str k)), some (.im (.str r.k)), some (.im (.int r.own)), P, none, none, none, none, none] (by simp [M, T, P, hix]) ?_
  by_cases hk : r.k = k
  · by_cases hl : r.ps.length = xs.length
    · rw [if_pos hk]
      subst hk
      refine sq_ex [M, T, some (.im (.str r.k)), some (.im (.str r.k)), some (.im (.int r.own)), P, none, none, none, none, none] (by simp [M, T, P, eq_str, eq_int, hl]) ?_
      have hkl := kinds_lc C (k := r.k) (z0 := M) (z1 := T) (z3 := some (.im (.str r.k))) (z4 := some (.im (.int r.own))) (z5 := P) (z6 := none) (z7 := none) (z8 := none) (z10 := none) ks
      refine sq_ex [M, T, some (.im (.str r.k)), some (.im (.str r.k)), some (.im (.int r.own)), P, some (.im (.lst ((vec ks [r]).map .int))), none, none, none, none] ?_ ?_
      · have hadd : dAdd (.lst [.int r.own]) (.lst (ks.map fun q => D.int (if q = r.k then 1 else 0))) = some (.ol ((vec ks [r]).map .int)) := by
          show (if _ then some (Sl.ol ([D.int r.own] ++ ks.map fun q => D.int (if q = r.k then 1 else 0))) else none) = _
          rw [if_pos (by simp [hl3]), vec_base]
          simp
        simp [M, T, P] at hkl hadd ⊢
        simp [hkl, hl3, hadd]
      have hps := C.pl r hrm
      have hloop := for_ret (gb := gN 7) (body := wB fw) (all := rangeD 0 r.ps.length)
        (fun pre ρ => ∃ (b : List Rec) (z7 z8 : Option Sl), ρ = [M, T, some (.im (.str r.k)), some (.im (.str r.k)), some (.im (.int r.own)), P, some (.im (.lst ((vec ks (r :: b)).map .int))), z7, z8, none, none] ∧ nodL rs xs r.ps = (nodL rs (xs.drop pre.length) (r.ps.drop pre.length)).map (b ++ ·))
        (fun s _ => s = .im .non ∧ nodL rs xs r.ps = none) (by
          rintro pre d post ρ hall ⟨b, z7, z8, rfl, hb⟩
          obtain ⟨hlt, rfl⟩ := rangeD0_at hall
          have hlx : pre.length < xs.length := by omega
          have gx : xs[pre.length]? = some xs[pre.length] := List.getElem?_eq_getElem hlx
          have gp : (r.ps.map D.str)[pre.length]? = some (.str r.ps[pre.length]) := by
            rw [List.getElem?_map, List.getElem?_eq_getElem hlt]
            rfl
          have ex := ix_at gx
          have ep := ix_at gp
          have hdx : xs.drop pre.length = xs[pre.length] :: xs.drop (pre.length + 1) := List.drop_eq_getElem_cons hlx
          have hdp : r.ps.drop pre.length = r.ps[pre.length] :: r.ps.drop (pre.length + 1) := List.drop_eq_getElem_cons hlt
          have hw := ih xs[pre.length] (List.getElem_mem hlx) r.ps[pre.length]
          generalize hX : xs[pre.length] = X at *
          generalize hp2 : r.ps[pre.length] = p at *
          rw [hdx, hdp, nodL] at hb
          refine ⟨[M, T, some (.im (.str r.k)), some (.im (.str r.k)), some (.im (.int r.own)), P, some (.im (.lst ((vec ks (r :: b)).map .int))), some (.im (.int (pre.length : Nat))), z8, none, none], rfl, ?_⟩
          cases hn : nod rs X p with
          | none =>
            rw [hn] at hb hw
            refine .inr ⟨.im .non, [M, T, some (.im (.str r.k)), some (.im (.str r.k)), some (.im (.int r.own)), P, some (.im (.lst ((vec ks (r :: b)).map .int))), some (.im (.int (pre.length : Nat))), some (.im .non), none, none], ?_, rfl, by rw [hb]; rfl⟩
            refine sq_to [M, T, some (.im (.str r.k)), some (.im (.str r.k)), some (.im (.int r.own)), P, some (.im (.lst ((vec ks (r :: b)).map .int))), some (.im (.int (pre.length : Nat))), some (.im .non), none, none] ?_ ?_
            · simp [M, T, P, ex, ep, hw, wres]
            · exact sq_rt (by simp)
          | some a =>
            rw [hn] at hb hw
            refine .inl ⟨[M, T, some (.im (.str r.k)), some (.im (.str r.k)), some (.im (.int r.own)), P, some (.im (.lst ((vec ks (r :: (b ++ a))).map .int))), some (.im (.int (pre.length : Nat))), some (.im (wres ks (some a))), none, none], .inl ?_, b ++ a, _, _, rfl, ?_⟩
            · refine sq_to [M, T, some (.im (.str r.k)), some (.im (.str r.k)), some (.im (.int r.own)), P, some (.im (.lst ((vec ks (r :: b)).map .int))), some (.im (.int (pre.length : Nat))), some (.im (wres ks (some a))), none, none] ?_ ?_
              · simp [M, T, P, ex, ep, hw]
              · refine sq_to [M, T, some (.im (.str r.k)), some (.im (.str r.k)), some (.im (.int r.own)), P, some (.im (.lst ((vec ks (r :: b)).map .int))), some (.im (.int (pre.length : Nat))), some (.im (wres ks (some a))), none, none] ?_ ?_
                · simp [wres]
                · have hz := zip_add (z0 := M) (z1 := T) (z2 := some (.im (.str r.k))) (z3 := some (.im (.str r.k))) (z4 := some (.im (.int r.own))) (z5 := P) (z6 := some (.im (.lst ((vec ks (r :: b)).map .int)))) (z7 := some (.im (.int (pre.length : Nat)))) (z8 := some (.im (wres ks (some a)))) (vec ks (r :: b)) (vec ks a)
                  rw [vec_app] at hz
                  have hzl : (zipD ((vec ks (r :: b)).map .int) ((vec ks a).map .int)).length ≤ 100000 := by
                    rw [zipD_len]
                    simp [vec_len, hl3]
                  have ew : wres ks (some a) = .lst ((vec ks a).map .int) := rfl
                  rw [List.cons_append] at hz
                  rw [ew] at hz ⊢
                  simp [hz, hzl]
            · rw [hb, List.length_append]
              simp only [List.length_singleton, Option.map_map]
              congr 1
              funext z
              simp)
        (rangeD 0 r.ps.length) [] [M, T, some (.im (.str r.k)), some (.im (.str r.k)), some (.im (.int r.own)), P, some (.im (.lst ((vec ks [r]).map .int))), none, none, none, none] rfl ⟨[], none, none, rfl, by simp⟩
      rcases hloop with ⟨ρ', hf, b, z7, z8, rfl, hb⟩ | ⟨s, ρ', hf, rfl, hb⟩
      · rw [rangeD_len] at hb
        have hb2 : nodL rs xs r.ps = some b := by
          rw [hb, List.drop_of_length_le (by omega), List.drop_of_length_le (by omega), nodL]
          simp
        rw [hb2]
        refine sq_ex _ (for_len (xs := r.ps.map .str) (n := r.ps.length) (by simp [P]) (by simp) (by omega) hf) ?_
        exact ⟨[M, T, some (.im (.str r.k)), some (.im (.str r.k)), some (.im (.int r.own)), P, some (.im (.lst ((vec ks (r :: b)).map .int))), z7, z8, none, none], by simp [wres]⟩
      · rw [hb]
        exact sq_rx ⟨_, for_len (xs := r.ps.map .str) (n := r.ps.length) (by simp [P]) (by simp) (by omega) hf⟩
    · rw [if_pos hk, nodL_len (fun e => hl e.symm)]
      have hl2 : ¬ ((r.ps.length : Int) = xs.length) := by omega
      exact sq_rx ⟨[M, T, some (.im (.str k)), some (.im (.str r.k)), some (.im (.int r.own)), P, none, none, none, none, none], by simp [M, T, P, eq_str, eq_int, hk, hl2, wres]⟩
  · rw [if_neg hk]
    exact sq_rx ⟨[M, T, some (.im (.str k)), some (.im (.str r.k)), some (.im (.int r.own)), P, none, none, none, none, none], by simp [M, T, P, eq_str, hk, wres]⟩
theorem CatOk.weighed {ks : List Str} {rs : List Rec} (C : CatOk ks rs) : ∀ (n : Nat) (t : D) (k : Str), okD t n = true → fm_weighed (n + 1) [encC ks rs, t, .str k] = some (.im (wres ks (nod rs t k)))
  | n, t, k, ht => by
    have hr8 := C.rl
    have hl3 := C.l
    by_cases hT : D.isTup t = true
    · cases t with
      | tup xs =>
        cases n with
        | zero => unfold okD at ht; cases ht
        | succ n =>
        match xs, ht with
        | [], ht => 
          have e : nod rs (.tup []) k = none := by rw [nod]; simp
          rw [e]
          simp [fm_weighed, runP, g__law_weighed, startE, gIsi, DL.D.ty, eq_int, wres]
        | [x], ht => 
          have e : nod rs (.tup [x]) k = none := by rw [nod]; simp
          rw [e]
          simp [fm_weighed, runP, g__law_weighed, startE, gIsi, DL.D.ty, eq_int, wres]
        | x :: y :: z :: xs, ht => 
          have e : nod rs (.tup (x :: y :: z :: xs)) k = none := by rw [nod]; simp
          have ne : ¬ ((xs.length : Int) + 1 + 1 + 1 = 2) := by omega
          rw [e]
          simp [fm_weighed, runP, g__law_weighed, startE, gIsi, DL.D.ty, eq_int, wres, ne]
        | [x, y], ht =>
          have ht2 : okD x n = true ∧ okD y n = true := by
            unfold okD at ht
            have := okL_iff.mp ht
            exact ⟨this x (by simp), this y (by simp)⟩
          have nb : ∀ {x : D}, (∀ i, x ≠ .int i) → nod rs (.tup [x, y]) k = none := fun {x} hx => by
            cases x <;> first | exact absurd rfl (hx _) | (rw [nod]; simp)
          cases x with
          | int i =>
            by_cases hi : 0 ≤ i ∧ i < rs.length
            · obtain ⟨j, rfl⟩ := Int.eq_ofNat_of_zero_le hi.1
              have hj : j < rs.length := by omega
              have hr : rs[j]? = some rs[j] := List.getElem?_eq_getElem hj
              by_cases hY : D.isTup y = true
              · cases y with
                | tup xs =>
                  refine C.wmain (fun x hx p => ?_) hr
                  cases n with
                  | zero => have := ht2.2; unfold okD at this; cases this
                  | succ n =>
                    have := ht2.2
                    unfold okD at this
                    exact C.weighed (n + 1) x p (okD_mono (by omega) (okL_iff.mp this x hx))
                | _ => cases hY
              · have e : nod rs (.tup [.int (j : Nat), y]) k = none := by
                  cases y <;> first | exact absurd rfl hY | (rw [nod]; simp)
                rw [e]
                have hy2 := ht2.2
                cases y <;> first | exact absurd rfl hY | (simp [fm_weighed, runP, g__law_weighed, startE, gIsi, DL.D.ty, eq_int, wres, hj]; done) | (cases n <;> (unfold okD at hy2; cases hy2))
            · have e : nod rs (.tup [.int i, y]) k = none := by
                cases y with
                | tup xs =>
                  rw [nod]
                  by_cases h0 : 0 ≤ i
                  · have : rs[i.toNat]? = none := List.getElem?_eq_none (by omega)
                    rw [if_pos h0, this]
                  · rw [if_neg h0]
                | _ => rw [nod]; simp
              rw [e]
              by_cases h0 : 0 ≤ i
              · have h1 : ¬ i < rs.length := fun q => hi ⟨h0, q⟩
                simp [fm_weighed, runP, g__law_weighed, startE, gIsi, DL.D.ty, eq_int, wres, h0, h1]
              · simp [fm_weighed, runP, g__law_weighed, startE, gIsi, DL.D.ty, eq_int, wres, h0]
          | _ =>
            rw [nb (by intro i; simp)]
            have hx2 := ht2.1
            first | (simp [fm_weighed, runP, g__law_weighed, startE, gIsi, DL.D.ty, eq_int, wres]; done) | (cases n <;> (unfold okD at hx2; cases hx2))
      | _ => cases hT
    · have hT2 : D.isTup t = false := by simpa using hT
      rw [nod_other hT2]
      cases t <;> first | (cases hT2; done) | (simp [fm_weighed, runP, g__law_weighed, startE, gIsi, DL.D.ty, wres]; done) | (cases n <;> (unfold okD at ht; cases ht))
  termination_by n => n
end WK

set_option Elab.async false
set_option linter.all false
set_option maxRecDepth 100000
set_option maxHeartbeats 4000000
namespace WK
open PySem PySem.Spec PyProof.Rows L2 DL
/-! ### drawn things -/
inductive Tr : Nat → D → Prop
  | mk {n i : Nat} {xs : List D} : i < 8 → xs.length ≤ 3 → (∀ x ∈ xs, Tr n x) → Tr (n + 1) (.tup [.int (i : Nat), .tup xs])
theorem Rdy.find {rs : List Rec} : ∀ {rd : Rd}, Rdy rs rd → ∀ k ∈ keys rd, ∃ (a : Rd) (i : Nat) (b : Rd) (r : Rec), rd = a ++ (k, i) :: b ∧ rs[i]? = some r ∧ r.k = k ∧ (∀ p ∈ r.ps, p ∈ keys a) ∧ rd.lookup k = some i ∧ k ∉ keys a := by
  intro rd h
  induction h with
  | nil => intro k hk; simp [keys] at hk
  | snoc h1 h2 h3 h4 ih =>
    rename_i rd i r
    intro k hk
    have e : keys (rd ++ [(r.k, i)]) = keys rd ++ [r.k] := by simp [keys]
    rw [e] at hk
    by_cases hin : k ∈ keys rd
    · obtain ⟨a, j, b, s, e1, e2, e3, e4, e5, e6⟩ := ih k hin
      refine ⟨a, j, b ++ [(r.k, i)], s, by rw [e1]; simp, e2, e3, e4, by rw [List.lookup_append, e5]; rfl, e6⟩
    · have hk2 : k = r.k := by
        rcases List.mem_append.mp hk with q | q
        · exact absurd q hin
        · simpa using q
      subst hk2
      have hno : rd.lookup r.k = none := by
        rw [List.lookup_eq_none_iff]
        intro p hp
        have : p.1 ∈ keys rd := List.mem_map.mpr ⟨p, hp, rfl⟩
        simp only [beq_eq_false_iff_ne, bne_iff_ne, ne_eq]
        exact fun q => h4 (q ▸ this)
      refine ⟨rd, i, [], r, by simp, h2, rfl, h3, by rw [List.lookup_append, hno]; simp, h4⟩
theorem runS_ex {g : SF} {n : Nat} {xs ds : List D} {s : Sl} {xs' : List D} (h : ∃ ρ : En, g (startS n xs ds) = some (.rt s (some (.ol xs') :: ρ))) : runS g n xs ds = some (s, xs') := by
  obtain ⟨ρ, h⟩ := h
  unfold runS
  rw [h]
  rfl
section
variable {ks : List Str} {rs : List Rec} (C : CatOk ks rs)
include C
omit C in
/-- part in ready for part in parts -/
theorem ready_lc2 {rd : Rd} {S M K P I z6 z7 : Option Sl} (ps : List Str) : lcF (gN 8) tTrue (eB (dIn false) (eV 8) (eV 2)) [8] (ps.map .str) [S, M, some (.im (.dct (encR rd))), K, P, I, z6, z7, none] = some (ps.map (fun p => .bl (decide (p ∈ keys rd))), [S, M, some (.im (.dct (encR rd))), K, P, I, z6, z7, none]) := by
  have := lc_map (gb := gN 8) (t := tTrue) (fe := eB (dIn false) (eV 8) (eV 2)) (vs := [8]) (ρ := [S, M, some (.im (.dct (encR rd))), K, P, I, z6, z7, none]) (fun d => match d with
    | .str p => .bl (decide (p ∈ keys rd))
    | _ => .non) (ds := ps.map .str) (by
    intro d hd
    obtain ⟨x, hx, rfl⟩ := List.mem_map.mp hd
    refine ⟨_, rfl, .inr ⟨_, _, [S, M, some (.im (.dct (encR rd))), K, P, I, z6, z7, some (.im (.str x))], rfl, rfl, ?_, rfl⟩⟩
    simp [in_ready])
  rw [this, List.map_map]
  rfl
def p1 (rs : List Rec) (k : Str) (j : Nat) : Bool := match rs[j]? with
  | some r => decide (r.k = k)
  | none => false
def p2 (rs : List Rec) (rd : Rd) (j : Nat) : Bool := match rs[j]? with
  | some r => r.ps.all fun p => decide (p ∈ keys rd)
  | none => false
omit C in
theorem ix_enc0 (r : Rec) : dIx (enc r) (.int 0) = some (.im (.str r.k)) := ev_ixT0 _ _
omit C in
theorem ix_enc2 (r : Rec) : dIx (enc r) (.int 2) = some (.im (.tup (r.ps.map .str))) := ev_ixT2 _ _ _ _
theorem sel1 {k : Str} {S R P I z6 z8 : Option Sl} : ∀ (js : List Nat), (∀ j ∈ js, j < rs.length) → lcF (gN 7) (tB1 (eB (dEq false) (eB dIx (eB dIx (eB dIx (eV 1) (eC (.int 1))) (eV 7)) (eC (.int 0))) (eV 3))) (eV 7) [7] (js.map fun j => .int (j : Nat)) [S, some (.im (encC ks rs)), R, some (.im (.str k)), P, I, z6, none, z8]
    = some ((js.filter (p1 rs k)).map (fun j => .int (j : Nat)), [S, some (.im (encC ks rs)), R, some (.im (.str k)), P, I, z6, none, z8])
  | [], _ => rfl
  | j :: js, h => by
    have ih := sel1 (k := k) (S := S) (R := R) (P := P) (I := I) (z6 := z6) (z8 := z8) js fun i hi => h i (List.mem_cons_of_mem _ hi)
    have hj := h j List.mem_cons_self
    have hg : rs[j]? = some rs[j] := List.getElem?_eq_getElem hj
    have hix := ix_rec hg
    rw [List.map_cons]
    unfold lcF
    by_cases hk : rs[j].k = k
    · have hp : p1 rs k j = true := by unfold p1; rw [hg]; simp [hk]
      simp [hix, ix_enc0, eq_str, hk, ih, hp]
    · have hp : p1 rs k j = false := by unfold p1; rw [hg]; simp [hk]
      simp [hix, ix_enc0, eq_str, hk, ih, hp]
theorem sel2 {k : Str} {rd : Rd} {S P I z6 : Option Sl} : ∀ (js : List Nat), (∀ j ∈ js, j < rs.length) → lcF (gN 7) (tB1 (eB (dIn true) (eC (.bl false)) (eLc (iAny (eB dIx (eB dIx (eB dIx (eV 1) (eC (.int 1))) (eV 7)) (eC (.int 2)))) (gN 8) tTrue (eB (dIn false) (eV 8) (eV 2)) [8]))) (eV 7) [7] (js.map fun j => .int (j : Nat)) [S, some (.im (encC ks rs)), some (.im (.dct (encR rd))), some (.im (.str k)), P, I, z6, none, none]
    = some ((js.filter (p2 rs rd)).map (fun j => .int (j : Nat)), [S, some (.im (encC ks rs)), some (.im (.dct (encR rd))), some (.im (.str k)), P, I, z6, none, none])
  | [], _ => rfl
  | j :: js, h => by
    have ih := sel2 (k := k) (rd := rd) (S := S) (P := P) (I := I) (z6 := z6) js fun i hi => h i (List.mem_cons_of_mem _ hi)
    have hj := h j List.mem_cons_self
    have hg : rs[j]? = some rs[j] := List.getElem?_eq_getElem hj
    have hix := ix_rec hg
    generalize rs[j] = r at hg hix
    have hpl : r.ps.length ≤ 100000 := by
      have := C.pl r (List.mem_of_getElem? hg)
      omega
    have hab := all_bools r.ps fun p => decide (p ∈ keys rd)
    have hp : p2 rs rd j = r.ps.all (fun p => decide (p ∈ keys rd)) := by unfold p2; rw [hg]
    have hlc := ready_lc2 (rd := rd) (S := S) (M := some (.im (encC ks rs))) (K := some (.im (.str k))) (P := P) (I := I) (z6 := z6) (z7 := some (.im (.int (j : Nat)))) r.ps
    rw [← hp] at hab
    rw [List.map_cons]
    unfold lcF
    by_cases hk : p2 rs rd j = true
    · rw [hk] at hab
      simp [hix, ix_enc2, hlc, hpl, hab, ih, hk]
    · have hk2 : p2 rs rd j = false := by simpa using hk
      rw [hk2] at hab
      simp [hix, ix_enc2, hlc, hpl, hab, ih, hk2]
omit C in
theorem parts_lc {ft : List D → List D → Option (Sl × List D)} {M R : D} {n : Nat} {z3 z5 z6 z7 : Option Sl} {deep : Int} : ∀ (ps : List Str),
    (∀ p ∈ ps, ∀ src, Src src → ∃ (t : D) (ns : List Rec) (src' : List D), ft src [M, R, .str p, .int (deep - 1)] = some (.im t, src') ∧ nod rs t p = some ns ∧ Tr n t ∧ Src src') →
    ∀ src, Src src → ∃ (ts : List D) (nss : List Rec) (src' : List D), lcF (gN 8) tTrue (eCallS 0 ft (aCons (eV 1) (aCons (eV 2) (aCons (eV 8) (aCons (eB dSub (eV 4) (eC (.int 1))) aNil))))) [8] (ps.map .str) [some (.ol src), some (.im M), some (.im R), z3, some (.im (.int deep)), z5, z6, z7, none]
      = some (ts, [some (.ol src'), some (.im M), some (.im R), z3, some (.im (.int deep)), z5, z6, z7, none]) ∧ nodL rs ts ps = some nss ∧ ts.length = ps.length ∧ (∀ t ∈ ts, Tr n t) ∧ Src src'
  | [], _, src, hs => ⟨[], [], src, rfl, by unfold nodL; rfl, rfl, by simp, hs⟩
  | p :: ps, h, src, hs => by
    obtain ⟨t, ns, s1, e1, e2, e3, h1⟩ := h p List.mem_cons_self src hs
    obtain ⟨ts, nss, s2, f1, f2, f3, f4, h2⟩ := parts_lc (ft := ft) (M := M) (R := R) (n := n) (z3 := z3) (z5 := z5) (z6 := z6) (z7 := z7) (deep := deep) ps (fun q hq => h q (List.mem_cons_of_mem _ hq)) s1 h1
    refine ⟨t :: ts, ns ++ nss, s2, ?_, ?_, by simp [f3], ?_, h2⟩
    · rw [List.map_cons]
      unfold lcF
      simp [e1, f1]
    · rw [nodL, e2, f2]
      rfl
    · intro x hx
      rcases List.mem_cons.mp hx with rfl | hx
      · exact e3
      · exact f4 x hx
end
end WK

set_option Elab.async false
set_option linter.all false
set_option maxRecDepth 100000
set_option maxHeartbeats 4000000
namespace WK
open PySem PySem.Spec PyProof.Rows L2 DL
def fm_thing : Nat → List D → List D → Option (Sl × List D)
  | 0 => fun _ _ => none
  | n + 1 => runS (g__law_thing fm_draw (fm_thing n)) 9
def rank (rd : Rd) (k : Str) : Nat := (keys rd).idxOf k
theorem rank_lt {rd : Rd} {k : Str} (h : k ∈ keys rd) : rank rd k < rd.length := by
  have := List.idxOf_lt_length_of_mem h
  simpa [rank, keys] using this
theorem rank_eq {rd a b : Rd} {k : Str} {i : Nat} (e : rd = a ++ (k, i) :: b) (h : k ∉ keys a) : rank rd k = a.length := by
  have : keys rd = keys a ++ k :: keys b := by rw [e]; simp [keys]
  unfold rank
  rw [this, List.idxOf_append, if_neg h]
  simp [keys]
theorem rank_sub {rd a b : Rd} {p : Str} (e : rd = a ++ b) (h : p ∈ keys a) : p ∈ keys rd ∧ rank rd p < a.length := by
  have e2 : keys rd = keys a ++ keys b := by rw [e]; simp [keys]
  refine ⟨by rw [e2]; exact List.mem_append.mpr (.inl h), ?_⟩
  unfold rank
  rw [e2, List.idxOf_append, if_pos h]
  have := List.idxOf_lt_length_of_mem h
  simpa [keys] using this
theorem rangeD0 (n : Nat) : rangeD 0 n = (List.range n).map fun j => .int (j : Nat) := by
  unfold rangeD
  refine List.map_congr_left fun j _ => ?_
  rw [Int.zero_add]
/-- range(len(..)) -/
theorem range_len {e : EF} {ρ ρ' : En} {xs : List D} (h : eD e ρ = some (.tup xs, ρ')) (hl : xs.length ≤ 100000) : iR1 (aCons (eCa gLen (aCons e aNil)) aNil) ρ = some (rangeD 0 xs.length, ρ') := by
  have h1 : (aCons (eCa gLen (aCons e aNil)) aNil) ρ = some ([.int (xs.length : Nat)], ρ') := by
    rw [ev_aCons, ev_bnd, ev_eD, ev_eCa, ev_bnd, ev_aCons, ev_bnd, h]
    rfl
  unfold iR1
  rw [ev_bnd, h1]
  show (if -(2 ^ 62) ≤ ((xs.length : Nat) : Int) ∧ ((xs.length : Nat) : Int) < 2 ^ 62 then some (rangeD 0 ((xs.length : Nat) : Int).toNat, ρ') else none) = _
  rw [if_pos ⟨by omega, by omega⟩, Int.toNat_natCast]
theorem ix_mem {L : List D} {r : Int} (h0 : 0 ≤ r) (h1 : r < L.length) : ∃ y, y ∈ L ∧ dIx (.lst L) (.int r) = some (.im y) := by
  obtain ⟨y, h2, h3⟩ := atD_nn (xs := L) h0 h1
  refine ⟨y, List.mem_of_getElem? h2, ?_⟩
  show (atD L r).map Sl.im = _
  rw [h3]
  rfl
theorem bnd_at {α β : Type} {f : En → Option (α × En)} {g : α → En → Option β} {ρ ρ' : En} {a : α} (h : f ρ = some (a, ρ')) : bnd f g ρ = g a ρ' := by
  unfold bnd
  rw [h]
theorem eLc_at {fi : AF} {gb : D → En → Option En} {t : TF} {fe : EF} {vs : List Nat} {ρ ρ0 ρ' : En} {ds ys : List D} (h : fi ρ = some (ds, ρ0)) (hl : ds.length ≤ 100000) (hf : lcF gb t fe vs ds (wipeE ρ0 vs) = some (ys, ρ')) : eLc fi gb t fe vs ρ = some (.ol ys, restE ρ0 ρ' vs) := by
  unfold eLc bnd
  simp only [h, hf]
  rw [if_pos hl]
theorem CatOk.thing {ks : List Str} {rs : List Rec} (C : CatOk ks rs) {rd : Rd} (hrd : Rdy rs rd) : ∀ (n : Nat) (src : List D) (k : Str) (deep : Int), Src src → k ∈ keys rd → deep.toNat * 3 + rank rd k + 1 ≤ n →
    ∃ (t : D) (ns : List Rec) (src' : List D), fm_thing n src [encC ks rs, .dct (encR rd), .str k, .int deep] = some (.im t, src') ∧ nod rs t k = some ns ∧ Tr n t ∧ Src src' := by
  intro n
  induction n with
  | zero => intro src k deep _ _ h; omega
  | succ n IH =>
    intro src k deep hs hk hn
    have hr8 := C.rl
    have hrl := hrd.len C
    obtain ⟨a, i, b, r, e1, e2, e3, e4, e5, e6⟩ := hrd.find k hk
    have hra := rank_eq e1 e6
    have hlk := look_some e5
    have hix0 : dIx (.dct (encR rd)) (.str k) = some (.im (.int (i : Nat))) := by
      show (lookD (encR rd) (.inr k)).map Sl.im = _
      rw [hlk]
      rfl
    have fin : ∃ s xs', fm_thing (n + 1) src [encC ks rs, .dct (encR rd), .str k, .int deep] = some (s, xs') ∧ ∃ (t : D) (ns : List Rec), s = .im t ∧ nod rs t k = some ns ∧ Tr (n + 1) t ∧ Src xs' := by
      refine runS_W (P := fun s xs' => ∃ (t : D) (ns : List Rec), s = .im t ∧ nod rs t k = some ns ∧ Tr (n + 1) t ∧ Src xs') ?_
      unfold g__law_thing
      rw [W_seq]
      simp [startS, startE, hix0]
      obtain ⟨J, hJ0⟩ : ∃ J : En → Prop, ∀ ρ, J ρ ↔ (∃ (s1 : List D) (j : Nat) (q : Rec) (z6 : Option Sl), ρ = [some (.ol s1), some (.im (encC ks rs)), some (.im (.dct (encR rd))), some (.im (.str k)), some (.im (.int deep)), some (.im (.int (j : Nat))), z6, none, none] ∧ Src s1 ∧ rs[j]? = some q ∧ q.k = k ∧ ∀ p ∈ q.ps, p ∈ keys rd ∧ (deep - 1).toNat * 3 + rank rd p + 1 ≤ n) := ⟨_, fun _ => Iff.rfl⟩
      refine W.seq J ?_ ?_
      · by_cases hd : 0 < deep
        · have hlt : i < rs.length := by
            rcases Nat.lt_or_ge i rs.length with q | q
            · exact q
            · rw [List.getElem?_eq_none q] at e2; cases e2
          have h1 := sel1 C (k := k) (S := some (.ol src)) (R := some (.im (.dct (encR rd)))) (P := some (.im (.int deep))) (I := some (.im (.int (i : Nat)))) (z6 := none) (z8 := none) (List.range rs.length) fun j hj => List.mem_range.mp hj
          rw [← rangeD0] at h1
          generalize hJ : (List.range rs.length).filter (p1 rs k) = J at h1
          have hJm : ∀ j, j ∈ J ↔ j < rs.length ∧ p1 rs k j = true := fun j => by rw [← hJ, List.mem_filter, List.mem_range]
          have hJl : J.length ≤ 100 := by
            rw [← hJ]
            refine Nat.le_trans (List.length_filter_le _ _) ?_
            rw [List.length_range]
            omega
          have h2 := sel2 C (k := k) (rd := rd) (S := some (.ol src)) (P := some (.im (.int deep))) (I := some (.im (.int (i : Nat)))) (z6 := some (.im (.lst (J.map fun j => .int (j : Nat))))) J fun j hj => ((hJm j).mp hj).1
          generalize hL : J.filter (p2 rs rd) = L at h2
          have hLm : ∀ j, j ∈ L ↔ (j < rs.length ∧ p1 rs k j = true) ∧ p2 rs rd j = true := fun j => by rw [← hL, List.mem_filter, hJm]
          have hLl : L.length ≤ 100 := by
            rw [← hL]
            exact Nat.le_trans (List.length_filter_le _ _) hJl
          have hiL : i ∈ L := by
            rw [hLm]
            refine ⟨⟨hlt, ?_⟩, ?_⟩
            · unfold p1; rw [e2]; simp [e3]
            · unfold p2
              rw [e2]
              simp only [List.all_eq_true, decide_eq_true_eq]
              intro p hp
              exact (rank_sub e1 (e4 p hp)).1
          have hLp : 0 < L.length := List.length_pos_of_mem hiL
          obtain ⟨x, s2, f2, a2, b2, h3⟩ := draw_ok hs (m := (L.length : Int)) (by omega) (by omega)
          obtain ⟨y, hyL, hy2⟩ := ix_mem (L := L.map fun j => D.int (j : Nat)) a2 (by simpa using b2)
          obtain ⟨j, hjL, rfl⟩ := List.mem_map.mp hyL
          obtain ⟨⟨hj1, hj2⟩, hj3⟩ := (hLm j).mp hjL
          have hg : rs[j]? = some rs[j] := List.getElem?_eq_getElem hj1
          generalize rs[j] = q at hg
          unfold p1 at hj2
          unfold p2 at hj3
          rw [hg] at hj2 hj3
          simp only [decide_eq_true_eq, List.all_eq_true] at hj2 hj3
          have hJ2 : J.length ≤ 100000 := by omega
          have q1 := range_len (e := eB dIx (eV 1) (eC (.int 1))) (ρ := [some (.ol src), some (.im (encC ks rs)), some (.im (.dct (encR rd))), some (.im (.str k)), some (.im (.int deep)), some (.im (.int (i : Nat))), none, none, none]) (ρ' := [some (.ol src), some (.im (encC ks rs)), some (.im (.dct (encR rd))), some (.im (.str k)), some (.im (.int deep)), some (.im (.int (i : Nat))), none, none, none]) (xs := rs.map enc) (by simp) (by simp; omega)
          rw [List.length_map] at q1
          have hrl2 : rs.length ≤ 100000 := by omega
          rw [W_if]
          simp [hd]
          rw [W_seq, W_set, ev_eD, eLc_at q1 (by rw [rangeD_len]; exact hrl2) h1]
          simp
          rw [W_seq]
          simp [hJ2, h2]
          simp [f2, hy2]
          exact (hJ0 _).mpr ⟨s2, j, q, _, rfl, h3, hg, hj2, fun p hp => ⟨hj3 p hp, by have := rank_lt (hj3 p hp); omega⟩⟩
        · rw [W_if]
          simp [hd]
          exact (hJ0 _).mpr ⟨src, i, r, _, rfl, hs, e2, e3, fun p hp => by
            obtain ⟨h1, h2⟩ := rank_sub e1 (e4 p hp)
            exact ⟨h1, by omega⟩⟩
      · intro ρ hρ
        obtain ⟨s1, j, q, z6, rfl, h1, hq, hqk, hqp⟩ := (hJ0 ρ).mp hρ
        have hqm := List.mem_of_getElem? hq
        have hlt : j < rs.length := by
          rcases Nat.lt_or_ge j rs.length with q | q
          · exact q
          · rw [List.getElem?_eq_none q] at hq; cases hq
        obtain ⟨ts, nss, s2, f1, f2, f3, f4, h2⟩ := parts_lc (rs := rs) (ft := fm_thing n) (M := encC ks rs) (R := .dct (encR rd)) (n := n) (z3 := some (.im (.str k))) (z5 := some (.im (.int (j : Nat)))) (z6 := z6) (z7 := none) (deep := deep) q.ps
          (fun p hp src hs => IH src p (deep - 1) hs (hqp p hp).1 (hqp p hp).2) s1 h1
        have hpl := C.pl q hqm
        have hpl2 : q.ps.length ≤ 100000 := by omega
        have hix := ix_rec hq
        simp [hix, ix_enc2, f1, hpl2]
        refine ⟨⟨q :: nss, ?_⟩, .mk (by omega) (by omega) f4, h2⟩
        rw [nod_cons (by omega) (by simpa using hq), if_pos hqk, f2]
        rfl
    obtain ⟨s, xs', f1, t, ns, rfl, f2, f3, f4⟩ := fin
    exact ⟨t, ns, xs', f1, f2, f3, f4⟩
end WK

set_option Elab.async false
set_option linter.all false
set_option maxRecDepth 100000
set_option maxHeartbeats 4000000
namespace WK
open PySem PySem.Spec PyProof.Rows L2 DL
theorem Tr.ok {n : Nat} {t : D} (h : Tr n t) : okD t (2 * n) = true := by
  induction h with
  | mk h1 h2 h3 ih =>
    rename_i n i xs
    have e : okL xs (2 * n) = true := okL_iff.mpr ih
    show okD _ (2 * n + 1 + 1) = true
    simp [okD, okL, e]
theorem cut_to {α : Type} (xs : List α) (p : Nat) (h : p ≤ xs.length) : DL.cutD xs none (some (p : Nat)) = xs.take p := by
  unfold DL.cutD
  rw [HT.sIx_nat]
  show ((xs.drop 0).take (min p xs.length - 0)) = _
  simp [Nat.min_eq_left h]
theorem cut_from {α : Type} (xs : List α) (p : Nat) (h : p ≤ xs.length) : DL.cutD xs (some (p : Nat)) none = xs.drop p := by
  unfold DL.cutD
  rw [HT.sIx_nat]
  show ((xs.drop (min p xs.length)).take (xs.length - min p xs.length)) = _
  rw [Nat.min_eq_left h]
  exact List.take_of_length_le (by simp)
theorem cut_mem {α : Type} {xs : List α} {lo hi : Option Int} {x : α} (h : x ∈ DL.cutD xs lo hi) : x ∈ xs := by
  unfold DL.cutD at h
  exact List.mem_of_mem_drop (List.mem_of_mem_take h)
theorem okD_tup {xs : List D} {n : Nat} : okD (.tup xs) (n + 1) = okL xs n := by simp [okD]
theorem okD_lst {xs : List D} {n : Nat} : okD (.lst xs) (n + 1) = okL xs n := by simp [okD]
theorem okD_int {i : Int} {n : Nat} : okD (.int i) n = true := by cases n <;> simp [okD]
theorem okD_bl {i : Bool} {n : Nat} : okD (.bl i) n = true := by cases n <;> simp [okD]
theorem okD_non {n : Nat} : okD .non n = true := by cases n <;> simp [okD]
theorem okL_nil {n : Nat} : okL [] n = true := by simp [okL]
theorem okL_cons {x : D} {xs : List D} {n : Nat} : okL (x :: xs) n = (okD x n && okL xs n) := by simp [okL]
theorem digS_ok {n : Nat} (h : n < 10) : PyData.strOk (digS n) = true := strOk_of fun c hc => by
  rw [tl_digit h] at hc
  rw [List.mem_singleton.mp hc]
  omega
theorem add_tup {a b : List D} (h : a.length + b.length ≤ 100000) : dAdd (.tup a) (.tup b) = some (.im (.tup (a ++ b))) := by
  show (if a.length + b.length ≤ big then some (Sl.im (.tup (a ++ b))) else none) = _
  rw [if_pos h]
theorem add_lst {a b : List D} (h : a.length + b.length ≤ 100000) : dAdd (.lst a) (.lst b) = some (.ol (a ++ b)) := by
  show (if a.length + b.length ≤ big then some (Sl.ol (a ++ b)) else none) = _
  rw [if_pos h]
theorem okL_app {a b : List D} {n : Nat} : okL (a ++ b) n = (okL a n && okL b n) := by
  induction a with
  | nil => simp [okL]
  | cons x a ih => simp [okL, ih, Bool.and_assoc]
theorem okL_sub {a b : List D} {n : Nat} (h : okL b n = true) (s : ∀ x ∈ a, x ∈ b) : okL a n = true := okL_iff.mpr fun x hx => okL_iff.mp h x (s x hx)
theorem okD_str {x : Str} {n : Nat} : okD (.str x) n = PyData.strOk x := by cases n <;> simp [okD]
end WK

set_option Elab.async false
set_option linter.all false
set_option maxRecDepth 100000
set_option maxHeartbeats 4000000
namespace WK
open PySem PySem.Spec PyProof.Rows L2 DL
/-! ### counts_of -/
def wt (ns : List Rec) : Int := (ns.map (·.own)).sum
def cnt (ns : List Rec) (k : Str) : Int := ((ns.filter fun r => decide (r.k = k)).length : Nat)
theorem vec_eq (ks : List Str) (ns : List Rec) : vec ks ns = wt ns :: ks.map (cnt ns) := rfl
theorem wt_perm {a b : List Rec} (h : a.Perm b) : wt a = wt b := by
  unfold wt
  induction h with
  | nil => rfl
  | cons x _ ih => simp [ih]
  | swap x y l => simp; omega
  | trans _ _ h1 h2 => exact h1.trans h2
theorem cnt_perm {a b : List Rec} (h : a.Perm b) (k : Str) : cnt a k = cnt b k := by
  unfold cnt
  rw [(h.filter _).length_eq]
theorem wt_app (a b : List Rec) : wt (a ++ b) = wt a + wt b := by simp [wt]
theorem wt_len {a : List Rec} (h : ∀ r ∈ a, 1 ≤ r.own) : (a.length : Int) ≤ wt a := by
  induction a with
  | nil => simp [wt]
  | cons x a ih =>
    have h1 := h x (by simp)
    have h2 := ih fun r hr => h r (List.mem_cons_of_mem _ hr)
    have : wt (x :: a) = x.own + wt a := by simp [wt]
    rw [this]
    simp only [List.length_cons]
    omega
theorem cnt_snoc (b : List Rec) (r : Rec) (k : Str) : cnt (b ++ [r]) k = cnt b k + if r.k = k then 1 else 0 := by
  unfold cnt
  rw [List.filter_append, List.length_append]
  by_cases h : r.k = k <;> simp [h]
theorem nodL_app {rs : List Rec} : ∀ {xs ys : List D} {ps qs : List Str}, xs.length = ps.length → nodL rs (xs ++ ys) (ps ++ qs) = (match nodL rs xs ps with
  | some a => (nodL rs ys qs).map (a ++ ·)
  | none => none)
  | [], ys, [], qs, _ => by
    have e : nodL rs [] [] = some [] := by unfold nodL; rfl
    rw [e]
    simp
  | x :: xs, ys, p :: ps, qs, h => by
    have ih := nodL_app (rs := rs) (xs := xs) (ys := ys) (ps := ps) (qs := qs) (by simpa using h)
    rw [List.cons_append, List.cons_append, nodL, nodL, ih]
    cases nod rs x p with
    | none => rfl
    | some a =>
      cases nodL rs xs ps with
      | none => rfl
      | some c =>
        cases nodL rs ys qs with
        | none => rfl
        | some e => simp
  | [], _, _ :: _, _, h => by cases h
  | _ :: _, _, [], _, h => by cases h
/-- the same recipes, in some order -/
def PO : Option (List Rec) → Option (List Rec) → Prop
  | some a, some b => a.Perm b
  | none, none => True
  | _, _ => False
theorem look_put {d : D} {k k' : Key} : ∀ {kvs : List (Key × D)}, lookD (putD kvs k d) k' = if k = k' then some d else lookD kvs k'
  | [] => by
    show (if k = k' then some d else none) = _
    rfl
  | (a, x) :: r => by
    have hm : ∀ (l : List (Key × D)), k ≠ k' → lookD (l.map fun kv => if kv.1 = k then (kv.1, d) else kv) k' = lookD l k' := by
      intro l hne
      induction l with
      | nil => rfl
      | cons y l ih =>
        obtain ⟨b, z⟩ := y
        rw [List.map_cons]
        by_cases hb : b = k
        · subst hb
          rw [if_pos rfl]
          show (if b = k' then some d else lookD _ k') = (if b = k' then some z else lookD l k')
          rw [if_neg hne, if_neg hne, ih]
        · rw [if_neg hb]
          show (if b = k' then some z else lookD _ k') = (if b = k' then some z else lookD l k')
          rw [ih]
    by_cases ha : a = k
    · subst ha
      show lookD (if a = a then (a, d) :: r.map (fun kv => if kv.1 = a then (kv.1, d) else kv) else (a, x) :: putD r a d) k' = if a = k' then some d else (if a = k' then some x else lookD r k')
      rw [if_pos rfl]
      show (if a = k' then some d else lookD _ k') = _
      by_cases h : a = k'
      · rw [if_pos h, if_pos h]
      · rw [if_neg h, if_neg h, if_neg h, hm r h]
    · have ih := look_put (d := d) (k := k) (k' := k') (kvs := r)
      show lookD (if a = k then (a, d) :: r.map (fun kv => if kv.1 = k then (kv.1, d) else kv) else (a, x) :: putD r k d) k' = if k = k' then some d else (if a = k' then some x else lookD r k')
      rw [if_neg ha]
      show (if a = k' then some x else lookD (putD r k d) k') = _
      rw [ih]
      by_cases h : a = k'
      · have h2 : ¬ k = k' := fun e => ha (h.trans e.symm)
        rw [if_pos h, if_neg h2, if_pos h]
      · rw [if_neg h, if_neg h]
theorem put_len {d : D} {k : Key} : ∀ {kvs : List (Key × D)}, (putD kvs k d).length ≤ kvs.length + 1
  | [] => by simp [putD]
  | (a, x) :: r => by
    unfold putD
    split
    · simp
    · have := put_len (d := d) (k := k) (kvs := r)
      simp only [List.length_cons]
      omega
theorem pop_app {xs : List D} {d : D} : mPop (xs ++ [d]) [] = some (d, xs) := by
  show ((xs ++ [d])[(xs ++ [d]).length - 1]?).map (fun e => (e, (xs ++ [d]).dropLast)) = _
  simp
structure CI (rs : List Rec) (t : D) (k : Str) (n : Nat) (b : List Rec) (st : List (D × Str)) (kvs : List (Key × D)) : Prop where
  po : PO (nod rs t k) ((nodL rs (st.map (·.1)) (st.map (·.2))).map (b ++ ·))
  ok : ∀ p ∈ st, okD p.1 n = true
  ct : ∀ q, (lookD kvs (.inr q)).getD (.int 0) = .int (cnt b q)
  own : ∀ r ∈ b, 1 ≤ r.own
  sl : st.length ≤ 1 + 3 * b.length
  kl : kvs.length ≤ b.length
/-- what counts_of answers -/
structure CR (rs : List Rec) (t : D) (k : Str) (m : Int) (s : D) : Prop where
  yes : ∀ ns, nod rs t k = some ns → wt ns ≤ m → ∃ kvs, s = .tup [.int (wt ns), .dct kvs] ∧ ∀ q, (lookD kvs (.inr q)).getD (.int 0) = .int (cnt ns q)
  no : (nod rs t k = none ∨ ∃ ns, nod rs t k = some ns ∧ m < wt ns) → s = .non
def fm_counts_of : List D → Option Sl := runP (g_counts_of fm_is_between) 12
def stk (st : List (D × Str)) : List D := st.map fun p => .tup [p.1, .str p.2]
theorem stk_app (a : List (D × Str)) (p : D × Str) : stk (a ++ [p]) = stk a ++ [.tup [p.1, .str p.2]] := by simp [stk]
theorem PO.none_left {o : Option (List Rec)} (h : PO o none) : o = none := by
  cases o with
  | none => rfl
  | some a => exact h.elim
section
variable {rs : List Rec} {t : D} {k : Str} {n : Nat} {b : List Rec} {st : List (D × Str)} {kvs : List (Key × D)}
/-- a thing of the pile that is none -/
theorem CI.bad {v : D} {p : Str} (h : CI rs t k n b (st ++ [(v, p)]) kvs) (hn : nod rs v p = none) : nod rs t k = none := by
  have e : nodL rs ((st ++ [(v, p)]).map (·.1)) ((st ++ [(v, p)]).map (·.2)) = none := by
    rw [List.map_append, List.map_append, nodL_app (by simp)]
    cases nodL rs (st.map (·.1)) (st.map (·.2)) with
    | none => rfl
    | some a =>
      show (nodL rs [v] [p]).map _ = none
      rw [nodL, hn]
      rfl
  have := h.po
  rw [e] at this
  exact this.none_left
theorem map_zip_fst {xs : List D} {ps : List Str} (h : xs.length = ps.length) : (xs.zip ps).map (·.1) = xs := List.map_fst_zip (by omega)
theorem map_zip_snd {xs : List D} {ps : List Str} (h : xs.length = ps.length) : (xs.zip ps).map (·.2) = ps := List.map_snd_zip (by omega)
/-- one that is -/
theorem CI.good {xs : List D} {j : Nat} {r : Rec} (h : CI rs t k n b (st ++ [(.tup [.int (j : Nat), .tup xs], r.k)]) kvs) (hr : rs[j]? = some r) (ho : 1 ≤ r.own) (hl : xs.length = r.ps.length) (h3 : r.ps.length ≤ 3) :
    CI rs t k n (b ++ [r]) (st ++ xs.zip r.ps) (putD kvs (.inr r.k) (.int (cnt b r.k + 1))) where
  po := by
    have hp := h.po
    have e0 := nod_cons (rs := rs) (i := (j : Nat)) (xs := xs) (k := r.k) (r := r) (by omega) (by simpa using hr)
    rw [if_pos rfl] at e0
    rw [List.map_append, List.map_append, nodL_app (by simp)] at hp ⊢
    rw [map_zip_fst hl, map_zip_snd hl]
    cases e1 : nodL rs (st.map (·.1)) (st.map (·.2)) with
    | none => rw [e1] at hp; exact hp
    | some a =>
      rw [e1] at hp
      simp only [List.map_cons, List.map_nil] at hp
      rw [nodL, e0] at hp
      cases e2 : nodL rs xs r.ps with
      | none => rw [e2] at hp; exact hp
      | some c =>
        rw [e2] at hp
        have en : nodL rs [] [] = some [] := by unfold nodL; rfl
        simp only [Option.map_some, en, List.append_nil] at hp ⊢
        cases hN : nod rs t k with
        | none => rw [hN] at hp; exact hp
        | some ns =>
          rw [hN] at hp
          show ns.Perm _
          have hp : ns.Perm (b ++ (a ++ r :: c)) := hp
          refine hp.trans ?_
          have : (b ++ [r] ++ (a ++ c)) = b ++ (r :: (a ++ c)) := by simp
          rw [this]
          exact List.Perm.append_left b List.perm_middle
  ok := by
    intro p hp
    rcases List.mem_append.mp hp with q | q
    · exact h.ok p (List.mem_append.mpr (.inl q))
    · have hv := h.ok (.tup [.int (j : Nat), .tup xs], r.k) (by simp)
      have hx : p.1 ∈ xs := (List.of_mem_zip (show (p.1, p.2) ∈ xs.zip r.ps from q)).1
      cases n with
      | zero => unfold okD at hv; cases hv
      | succ n =>
        rw [okD_tup, okL_cons, okL_cons] at hv
        simp only [Bool.and_eq_true] at hv
        have h2 := hv.2.1
        cases n with
        | zero => unfold okD at h2; cases h2
        | succ n =>
          rw [okD_tup] at h2
          exact okD_mono (by omega) (okL_iff.mp h2 _ hx)
  ct := by
    intro q
    rw [look_put, cnt_snoc]
    by_cases e : r.k = q
    · subst e
      rw [if_pos rfl, if_pos rfl]
      rfl
    · rw [if_neg (fun z => e (Sum.inr.inj z)), if_neg e, h.ct q, Int.add_zero]
  own := by
    intro q hq
    rcases List.mem_append.mp hq with z | z
    · exact h.own q z
    · rw [List.mem_singleton.mp z]; exact ho
  sl := by
    have := h.sl
    simp only [List.length_append, List.length_singleton, List.length_zip] at this ⊢
    omega
  kl := by
    have h1 := h.kl
    have h2 := put_len (d := .int (cnt b r.k + 1)) (k := .inr r.k) (kvs := kvs)
    simp only [List.length_append, List.length_singleton]
    omega
theorem CI.end_ {m : Int} (h : CI rs t k n b [] kvs) (hw : wt b ≤ m) : CR rs t k m (.tup [.int (wt b), .dct kvs]) := by
  have hp := h.po
  have en : nodL rs [] [] = some [] := by unfold nodL; rfl
  simp only [List.map_nil, en, Option.map_some, List.append_nil] at hp
  cases hN : nod rs t k with
  | none => rw [hN] at hp; exact hp.elim
  | some ns =>
    rw [hN] at hp
    have hp : ns.Perm b := hp
    refine ⟨fun ms e _ => ?_, fun e => ?_⟩
    · rw [hN] at e
      cases e
      exact ⟨kvs, by rw [wt_perm hp], fun q => by rw [h.ct q, cnt_perm hp]⟩
    · rcases e with e | ⟨ms, e, e2⟩
      · rw [hN] at e; cases e
      · rw [hN] at e
        cases e
        rw [wt_perm hp] at e2
        omega
theorem nod_some {v : D} {p : Str} {ns : List Rec} (h : nod rs v p = some ns) : ∃ (i : Int) (xs : List D) (r : Rec) (c : List Rec), v = .tup [.int i, .tup xs] ∧ 0 ≤ i ∧ rs[i.toNat]? = some r ∧ r.k = p ∧ nodL rs xs r.ps = some c ∧ ns = r :: c := by
  rw [nod.eq_def] at h
  split at h
  · rename_i i xs
    split at h
    · split at h
      · rename_i r hr
        split at h
        · rename_i hk
          cases e2 : nodL rs xs r.ps with
          | none => rw [e2] at h; cases h
          | some c =>
            rw [e2] at h
            cases h
            exact ⟨i, xs, r, c, rfl, by assumption, hr, hk, e2, rfl⟩
        · cases h
      · cases h
    · cases h
  · cases h
theorem nod_own (C : ∀ r ∈ rs, 1 ≤ r.own) : ∀ {m : Nat} {v : D} {p : Str} {ns : List Rec}, okD v m = true → nod rs v p = some ns → ∀ r ∈ ns, 1 ≤ r.own := by
  intro m
  induction m with
  | zero =>
    intro v p ns ho hn
    obtain ⟨i, xs, r, c, rfl, _⟩ := nod_some hn
    unfold okD at ho
    cases ho
  | succ m ih =>
    intro v p ns ho hn
    obtain ⟨i, xs, r, c, rfl, h0, hr, hk, e2, rfl⟩ := nod_some hn
    have hx : ∀ x ∈ xs, okD x m = true := by
      rw [okD_tup, okL_cons, okL_cons] at ho
      simp only [Bool.and_eq_true] at ho
      have h2 := ho.2.1
      cases m with
      | zero => unfold okD at h2; cases h2
      | succ m =>
        rw [okD_tup] at h2
        exact fun x hx => okD_mono (by omega) (okL_iff.mp h2 x hx)
    have hL : ∀ (ys : List D) (ps : List Str) (ms : List Rec), (∀ x ∈ ys, okD x m = true) → nodL rs ys ps = some ms → ∀ r ∈ ms, 1 ≤ r.own := by
      intro ys
      induction ys with
      | nil =>
        intro ps ms _ e
        cases ps with
        | nil => unfold nodL at e; cases e; simp
        | cons _ _ => unfold nodL at e; cases e
      | cons y ys ihy =>
        intro ps ms hy e
        cases ps with
        | nil => unfold nodL at e; cases e
        | cons p ps =>
          rw [nodL] at e
          cases e1 : nod rs y p with
          | none => rw [e1] at e; cases e
          | some a =>
            rw [e1] at e
            cases e2 : nodL rs ys ps with
            | none => rw [e2] at e; cases e
            | some c =>
              rw [e2] at e
              cases e
              intro r hr
              rcases List.mem_append.mp hr with q | q
              · exact ih (hy y (by simp)) e1 r q
              · exact ihy ps c (fun x hx => hy x (List.mem_cons_of_mem _ hx)) e2 r q
    intro q hq
    rcases List.mem_cons.mp hq with rfl | hq
    · exact C _ (List.mem_of_getElem? hr)
    · exact hL xs r.ps c hx e2 q hq
theorem nodL_own (C : ∀ r ∈ rs, 1 ≤ r.own) {m : Nat} : ∀ {ys : List D} {ps : List Str} {ms : List Rec}, (∀ x ∈ ys, okD x m = true) → nodL rs ys ps = some ms → ∀ r ∈ ms, 1 ≤ r.own
  | [], [], _, _, e => by unfold nodL at e; cases e; simp
  | [], _ :: _, _, _, e => by unfold nodL at e; cases e
  | _ :: _, [], _, _, e => by unfold nodL at e; cases e
  | y :: ys, p :: ps, ms, hy, e => by
    rw [nodL] at e
    cases e1 : nod rs y p with
    | none => rw [e1] at e; cases e
    | some a =>
      rw [e1] at e
      cases e2 : nodL rs ys ps with
      | none => rw [e2] at e; cases e
      | some c =>
        rw [e2] at e
        cases e
        intro r hr
        rcases List.mem_append.mp hr with q | q
        · exact nod_own C (hy y (by simp)) e1 r q
        · exact nodL_own C (fun x hx => hy x (List.mem_cons_of_mem _ hx)) e2 r q
/-- too heavy -/
theorem CI.over (C : ∀ r ∈ rs, 1 ≤ r.own) {m : Int} (h : CI rs t k n b st kvs) (hw : m < wt b) : CR rs t k m .non := by
  refine ⟨fun ns e hle => ?_, fun _ => rfl⟩
  exfalso
  have hp := h.po
  rw [e] at hp
  cases e1 : nodL rs (st.map (·.1)) (st.map (·.2)) with
  | none => rw [e1] at hp; exact hp
  | some a =>
    rw [e1] at hp
    have hp : ns.Perm (b ++ a) := hp
    rw [wt_perm hp, wt_app] at hle
    have h1 : ∀ r ∈ a, 1 ≤ r.own := nodL_own C (m := n) (fun x hx => by
      obtain ⟨p, hp, rfl⟩ := List.mem_map.mp hx
      exact h.ok p hp) e1
    have h2 := wt_len h1
    omega
end
end WK

set_option Elab.async false
set_option linter.all false
set_option maxRecDepth 100000
set_option maxHeartbeats 4000000
namespace WK
open PySem PySem.Spec PyProof.Rows L2 DL
theorem stk_len (st : List (D × Str)) : (stk st).length = st.length := by simp [stk]
theorem stk_zip {xs : List D} {ps : List Str} : zipD xs (ps.map .str) = stk (xs.zip ps) := by
  unfold zipD stk
  rw [List.map_zip_eq_zipWith, List.zipWith_map_right]
  rfl
theorem okD_ty {d : D} {n : Nat} (h : okD d n = true) : Ty d := by
  unfold Ty
  cases d <;> first | rfl | (cases n <;> (unfold okD at h; cases h))
theorem nod_no {rs : List Rec} {v : D} {p : Str} (h : ∀ i xs r c, v = .tup [.int i, .tup xs] → 0 ≤ i → rs[i.toNat]? = some r → r.k = p → nodL rs xs r.ps = some c → False) : nod rs v p = none := by
  cases hN : nod rs v p with
  | none => rfl
  | some ns =>
    obtain ⟨i, xs, r, c, e1, e2, e3, e4, e5, _⟩ := nod_some hN
    exact (h i xs r c e1 e2 e3 e4 e5).elim
theorem okD_tup' {xs : List D} {n : Nat} (h : okD (.tup xs) n = true) : ∀ x ∈ xs, okD x n = true := by
  cases n with
  | zero => unfold okD at h; cases h
  | succ n =>
    rw [okD_tup] at h
    exact fun x hx => okD_mono (by omega) (okL_iff.mp h x hx)
theorem CatOk.counts {ks : List Str} {rs : List Rec} (C : CatOk ks rs) {t : D} {k : Str} {m : Int} {n : Nat} (ht : okD t n = true) (h0 : 0 ≤ m) (hm : m ≤ 100) : ∃ s, fm_counts_of [t, .str k, .tup (rs.map enc), .int m] = some (.im s) ∧ CR rs t k m s := by
  have hr8 := C.rl
  have fin : ∃ s, fm_counts_of [t, .str k, .tup (rs.map enc), .int m] = some s ∧ ∃ d, s = .im d ∧ CR rs t k m d := by
    refine runP_W (P := fun s => ∃ d, s = .im d ∧ CR rs t k m d) ?_
    unfold g_counts_of
    rw [W_seq]
    simp [startE]
    obtain ⟨J, hJ⟩ : ∃ J : En → Prop, ∀ ρ, J ρ ↔ (∃ (b : List Rec) (st : List (D × Str)) (kvs : List (Key × D)) (z7 z8 z9 z10 z11 : Option Sl), ρ = [some (.im t), some (.im (.str k)), some (.im (.tup (rs.map enc))), some (.im (.int m)), some (.ol (stk st)), some (.im (.int (wt b))), some (.od kvs), z7, z8, z9, z10, z11] ∧ CI rs t k n b st kvs ∧ (st = [] ∨ m < wt b)) := ⟨_, fun _ => Iff.rfl⟩
    refine W.seq J ?_ ?_
    · obtain ⟨I, hI⟩ : ∃ I : Nat → En → Prop, ∀ f ρ, I f ρ ↔ (∃ (b : List Rec) (st : List (D × Str)) (kvs : List (Key × D)) (z7 z8 z9 z10 z11 : Option Sl), ρ = [some (.im t), some (.im (.str k)), some (.im (.tup (rs.map enc))), some (.im (.int m)), some (.ol (stk st)), some (.im (.int (wt b))), some (.od kvs), z7, z8, z9, z10, z11] ∧ CI rs t k n b st kvs ∧ f = (m + 10 - wt b).toNat ∧ wt b ≤ m + 9) := ⟨_, fun _ _ => Iff.rfl⟩
      refine W.while I (n := (m + 10).toNat) (by omega) ((hI _ _).mpr ⟨[], [(t, k)], [], none, none, none, none, none, rfl, ⟨?_, ?_, ?_, ?_, ?_, ?_⟩, ?_, ?_⟩) ?_
      · simp only [List.map_cons, List.map_nil]
        rw [nodL]
        have en : nodL rs [] [] = some [] := by unfold nodL; rfl
        cases hN : nod rs t k with
        | none => trivial
        | some ns => rw [en]; simp [PO]
      · intro p hp
        rw [List.mem_singleton.mp hp]
        exact ht
      · intro q; rfl
      · simp
      · simp
      · simp
      · simp [wt]
      · simp [wt]; omega
      · intro f ρ hρ
        obtain ⟨b, st, kvs, z7, z8, z9, z10, z11, rfl, hc, hf, hw⟩ := (hI f ρ).mp hρ
        have hbl := wt_len hc.own
        rcases List.eq_nil_or_concat st with rfl | ⟨st, ⟨v, p⟩, rfl⟩
        · simp [stk]
          exact (hJ _).mpr ⟨b, [], kvs, _, _, _, _, _, rfl, hc, .inl rfl⟩
        · rw [List.concat_eq_append] at hc hρ ⊢
          by_cases hwm : wt b ≤ m
          · have hp1 : (0 : Int) < (stk st).length + 1 := by omega
            simp [stk_app, hp1, hwm]
            rw [W_seq]
            simp [pop_app]
            have bad : nod rs v p = none → CR rs t k m .non := fun h => ⟨fun ns e => by (rw [hc.bad h] at e; cases e), fun _ => rfl⟩
            have hov := hc.ok (v, p) (by simp)
            clear hρ
            by_cases hT : D.isTup v = true
            · cases v with
              | tup xs =>
                have hox := okD_tup' hov
                match xs, hox, bad, hc with
                | [], _, bad, _ =>
                  rw [W_seq]
                  simp [gIsi, DL.D.ty, eq_int]
                  exact bad (by rw [nod]; simp)
                | [x], _, bad, _ =>
                  rw [W_seq]
                  simp [gIsi, DL.D.ty, eq_int]
                  exact bad (by rw [nod]; simp)
                | x :: y :: z :: xs, _, bad, _ =>
                  have ne : ¬ ((xs.length : Int) + 1 + 1 + 1 = 2) := by omega
                  rw [W_seq]
                  simp [gIsi, DL.D.ty, eq_int, ne]
                  exact bad (by rw [nod]; simp)
                | [x, y], hox, bad, hc =>
                  have hx := hox x (by simp)
                  have hy := hox y (by simp)
                  have hib := is_between_at x (okD_ty hx) 0 ((rs.length : Int) - 1)
                  by_cases hj : ∃ j : Nat, x = .int (j : Nat) ∧ j < rs.length
                  · obtain ⟨j, rfl, hjl⟩ := hj
                    have hr : rs[j]? = some rs[j] := List.getElem?_eq_getElem hjl
                    generalize rs[j] = r at hr
                    have hix := ix_rec hr
                    have hj1 : (j : Int) ≤ (rs.length : Int) - 1 := by omega
                    simp [hj1] at hib
                    rw [W_seq]
                    simp [gIsi, DL.D.ty, eq_int, hib]
                    rw [W_seq]
                    simp [hix]
                    by_cases hk : r.k = p
                    · by_cases hY : D.isTup y = true
                      · cases y with
                        | tup xs =>
                          by_cases hl : xs.length = r.ps.length
                          · subst hk
                            have hrm := List.mem_of_getElem? hr
                            have hpl := C.pl r hrm
                            have hg := hc.good hr (C.o1 r hrm) hl hpl
                            have ho1 := C.o1 r hrm
                            have ho3 := C.o3 r hrm
                            have hct := hc.ct r.k
                            have hsl := hc.sl
                            have hkl := hc.kl
                            have hkb : kvs.length < 100000 := by omega
                            have hwb : wt (b ++ [r]) = wt b + r.own := by simp [wt_app, wt]
                            simp only [List.length_append, List.length_singleton] at hsl
                            rw [W_seq]
                            simp [eq_str, eq_int, gIsi, DL.D.ty, hl]
                            rw [W_seq]
                            simp [dI2]
                            rw [W_seq]
                            simp [mkKey, hct, hkb]
                            have hxb : xs.length ≤ 100000 := by omega
                            have hex : mExt (stk st) [.lst (zipD xs (r.ps.map .str))] = some (.non, stk (st ++ xs.zip r.ps)) := by
                              show (if (stk st).length + (zipD xs (r.ps.map .str)).length ≤ big then some (D.non, stk st ++ zipD xs (r.ps.map .str)) else none) = _
                              rw [if_pos (by rw [stk_len, zipD_len]; simp; omega), stk_zip]
                              simp [stk]
                            simp [hxb, hex]
                            have hwr : wt b + r.own ≤ m + 9 := by omega
                            exact ⟨(m + 10 - (wt b + r.own)).toNat, by omega, (hI _ _).mpr ⟨b ++ [r], _, _, _, _, _, _, _, by rw [hwb], hg, by rw [hwb], by rw [hwb]; exact hwr⟩⟩
                          · rw [W_seq]
                            have hl2 : ¬ ((xs.length : Int) = r.ps.length) := by omega
                            simp [eq_str, eq_int, gIsi, DL.D.ty, hk, hl2]
                            refine bad (nod_no fun i xs' r' c e0 e1 e2 e3 e4 => ?_)
                            simp at e0
                            obtain ⟨rfl, rfl⟩ := e0
                            simp [hr] at e2
                            subst e2
                            rw [nodL_len hl] at e4
                            cases e4
                        | _ => cases hY
                      · have : nod rs (.tup [.int (j : Nat), y]) p = none := nod_no fun i xs' r' c e0 e1 e2 e3 e4 => by
                          simp at e0
                          rw [e0.2] at hY
                          exact hY rfl
                        have hb := bad this
                        cases y <;> first | exact absurd rfl hY | (rw [W_seq]; simp [eq_str, eq_int, gIsi, DL.D.ty, hk]; exact hb) | (exact absurd hy (by cases n <;> simp [okD]))
                    · rw [W_seq]
                      simp [eq_str, hk]
                      refine bad (nod_no fun i xs' r' c e0 e1 e2 e3 e4 => ?_)
                      simp at e0
                      obtain ⟨rfl, rfl⟩ := e0
                      simp [hr] at e2
                      subst e2
                      exact hk e3
                  · have hno : nod rs (.tup [x, y]) p = none := nod_no fun i xs' r' c e0 e1 e2 e3 e4 => by
                      simp at e0
                      obtain ⟨i', rfl⟩ := Int.eq_ofNat_of_zero_le e1
                      refine hj ⟨i', e0.1, ?_⟩
                      rcases Nat.lt_or_ge i' rs.length with q | q
                      · exact q
                      · rw [Int.toNat_natCast, List.getElem?_eq_none q] at e2; cases e2
                    have hib2 : fm_is_between [x, .int 0, .int ((rs.length : Int) - 1)] = some (.im (.bl false)) := by
                      rw [hib]
                      cases x with
                      | int i =>
                        by_cases hi0 : 0 ≤ i
                        · obtain ⟨i', rfl⟩ := Int.eq_ofNat_of_zero_le hi0
                          have : ¬ ((i' : Int) ≤ (rs.length : Int) - 1) := fun q => hj ⟨i', rfl, by omega⟩
                          simp [this]
                        · simp [hi0]
                      | _ => rfl
                    rw [W_seq]
                    simp [gIsi, DL.D.ty, eq_int, hib2]
                    exact bad hno
              | _ => cases hT
            · have hT2 : D.isTup v = false := by simpa using hT
              have := bad (nod_other hT2)
              cases v <;> first | (cases hT2; done) | (rw [W_seq]; simp [gIsi, DL.D.ty]; exact this) | (exact absurd hov (by cases n <;> simp [okD]))
          · have hp1 : (0 : Int) < (stk st).length + 1 := by omega
            simp [stk_app, hp1, hwm]
            exact (hJ _).mpr ⟨b, st ++ [(v, p)], kvs, _, _, _, _, _, by rw [stk_app], hc, .inr (by omega)⟩
    · intro ρ hρ
      obtain ⟨b, st, kvs, z7, z8, z9, z10, z11, rfl, hc, he⟩ := (hJ ρ).mp hρ
      by_cases hwm : wt b ≤ m
      · simp [hwm]
        rcases he with rfl | he
        · exact hc.end_ hwm
        · omega
      · simp [hwm]
        exact hc.over C.o1 (by omega)
  obtain ⟨s, h1, d, rfl, h2⟩ := fin
  exact ⟨d, h1, h2⟩
end WK

set_option Elab.async false
set_option linter.all false
set_option maxRecDepth 100000
set_option maxHeartbeats 4000000
namespace WK
open PySem PySem.Spec PyProof.Rows L2 DL
/-! ### the checker, at a thing -/
def fm_is_thing_shown : List D → Option Sl := runP (g_is_thing_shown fm_is_between fm_counts_of fm_is_integer) 6
def fm_accepts : List D → Option Sl := runP (g_accepts fm_told_catalogue fm_is_thing_shown) 3
def fit1 (rs : List Rec) (t : D) (k : Str) (w : Int) : Bool := match nod rs t k with
  | some ns => decide (wt ns = w) && decide (w < 101)
  | none => false
def fit2 (rs : List Rec) (t : D) (k : Str) (w : Int) (q : Str) (c : Int) : Bool := match nod rs t k with
  | some ns => decide (wt ns = w) && decide (w < 101) && decide (cnt ns q = c)
  | none => false
@[simp] theorem ix_m1 (a b c d : D) : dIx (.tup [a, b, c, d]) (.int (-1)) = some (.im d) := rfl
@[simp] theorem lk1 : tbl_SIZES.lookup ("weighs" : Str) = some (some 4) := by decide +kernel
@[simp] theorem lk2 : tbl_SIZES.lookup ("holds" : Str) = some (some 6) := by decide +kernel
theorem wne1 : (decide (("weighs" : Str) = ("within" : Str))) = false := by decide +kernel
theorem wne2 : (decide (("weighs" : Str) = ("at most" : Str))) = false := by decide +kernel
theorem wne3 : (decide (("holds" : Str) = ("within" : Str))) = false := by decide +kernel
theorem wne4 : (decide (("holds" : Str) = ("at most" : Str))) = false := by decide +kernel
theorem wne5 : (decide (("holds" : Str) = ("weighs" : Str))) = false := by decide +kernel
theorem wne6 : (decide (("weighs" : Str) = ("holds" : Str))) = false := by decide +kernel
section
variable {ks : List Str} {rs : List Rec} (C : CatOk ks rs) {t : D} {n : Nat} (ht : okD t n = true)
include C ht
theorem wt_pos {k : Str} {ns : List Rec} (h : nod rs t k = some ns) : 1 ≤ wt ns := by
  have h1 := nod_own C.o1 ht h
  have h2 := wt_len h1
  obtain ⟨i, xs, r, c, e1, e2, e3, e4, e5, rfl⟩ := nod_some h
  simp only [List.length_cons] at h2
  omega
theorem shown1 {T : D} {k : Str} {w : Int} : fm_is_thing_shown [encC ks rs, .tup [.str "weighs", T, .str k, .int w], t] = some (.im (.bl (fit1 rs t k w))) := by
  refine runP_Weq ?_
  unfold g_is_thing_shown
  have hib : fm_is_between [.int w, .int 1, .int 100] = some (.im (.bl (decide (1 ≤ w) && decide (w ≤ 100)))) := is_between_at (.int w) rfl 1 100
  rw [W_seq]
  simp [startE, eq_str]
  rw [W_seq]
  by_cases hw : 1 ≤ w ∧ w ≤ 100
  · simp [hw] at hib
    obtain ⟨s, hs, hc⟩ := C.counts (k := k) (m := w) ht (by omega) hw.2
    simp [hib]
    rw [W_seq]
    simp [hs]
    have hw1 : w < 101 := by omega
    cases hN : nod rs t k with
    | none =>
      have e := hc.no (.inl hN)
      subst e
      rw [W_seq]
      simp [fit1, hN]
    | some ns =>
      by_cases hle : wt ns ≤ w
      · obtain ⟨kvs, rfl, hk⟩ := hc.yes ns hN hle
        rw [W_seq]
        by_cases he : wt ns = w
        · simp [eq_int, eq_str, he, fit1, hN, hw1, D.isN]
        · simp [eq_int, eq_str, he, fit1, hN, D.isN]
      · have e := hc.no (.inr ⟨ns, hN, by omega⟩)
        subst e
        have he : ¬ wt ns = w := by omega
        rw [W_seq]
        simp [fit1, hN, he]
  · have hb : (decide (1 ≤ w) && decide (w ≤ 100)) = false := by simpa using hw
    rw [hb] at hib
    simp [hib, fit1]
    cases hN : nod rs t k with
    | none => rfl
    | some ns =>
      have := wt_pos C ht hN
      simp
      omega
theorem shown2 {T : D} {k q : Str} {w c : Int} : fm_is_thing_shown [encC ks rs, .tup [.str "holds", T, .str k, .str q, .int w, .int c], t] = some (.im (.bl (fit2 rs t k w q c))) := by
  refine runP_Weq ?_
  unfold g_is_thing_shown
  have hib : fm_is_between [.int w, .int 1, .int 100] = some (.im (.bl (decide (1 ≤ w) && decide (w ≤ 100)))) := is_between_at (.int w) rfl 1 100
  have hii := is_integer_at (.int c) rfl
  rw [W_seq]
  simp [startE, eq_str, wne5]
  rw [W_seq]
  by_cases hw : 1 ≤ w ∧ w ≤ 100
  · simp [hw] at hib
    obtain ⟨s, hs, hc⟩ := C.counts (k := k) (m := w) ht (by omega) hw.2
    simp [hib]
    rw [W_seq]
    simp [hs]
    have hw1 : w < 101 := by omega
    cases hN : nod rs t k with
    | none =>
      have e := hc.no (.inl hN)
      subst e
      rw [W_seq]
      simp [fit2, hN]
    | some ns =>
      by_cases hle : wt ns ≤ w
      · obtain ⟨kvs, rfl, hk⟩ := hc.yes ns hN hle
        have hkq := hk q
        rw [W_seq]
        by_cases he : wt ns = w
        · simp [eq_int, eq_str, he, fit2, hN, hw1, D.isN, wne5, hii, isI, mkKey, hkq]
        · simp [eq_int, eq_str, he, fit2, hN, D.isN]
      · have e := hc.no (.inr ⟨ns, hN, by omega⟩)
        subst e
        have he : ¬ wt ns = w := by omega
        rw [W_seq]
        simp [fit2, hN, he]
  · have hb : (decide (1 ≤ w) && decide (w ≤ 100)) = false := by simpa using hw
    rw [hb] at hib
    simp [hib, fit2]
    cases hN : nod rs t k with
    | none => rfl
    | some ns =>
      have := wt_pos C ht hN
      simp
      omega
omit C ht in
@[simp] theorem isN_encC : D.isN (encC ks rs) = false := rfl
theorem accepts1 {k : Str} {w : Int} (hk : k ∈ ks) : fm_accepts [.tup [.str "weighs", .str (textOf ks rs), .str k, .int w], t] = some (.im (.bl (fit1 rs t k w))) := by
  refine runP_Weq ?_
  unfold g_accepts
  have hs := shown1 C ht (T := .str (textOf ks rs)) (k := k) (w := w)
  have hc := C.told
  have hin := in_strs false (("weighs" : Str)) [("at most" : Str), ("holds" : Str)]
  simp [wne2, wne6] at hin
  rw [W_seq]
  simp [startE, eq_int, gIsi, DL.D.ty]
  rw [W_seq]
  simp [eq_int]
  rw [W_seq]
  simp [hc]
  rw [W_seq]
  simp [hc, in_strs, hk]
  rw [W_seq]
  simp [hin]
  rw [W_seq]
  simp [eq_str, wne1]
  rw [W_seq]
  simp [eq_str, wne2]
  simp [hs]
theorem accepts2 {k q : Str} {w c : Int} (hk : k ∈ ks) (hq : q ∈ ks) : fm_accepts [.tup [.str "holds", .str (textOf ks rs), .str k, .str q, .int w, .int c], t] = some (.im (.bl (fit2 rs t k w q c))) := by
  refine runP_Weq ?_
  unfold g_accepts
  have hs := shown2 C ht (T := .str (textOf ks rs)) (k := k) (w := w) (q := q) (c := c)
  have hc := C.told
  have hin := in_strs false (("holds" : Str)) [("at most" : Str), ("holds" : Str)]
  simp at hin
  rw [W_seq]
  simp [startE, eq_int, gIsi, DL.D.ty]
  rw [W_seq]
  simp [eq_int]
  rw [W_seq]
  simp [hc]
  rw [W_seq]
  simp [hc, in_strs, hk]
  rw [W_seq]
  simp [hin, in_strs, hq]
  rw [W_seq]
  simp [eq_str, wne3]
  rw [W_seq]
  simp [eq_str, wne4]
  simp [hs]
end
end WK

set_option Elab.async false
set_option linter.all false
set_option maxRecDepth 100000
set_option maxHeartbeats 4000000
namespace WK
open PySem PySem.Spec PyProof.Rows L2 DL
def fm_by_hand : List D → Option Sl := runP (g__law_by_hand fm_accepts) 4
theorem by_hand_ok : fm_by_hand [] = some (.im (.bl true)) := by kernel_rfl
end WK

set_option Elab.async false
set_option linter.all false
set_option maxRecDepth 100000
set_option maxHeartbeats 4000000
namespace WK
open PySem PySem.Spec PyProof.Rows L2 DL
/-! ### drawn things are judged rightly -/
def fm_right : List D → List D → Option (Sl × List D) := runS (g__law_right fm_catalogue fm_made_of fm_text (fm_thing 16) fm_draw (fm_weighed 36) fm_accepts) 15
abbrev vD (ks : List Str) (ns : List Rec) : D := .lst ((vec ks ns).map .int)
@[simp] theorem ix_vec0 (ks : List Str) (ns : List Rec) : dIx (vD ks ns) (.int 0) = some (.im (.int (wt ns))) := by
  rw [vD, vec_eq, List.map_cons]
  exact ev_ixL0 _ _
theorem ix_vec {ks : List Str} {ns : List Rec} {a : Nat} {q : Str} (h : ks[a]? = some q) : dIx (vD ks ns) (.int (1 + (a : Int))) = some (.im (.int (cnt ns q))) := by
  have hlt : a < ks.length := by
    rcases Nat.lt_or_ge a ks.length with z | z
    · exact z
    · rw [List.getElem?_eq_none z] at h; cases h
  have e : (1 + (a : Int)) = ((a + 1 : Nat) : Int) := by omega
  rw [vD, vec_eq, List.map_cons, e]
  show (atD (D.int (wt ns) :: (ks.map (cnt ns)).map .int) ((a + 1 : Nat) : Int)).map Sl.im = _
  unfold atD
  rw [ixN_nn (by omega) (by simp; omega)]
  simp [h]
theorem look_keys (rd : Rd) : (encR rd).map (fun kv => keyD kv.1) = (keys rd).map .str := by
  simp [encR, keys, keyD]
theorem ix_ks {ks : List Str} {a : Nat} {q : Str} (h : ks[a]? = some q) : dIx (.tup (ks.map .str)) (.int (a : Nat)) = some (.im (.str q)) := ix_at (by simp [h])
theorem nod_kind {rs : List Rec} {t : D} {k k' : Str} {a : List Rec} (h : nod rs t k = some a) (hk : k' ≠ k) : nod rs t k' = none := by
  obtain ⟨i, xs, r, c, rfl, h0, hr, hrk, e2, rfl⟩ := nod_some h
  refine nod_no fun i' xs' r' c' e0 e1 e2 e3 e4 => ?_
  simp at e0
  obtain ⟨rfl, rfl⟩ := e0
  rw [hr] at e2
  cases e2
  exact hk (e3.symm.trans hrk)
/-- a number beside this one -/
theorem beside (a b c : Int) {r : Int} (h0 : 0 ≤ r) (h1 : r < 5) : ∃ y : Int, dIx (.lst [.int 1, .int (-1), .int a, .int b, .int c]) (.int r) = some (.im (.int y)) := by
  obtain ⟨y, hy, e⟩ := ix_mem (L := [.int 1, .int (-1), .int a, .int b, .int c]) h0 (by simpa using h1)
  simp at hy
  rcases hy with rfl | rfl | rfl | rfl | rfl <;> exact ⟨_, e⟩
theorem ten20 : dPow (.int 10) (.int 20) = some (.im (.int 100000000000000000000)) := by
  show (if CPow 10 20 then some (Sl.im (.int ((10 : Int) ^ (20 : Int).toNat))) else none) = _
  rw [if_pos ⟨by decide, by decide, by decide⟩]
  rfl
theorem right_ok {xs : List D} (h : Src xs) : ∃ xs', fm_right xs [] = some (.im (.bl true), xs') := by
  have fin : ∃ s xs', fm_right xs [] = some (s, xs') ∧ s = .im (.bl true) := by
    refine runS_W (P := fun s _ => s = .im (.bl true)) ?_
    unfold g__law_right
    obtain ⟨ks, rs, s0, e0, C, h0⟩ := catalogue_ok h
    obtain ⟨rd, hmo, hrd⟩ := C.made_of
    have htx := C.text
    have hl3 := C.l
    have hrl := hrd.len C
    have hsub := (hrd.sub C).1
    rw [W_seq]
    simp [startS, startE, e0]
    rw [W_seq]
    simp [hmo, htx]
    obtain ⟨J, hJ⟩ : ∃ J : En → Prop, ∀ ρ, J ρ ↔ (∃ (src : List D) (z4 z5 z6 z7 z8 z9 z10 z11 z12 z13 z14 : Option Sl), ρ = [some (.ol src), some (.im (encC ks rs)), some (.im (.dct (encR rd))), some (.im (.str (textOf ks rs))), z4, z5, z6, z7, z8, z9, z10, z11, z12, z13, z14] ∧ Src src) := ⟨_, fun _ => Iff.rfl⟩
    refine W.seq J ?_ ?_
    · refine W.for (fun _ => J) (ds := (keys rd).map D.str ++ (keys rd).map D.str) (ρ0 := [some (.ol s0), some (.im (encC ks rs)), some (.im (.dct (encR rd))), some (.im (.str (textOf ks rs))), none, none, none, none, none, none, none, none, none, none, none]) ?_ ?_ ?_ ?_
      · have hm := add_lst (a := (keys rd).map D.str) (b := (keys rd).map D.str) (by simp [keys]; omega)
        simp [DL.gLst, look_keys, hm]
      · exact (hJ _).mpr ⟨_, _, _, _, _, _, _, _, _, _, _, _, rfl, h0⟩
      · intro pre d post ρ hall hρ
        obtain ⟨src, z4, z5, z6, z7, z8, z9, z10, z11, z12, z13, z14, rfl, hs⟩ := (hJ ρ).mp hρ
        have hd : d ∈ (keys rd).map D.str ++ (keys rd).map D.str := by rw [hall]; simp
        have hd : d ∈ (keys rd).map D.str := by rcases List.mem_append.mp hd with q | q <;> exact q
        obtain ⟨k, hk, rfl⟩ := List.mem_map.mp hd
        have hkk := hsub k hk
        obtain ⟨r, s1, e1, a1, b1, h1⟩ := draw_ok hs (m := 5) (by decide) (by decide)
        have hrk := rank_lt hk
        obtain ⟨t, a, s2, e2, hn, htr, h2⟩ := C.thing hrd 16 s1 k r h1 hk (by omega)
        obtain ⟨o_, s3, e3, a3, b3, h3⟩ := draw_ok h2 (m := 3) (by decide) (by decide)
        obtain ⟨o_, rfl⟩ := Int.eq_ofNat_of_zero_le a3
        obtain ⟨at_, s4, e4, a4, b4, h4⟩ := draw_ok h3 (m := 3) (by decide) (by decide)
        obtain ⟨at_, rfl⟩ := Int.eq_ofNat_of_zero_le a4
        have ok0 : okD t 35 = true := okD_mono (by decide) htr.ok
        have w1 := C.weighed 35 t k ok0
        rw [hn] at w1
        have hlo : o_ < ks.length := by omega
        have ho : ks[o_]? = some ks[o_] := List.getElem?_eq_getElem hlo
        have hom : ks[o_] ∈ ks := List.getElem_mem hlo
        generalize ks[o_] = other at ho hom
        have hio := ix_ks ho
        have hlt : at_ < ks.length := by omega
        have hq : ks[at_]? = some ks[at_] := List.getElem?_eq_getElem hlt
        have hqm : ks[at_] ∈ ks := List.getElem_mem hlt
        generalize ks[at_] = q at hq hqm
        have hiq := ix_ks hq
        simp
        rw [W_seq]
        simp [e1, e2]
        rw [W_seq]
        simp [w1]
        rw [W_seq]
        simp [e3, hio, e4]
        have ew : wres ks (some a) = vD ks a := rfl
        rw [ew]
        obtain ⟨I, hI⟩ : ∃ J : En → Prop, ∀ ρ, J ρ ↔ (∃ (src : List D) (z9 z10 z11 z12 z13 z14 : Option Sl), ρ = [some (.ol src), some (.im (encC ks rs)), some (.im (.dct (encR rd))), some (.im (.str (textOf ks rs))), some (.im (.str k)), some (.im t), some (.im (vD ks a)), some (.im (.str other)), some (.im (.int (at_ : Nat))), z9, z10, z11, z12, z13, z14] ∧ Src src) := ⟨_, fun _ => Iff.rfl⟩
        refine W.for (fun _ => I) (ds := rangeD 0 4) (ρ0 := [some (.ol s4), some (.im (encC ks rs)), some (.im (.dct (encR rd))), some (.im (.str (textOf ks rs))), some (.im (.str k)), some (.im t), some (.im (vD ks a)), some (.im (.str other)), some (.im (.int (at_ : Nat))), z9, z10, z11, z12, z13, z14]) (by simp) ((hI _).mpr ⟨_, _, _, _, _, _, _, rfl, h4⟩) ?_ ?_
        · intro pre d post ρ hall hρ
          obtain ⟨src, z9, z10, z11, z12, z13, z14, rfl, hs⟩ := (hI ρ).mp hρ
          obtain ⟨hlt, rfl⟩ := rangeD0_at hall
          generalize hi : ((pre.length : Nat) : Int) = i
          have iv := ix_vec (ns := a) hq
          simp
          rw [W_seq]
          simp [iv]
          refine W.seq (fun ρ => ∃ (src : List D) (w : Int), ρ = [some (.ol src), some (.im (encC ks rs)), some (.im (.dct (encR rd))), some (.im (.str (textOf ks rs))), some (.im (.str k)), some (.im t), some (.im (vD ks a)), some (.im (.str other)), some (.im (.int (at_ : Nat))), some (.im (.int i)), some (.im (.int w)), some (.im (.int (cnt a q))), z12, z13, z14] ∧ Src src) ?_ ?_
          · rw [W_if]
            by_cases h1 : i = 1
            · obtain ⟨r5, s5, e5, a5, b5, h5⟩ := draw_ok hs (m := 5) (by decide) (by decide)
              obtain ⟨y, ey⟩ := beside (-wt a) 100000000000000000000 1 a5 b5
              simp [eq_int, h1, ten20, e5, ey, h5]
            · simp [eq_int, h1, hs]
          rintro ρ ⟨src2, w, rfl, hs2⟩
          refine W.seq (fun ρ => ∃ (src : List D) (c : Int), ρ = [some (.ol src), some (.im (encC ks rs)), some (.im (.dct (encR rd))), some (.im (.str (textOf ks rs))), some (.im (.str k)), some (.im t), some (.im (vD ks a)), some (.im (.str other)), some (.im (.int (at_ : Nat))), some (.im (.int i)), some (.im (.int w)), some (.im (.int c)), z12, z13, z14] ∧ Src src) ?_ ?_
          · rw [W_if]
            by_cases h1 : i = 2
            · obtain ⟨r5, s5, e5, a5, b5, h5⟩ := draw_ok hs2 (m := 5) (by decide) (by decide)
              obtain ⟨y, ey⟩ := beside (-cnt a q - 1) 100000000000000000000 1 a5 b5
              simp [eq_int, h1, ten20, e5, ey, h5]
            · simp [eq_int, h1, hs2]
          rintro ρ ⟨src3, c, rfl, hs3⟩
          obtain ⟨kk, hkk2⟩ : ∃ kk, kk = if i = 3 then other else k := ⟨_, rfl⟩
          have hkm : kk ∈ ks := by rw [hkk2]; split <;> assumption
          have ac1 := accepts1 C ok0 (k := kk) (w := w) hkm
          have ac2 := accepts2 C ok0 (k := kk) (q := q) (w := w) (c := c) hkm hqm
          have f2 : fit2 rs t kk w q c = (fit1 rs t kk w && decide (c = cnt a q)) := by
            unfold fit1 fit2
            by_cases e : kk = k
            · rw [e, hn]
              simp only [eq_comm]
            · rw [nod_kind hn e]
              rfl
          have f1 : fit1 rs t kk w = (decide (w = wt a) && (decide (w < 101) && (!decide (i = 3) || decide (other = k)))) := by
            unfold fit1
            by_cases e : kk = k
            · rw [e, hn]
              have : (!decide (i = 3) || decide (other = k)) = true := by
                by_cases h3 : i = 3
                · rw [if_pos h3] at hkk2
                  rw [← hkk2, e]
                  simp
                · simp [h3]
              rw [this, Bool.and_true]
              simp only [eq_comm]
            · rw [nod_kind hn e]
              have h3 : i = 3 := Classical.byContradiction fun h3 => e (by rw [hkk2, if_neg h3])
              rw [if_pos h3] at hkk2
              have : ¬ other = k := fun z => e (by rw [hkk2, z])
              simp [h3, this]
          have ek : ∀ {ρ : En}, ρ[9]? = some (some (.im (.int i))) → ρ[7]? = some (some (.im (.str other))) → ρ[4]? = some (some (.im (.str k))) → eIf (tB1 (eB (dEq false) (eV 9) (eC (.int 3)))) (eV 7) (eV 4) ρ = some (.im (.str kk), ρ) := fun {ρ} q1 q2 q3 => by
            by_cases h3 : i = 3
            · simp [eq_int, q1, q2, h3, hkk2]
            · simp [eq_int, q1, q3, h3, hkk2]
          rw [W_seq]
          simp [-ev_eIf, ek, ac1]
          rw [W_seq]
          generalize hF : fit1 rs t kk w = F at *
          have eF : ∀ ρ : En, ρ[10]? = some (some (.im (.int w))) → ρ[6]? = some (some (.im (vD ks a))) → ρ[9]? = some (some (.im (.int i))) → ρ[7]? = some (some (.im (.str other))) → ρ[4]? = some (some (.im (.str k))) →
              eAnd (eB (dEq false) (eV 10) (eB dIx (eV 6) (eC (.int 0)))) (eAnd (eB dLt (eV 10) (eC (.int 101))) (eOr (eB (dEq true) (eV 9) (eC (.int 3))) (eB (dEq false) (eV 7) (eV 4)))) ρ = some (.im (.bl F), ρ) := fun ρ q1 q2 q3 q4 q5 => by
            rw [f1]
            have n1 := eq_int false w (wt a)
            have n2 := eq_int true i 3
            have n3 := eq_str false other k
            clear ac1 ac2 f1 f2 hF
            rcases Classical.em (w = wt a) with g1 | g1
            · subst g1
              by_cases g2 : wt a < 101 <;> by_cases g3 : i = 3 <;> by_cases g4 : other = k <;> simp [eq_int, eq_str, q1, q2, q3, q4, q5, g2, g3, g4]
            · simp [n1, q1, q2, g1]
          rw [W_set, ev_eD, eF _ rfl rfl rfl rfl rfl]
          simp
          rw [W_seq]
          simp [DL.gRep, eq_str]
          rw [W_seq]
          simp [-ev_eIf, ek, hiq]
          rw [f2] at ac2
          cases F with
          | true => simp [ac2, DL.gRep, eq_int, eq_str, iv]; exact (hI _).mpr ⟨_, _, _, _, _, _, _, rfl, hs3⟩
          | false => simp [ac2, DL.gRep, eq_int, eq_str, iv]; exact (hI _).mpr ⟨_, _, _, _, _, _, _, rfl, hs3⟩
        · intro ρ hρ
          obtain ⟨src, z9, z10, z11, z12, z13, z14, rfl, hs⟩ := (hI ρ).mp hρ
          exact (hJ _).mpr ⟨_, _, _, _, _, _, _, _, _, _, _, _, rfl, hs⟩
      · intro ρ hρ
        simpa using hρ
    · intro ρ hρ
      obtain ⟨src, z4, z5, z6, z7, z8, z9, z10, z11, z12, z13, z14, rfl, hs⟩ := (hJ ρ).mp hρ
      simp
  obtain ⟨s, xs', h1, rfl⟩ := fin
  exact ⟨xs', h1⟩
end WK

set_option Elab.async false
set_option linter.all false
set_option maxRecDepth 100000
set_option maxHeartbeats 4000000
namespace WK
open PySem PySem.Spec PyProof.Rows L2 DL
/-! ### the law -/
def fm_cell : List D → Option Sl := runP g__law_cell 4
def fm_source : List D → Option Sl := runP g__law_source 2
theorem cell_ok (ns : List Int) {n : Nat} (hn : n < 10) : ∃ i, fm_cell [.scr ns, .int (n : Nat)] = some (.im (.int i)) := by
  have fin : ∃ s, fm_cell [.scr ns, .int (n : Nat)] = some s ∧ ∃ i, s = .im (.int i) := by
    refine runP_W (P := fun s => ∃ i, s = .im (.int i)) ?_
    unfold g__law_cell
    have c1 : CMul 311 (n : Int) := .inl ⟨by decide, by decide⟩
    have c2 : CMul (311 * (n : Int)) (n : Int) := .inr ⟨by omega, by omega⟩
    have c3 : ∀ z, CMul z 50021 := fun z => .inr ⟨by decide, by decide⟩
    have hl : gLen [.scr ns] = some (.im (.int (ns.length : Nat))) := rfl
    rw [W_seq]
    by_cases hlt : n < ns.length
    · obtain ⟨x, h2, h3⟩ := atD_nn (xs := ns) (i := (n : Nat)) (by omega) (by omega)
      have hix : dIx (.scr ns) (.int (n : Nat)) = some (.im (.int x)) := by
        show (atD ns (n : Nat)).map (fun n => Sl.im (.int n)) = _
        rw [h3]
        rfl
      simp [startE, hl, hlt, hix]
    · simp [startE, hl, hlt]
      rw [W_seq]
      simp [dMul, c1, c2]
      refine W.seq (fun ρ => ∃ (i : Int) (z : Option Sl), ρ = [some (.im (.scr ns)), some (.im (.int (n : Nat))), some (.im (.int i)), z]) ?_ ?_
      · refine W.for (fun _ ρ => ∃ (i : Int) (z : Option Sl), ρ = [some (.im (.scr ns)), some (.im (.int (n : Nat))), some (.im (.int i)), z]) (ds := (DL.cutD ns (some (-2)) none).map .int) (ρ0 := [some (.im (.scr ns)), some (.im (.int (n : Nat))), some (.im (.int (9176 + 311 * (n : Int) * n))), none]) ?_ ⟨_, _, rfl⟩ ?_ ?_
        · simp [dSl]
        · rintro pre d post ρ hall ⟨i, z, rfl⟩
          have hd : d ∈ (DL.cutD ns (some (-2)) none).map D.int := by rw [hall]; simp
          obtain ⟨j, _, rfl⟩ := List.mem_map.mp hd
          simp [dMul, c3, gInt, dMod]
        · intro ρ h
          simpa using h
      · rintro ρ ⟨i, z, rfl⟩
        simp
  obtain ⟨s, h1, i, rfl⟩ := fin
  exact ⟨i, h1⟩
theorem source_ok (i : Int) : ∃ xs, fm_source [.int i] = some (.ol xs) ∧ Src xs := by
  have fin : ∃ s, fm_source [.int i] = some s ∧ ∃ xs, s = .ol xs ∧ Src xs := by
    refine runP_W (P := fun s => ∃ xs, s = .ol xs ∧ Src xs) ?_
    unfold g__law_source
    have hp : dPow (.int 10) (.int 15) = some (.im (.int 1000000000000000)) := by
      show (if CPow 10 15 then some (Sl.im (.int ((10 : Int) ^ (15 : Int).toNat))) else none) = _
      rw [if_pos ⟨by decide, by decide, by decide⟩]
      rfl
    have hs : ∀ d, Src [D.int d, .int (i.fmod 998244353 + 1), .int 1] := fun d => ⟨_, _, _, rfl, by
      have := Int.fmod_nonneg_of_pos i (b := 998244353) (by decide)
      omega, by
      have := Int.fmod_lt_of_pos i (b := 998244353) (by decide)
      omega⟩
    rw [W_seq]
    by_cases h1 : 1000000000000000 ≤ i
    · simp [startE, hp, h1, gInt, dMod, hs]
    · by_cases h2 : i < 0
      · simp [startE, hp, h1, h2, gInt, dMod, hs]
      · simp [startE, hp, h1, h2, gInt, dMod, hs]
  obtain ⟨s, h1, xs, rfl, h2⟩ := fin
  exact ⟨xs, h1, h2⟩
/-- how many numbers are looked at -/
theorem turns_ok (ns : List Int) : ∃ m : Nat, m ≤ 4 ∧ ∃ x, gMin [.int (ns.length : Nat), .int 4] = some (.im (.int x)) ∧ gMax [.int 2, .int x] = some (.im (.int (m : Nat))) := by
  show ∃ m : Nat, m ≤ 4 ∧ ∃ x, some (Sl.im (.int (if (4 : Int) < (ns.length : Nat) then (4 : Int) else (ns.length : Nat)))) = some (.im (.int x)) ∧ some (Sl.im (.int (if x > 2 then x else 2))) = some (.im (.int (m : Nat)))
  by_cases h4 : (4 : Int) < (ns.length : Nat)
  · exact ⟨4, by decide, 4, by rw [if_pos h4], rfl⟩
  · rw [if_neg h4]
    by_cases h2 : ((ns.length : Nat) : Int) > 2
    · exact ⟨ns.length, by omega, _, rfl, by rw [if_pos h2]⟩
    · exact ⟨2, by decide, _, rfl, by rw [if_neg h2]; rfl⟩
end WK

set_option Elab.async false
set_option linter.all false
set_option maxRecDepth 100000
set_option maxHeartbeats 4000000
namespace WK
open PySem PySem.Spec PyProof.Rows L2 DL
/-! ### the law -/
def fm_law : List D → Option Sl := runP (g_law fm_by_hand fm_right fm_source fm_cell) 2
theorem law_ok (ns : List Int) : fm_law [.scr ns] = some (.im (.bl true)) := by
  refine runP_Weq ?_
  unfold g_law
  have hl : gLen [.scr ns] = some (.im (.int (ns.length : Nat))) := rfl
  obtain ⟨m, hm4, x, e1, e2⟩ := turns_ok ns
  have hbh := by_hand_ok
  rw [W_seq]
  simp [startE, hbh]
  refine W.seq (fun ρ => ∃ z, ρ = [some (.im (.scr ns)), z]) ?_ ?_
  · refine W.for (fun _ ρ => ∃ z, ρ = [some (.im (.scr ns)), z]) (ds := rangeD 0 m) (ρ0 := [some (.im (.scr ns)), none]) ?_ ⟨_, rfl⟩ ?_ ?_
    · have b1 : (-4611686018427387904 : Int) ≤ (m : Nat) := by omega
      have b2 : ((m : Nat) : Int) < 4611686018427387904 := by omega
      simp [startE, hl, e1, e2, b1, b2]
    · rintro pre d post ρ hall ⟨z, rfl⟩
      obtain ⟨hlt, rfl⟩ := rangeD0_at hall
      obtain ⟨i, h1⟩ := cell_ok ns (n := pre.length) (by omega)
      obtain ⟨xs, h2, h3⟩ := source_ok i
      obtain ⟨xs', h4⟩ := right_ok h3
      simp [h1, h2, h4]
    · intro ρ h
      simpa using h
  · rintro ρ ⟨z, rfl⟩
    simp
end WK

set_option Elab.async false
set_option linter.all false
set_option maxRecDepth 100000
set_option maxHeartbeats 4000000
/-! The promises of all defs. -/
namespace WK
open PySem PySem.Spec PyProof.Rows L2 DL
theorem stuck_P {G : GE} {x : Str} {st : Stmt} {ps : List Str} (h : Has G x st) (b : BindsP x st ps) : FnP G 0 x ps.length (fun _ => none) := by
  obtain ⟨f, fd, h1, h2⟩ := h.ex
  have F := fun_of h2
  exact ⟨f, fd, ps, 0, h1, h2.kp, F.binds b, Nat.le_refl _, ⟨fun h => h.1, fun _ _ _ _ _ hs => by
    obtain ⟨_, _, _, _, _, _, hf, _⟩ := hs
    cases hf⟩⟩
theorem stuck_S {G : GE} {x : Str} {st : Stmt} {ps : List Str} (n : Nat) (hps : ps.length = n + 1) (h : Has G x st) (b : BindsP x st ps) : FnS G 0 x n (fun _ _ => none) := by
  obtain ⟨f, fd, h1, h2⟩ := h.ex
  have F := fun_of h2
  exact ⟨f, fd, ps, 0, h1, h2.kp, F.binds b, Nat.le_refl _, ⟨fun h => by rw [hps]; exact h.1, fun _ _ _ _ _ hs => by
    obtain ⟨_, _, _, _, _, _, _, _, _, _, _, _, _, _, _, hf, _⟩ := hs
    cases hf⟩⟩
section
variable {G : GE} (T : Fx G)
include T
theorem F_is_integer : FnP G 1 "is_integer" 1 fm_is_integer := ok_P T.h_is_integer sc_is_integer b_is_integer fm_is_integer (w_is_integer (k := 0) T ) fun ds s _ h => h
theorem F_is_between : FnP G 2 "is_between" 3 fm_is_between := ok_P T.h_is_between sc_is_between b_is_between fm_is_between (w_is_between (k := 1) T (FnAt.mono (F_is_integer T) (by decide))) fun ds s _ h => h
theorem F_is_name : FnP G 1 "is_name" 1 fm_is_name := ok_P T.h_is_name sc_is_name b_is_name fm_is_name (w_is_name (k := 0) T ) fun ds s _ h => h
theorem F_number_of : FnP G 1 "number_of" 1 fm_number_of := ok_P T.h_number_of sc_number_of b_number_of fm_number_of (w_number_of (k := 0) T ) fun ds s _ h => h
theorem F_told_recipe : FnP G 3 "told_recipe" 2 fm_told_recipe := ok_P T.h_told_recipe sc_told_recipe b_told_recipe fm_told_recipe (w_told_recipe (k := 2) T (FnAt.mono (F_number_of T) (by decide)) (FnAt.mono (F_is_between T) (by decide))) fun ds s _ h => h
theorem F_told_catalogue : FnP G 4 "told_catalogue" 1 fm_told_catalogue := ok_P T.h_told_catalogue sc_told_catalogue b_told_catalogue fm_told_catalogue (w_told_catalogue (k := 3) T (FnAt.mono (F_told_recipe T) (by decide)) (FnAt.mono (F_is_name T) (by decide))) fun ds s _ h => h
theorem F_counts_of : FnP G 3 "counts_of" 4 fm_counts_of := ok_P T.h_counts_of sc_counts_of b_counts_of fm_counts_of (w_counts_of (k := 2) T (FnAt.mono (F_is_between T) (by decide))) fun ds s _ h => h
theorem F_is_thing_shown : FnP G 4 "is_thing_shown" 3 fm_is_thing_shown := ok_P T.h_is_thing_shown sc_is_thing_shown b_is_thing_shown fm_is_thing_shown (w_is_thing_shown (k := 3) T (FnAt.mono (F_is_between T) (by decide)) (FnAt.mono (F_counts_of T) (by decide)) (FnAt.mono (F_is_integer T) (by decide))) fun ds s _ h => h
theorem F_accepts : FnP G 5 "accepts" 2 fm_accepts := ok_P T.h_accepts sc_accepts b_accepts fm_accepts (w_accepts (k := 4) T (FnAt.mono (F_told_catalogue T) (by decide)) (FnAt.mono (F_is_thing_shown T) (by decide))) fun ds s _ h => h
theorem F__law_cell : FnP G 1 "_law_cell" 2 fm_cell := ok_P T.h__law_cell sc__law_cell b__law_cell fm_cell (w__law_cell (k := 0) T ) fun ds s _ h => h
theorem F__law_source : FnP G 1 "_law_source" 1 fm_source := ok_P T.h__law_source sc__law_source b__law_source fm_source (w__law_source (k := 0) T ) fun ds s _ h => h
theorem F__law_draw : FnS G 1 "_law_draw" 1 fm_draw := ok_S T.h__law_draw sc__law_draw b__law_draw 1 rfl fm_draw (w__law_draw (k := 0) T ) fun xs ds s _ h => h
theorem F__law_name : FnS G 2 "_law_name" 1 fm_name := ok_S T.h__law_name sc__law_name b__law_name 1 rfl fm_name (w__law_name (k := 1) T (FnAt.mono (F__law_draw T) (by decide))) fun xs ds s _ h => h
theorem F__law_mixed : FnS G 2 "_law_mixed" 1 fm_mixed := ok_S T.h__law_mixed sc__law_mixed b__law_mixed 1 rfl fm_mixed (w__law_mixed (k := 1) T (FnAt.mono (F__law_draw T) (by decide))) fun xs ds s _ h => h
theorem F__law_recipes : FnS G 3 "_law_recipes" 1 fm_recipes := ok_S T.h__law_recipes sc__law_recipes b__law_recipes 1 rfl fm_recipes (w__law_recipes (k := 2) T (FnAt.mono (F__law_draw T) (by decide)) (FnAt.mono (F__law_mixed T) (by decide))) fun xs ds s _ h => h
theorem F__law_catalogue : FnS G 4 "_law_catalogue" 0 fm_catalogue := ok_S T.h__law_catalogue sc__law_catalogue b__law_catalogue 0 rfl fm_catalogue (w__law_catalogue (k := 3) T (FnAt.mono (F__law_name T) (by decide)) (FnAt.mono (F__law_recipes T) (by decide)) (FnAt.mono (F__law_draw T) (by decide))) fun xs ds s _ h => h
theorem F__law_text : FnP G 1 "_law_text" 1 fm_text := ok_P T.h__law_text sc__law_text b__law_text fm_text (w__law_text (k := 0) T ) fun ds s _ h => h
theorem F__law_made_of : FnP G 1 "_law_made_of" 1 fm_made_of := ok_P T.h__law_made_of sc__law_made_of b__law_made_of fm_made_of (w__law_made_of (k := 0) T ) fun ds s _ h => h
theorem F__law_thing_n : ∀ n : Nat, FnS G (1 + n) "_law_thing" 4 (fm_thing n)
  | 0 => FnAt.mono (stuck_S 4 rfl T.h__law_thing b__law_thing) (by omega)
  | n + 1 => by
    have ih := F__law_thing_n n
    exact ok_S T.h__law_thing sc__law_thing b__law_thing 4 rfl (fm_thing (n + 1)) (w__law_thing (k := 1 + n) T (FnAt.mono (F__law_draw T) (by omega)) ih) fun xs ds s _ h => h
theorem F__law_thing : FnS G 17 "_law_thing" 4 (fm_thing 16) := F__law_thing_n T 16
theorem F__law_weighed_n : ∀ n : Nat, FnP G (0 + n) "_law_weighed" 3 (fm_weighed n)
  | 0 => FnAt.mono (stuck_P T.h__law_weighed b__law_weighed) (by omega)
  | n + 1 => by
    have ih := F__law_weighed_n n
    exact ok_P T.h__law_weighed sc__law_weighed b__law_weighed (fm_weighed (n + 1)) (w__law_weighed (k := 0 + n) T ih) fun ds s _ h => h
theorem F__law_weighed : FnP G 36 "_law_weighed" 3 (fm_weighed 36) := F__law_weighed_n T 36
theorem F__law_by_hand : FnP G 6 "_law_by_hand" 0 fm_by_hand := ok_P T.h__law_by_hand sc__law_by_hand b__law_by_hand fm_by_hand (w__law_by_hand (k := 5) T (FnAt.mono (F_accepts T) (by decide))) fun ds s _ h => h
theorem F__law_right : FnS G 37 "_law_right" 0 fm_right := ok_S T.h__law_right sc__law_right b__law_right 0 rfl fm_right (w__law_right (k := 36) T (FnAt.mono (F__law_catalogue T) (by decide)) (FnAt.mono (F__law_made_of T) (by decide)) (FnAt.mono (F__law_text T) (by decide)) (FnAt.mono (F__law_thing T) (by decide)) (FnAt.mono (F__law_draw T) (by decide)) (FnAt.mono (F__law_weighed T) (by decide)) (FnAt.mono (F_accepts T) (by decide))) fun xs ds s _ h => h
theorem F_law : FnP G 38 "law" 1 fm_law := ok_P T.h_law sc_law b_law fm_law (w_law (k := 37) T (FnAt.mono (F__law_by_hand T) (by decide)) (FnAt.mono (F__law_right T) (by decide)) (FnAt.mono (F__law_source T) (by decide)) (FnAt.mono (F__law_cell T) (by decide))) fun ds s _ h => h
end
end WK

set_option Elab.async false
set_option linter.all false
set_option maxRecDepth 100000
set_option maxHeartbeats 0
namespace HD
open PySem PySem.Spec PyProof.Rows L2 DL WK
def d_is_integer : He.DefD := ⟨("is_integer", none), "is_integer", "is_integer", defArgs s_is_integer, defBody s_is_integer, defScope s_is_integer, [], []⟩
def d_is_between : He.DefD := ⟨("is_between", none), "is_between", "is_between", defArgs s_is_between, defBody s_is_between, defScope s_is_between, [], []⟩
def d_is_name : He.DefD := ⟨("is_name", none), "is_name", "is_name", defArgs s_is_name, defBody s_is_name, defScope s_is_name, [], []⟩
def d_number_of : He.DefD := ⟨("number_of", none), "number_of", "number_of", defArgs s_number_of, defBody s_number_of, defScope s_number_of, [], []⟩
def d_told_recipe : He.DefD := ⟨("told_recipe", none), "told_recipe", "told_recipe", defArgs s_told_recipe, defBody s_told_recipe, defScope s_told_recipe, [], []⟩
def d_told_catalogue : He.DefD := ⟨("told_catalogue", none), "told_catalogue", "told_catalogue", defArgs s_told_catalogue, defBody s_told_catalogue, defScope s_told_catalogue, [], []⟩
def d_counts_of : He.DefD := ⟨("counts_of", none), "counts_of", "counts_of", defArgs s_counts_of, defBody s_counts_of, defScope s_counts_of, [], []⟩
def d_is_thing_shown : He.DefD := ⟨("is_thing_shown", none), "is_thing_shown", "is_thing_shown", defArgs s_is_thing_shown, defBody s_is_thing_shown, defScope s_is_thing_shown, [], []⟩
def d_accepts : He.DefD := ⟨("accepts", none), "accepts", "accepts", defArgs s_accepts, defBody s_accepts, defScope s_accepts, [], []⟩
def d__law_cell : He.DefD := ⟨("_law_cell", none), "_law_cell", "_law_cell", defArgs s__law_cell, defBody s__law_cell, defScope s__law_cell, [], []⟩
def d__law_source : He.DefD := ⟨("_law_source", none), "_law_source", "_law_source", defArgs s__law_source, defBody s__law_source, defScope s__law_source, [], []⟩
def d__law_draw : He.DefD := ⟨("_law_draw", none), "_law_draw", "_law_draw", defArgs s__law_draw, defBody s__law_draw, defScope s__law_draw, [], []⟩
def d__law_name : He.DefD := ⟨("_law_name", none), "_law_name", "_law_name", defArgs s__law_name, defBody s__law_name, defScope s__law_name, [], []⟩
def d__law_mixed : He.DefD := ⟨("_law_mixed", none), "_law_mixed", "_law_mixed", defArgs s__law_mixed, defBody s__law_mixed, defScope s__law_mixed, [], []⟩
def d__law_recipes : He.DefD := ⟨("_law_recipes", none), "_law_recipes", "_law_recipes", defArgs s__law_recipes, defBody s__law_recipes, defScope s__law_recipes, [], []⟩
def d__law_catalogue : He.DefD := ⟨("_law_catalogue", none), "_law_catalogue", "_law_catalogue", defArgs s__law_catalogue, defBody s__law_catalogue, defScope s__law_catalogue, [], []⟩
def d__law_text : He.DefD := ⟨("_law_text", none), "_law_text", "_law_text", defArgs s__law_text, defBody s__law_text, defScope s__law_text, [], []⟩
def d__law_made_of : He.DefD := ⟨("_law_made_of", none), "_law_made_of", "_law_made_of", defArgs s__law_made_of, defBody s__law_made_of, defScope s__law_made_of, [], []⟩
def d__law_thing : He.DefD := ⟨("_law_thing", none), "_law_thing", "_law_thing", defArgs s__law_thing, defBody s__law_thing, defScope s__law_thing, [], []⟩
def d__law_weighed : He.DefD := ⟨("_law_weighed", none), "_law_weighed", "_law_weighed", defArgs s__law_weighed, defBody s__law_weighed, defScope s__law_weighed, [], []⟩
def d__law_by_hand : He.DefD := ⟨("_law_by_hand", none), "_law_by_hand", "_law_by_hand", defArgs s__law_by_hand, defBody s__law_by_hand, defScope s__law_by_hand, [], []⟩
def d__law_right : He.DefD := ⟨("_law_right", none), "_law_right", "_law_right", defArgs s__law_right, defBody s__law_right, defScope s__law_right, [], []⟩
def d_law : He.DefD := ⟨("law", none), "law", "law", defArgs s_law, defBody s_law, defScope s_law, [], []⟩
def fn : List He.DefD := [d_is_integer, d_is_between, d_is_name, d_number_of, d_told_recipe, d_told_catalogue, d_counts_of, d_is_thing_shown, d_accepts, d__law_cell, d__law_source, d__law_draw, d__law_name, d__law_mixed, d__law_recipes, d__law_catalogue, d__law_text, d__law_made_of, d__law_thing, d__law_weighed, d__law_by_hand, d__law_right, d_law]
def fa : List He.Fa := [.glo "is_integer", .glo "is_between", .glo "is_name", .glo "number_of", .glo "told_recipe", .glo "told_catalogue", .glo "counts_of", .glo "is_thing_shown", .glo "accepts", .glo "_law_cell", .glo "_law_source", .glo "_law_draw", .glo "_law_name", .glo "_law_mixed", .glo "_law_recipes", .glo "_law_catalogue", .glo "_law_text", .glo "_law_made_of", .glo "_law_thing", .glo "_law_weighed", .glo "_law_by_hand", .glo "_law_right", .glo "law", .free "all", .free "bool", .free "divmod", .free "int", .free "isinstance", .free "len", .free "list", .free "max", .free "min", .free "range", .free "repr", .free "set", .free "str", .free "tuple", .free "zip", .str "DIGITS" "0123456789", .str "LETTERS" "abcdefghijklmnopqrstuvwxyz", .int "LONGEST_NAME" 8, .int "MOST_BUILT" 100, .int "MOST_KINDS" 4, .int "MOST_OWN" 9, .int "MOST_PARTS" 3, .int "MOST_RECIPES" 10, .glo "SIZES"]
def tbl_SIZES_keys : List PySem.Str := tbl_SIZES.filterMap fun q => if q.2.isSome then some q.1 else none
def ts : List He.Tab := [(fun K => He.ga K "SIZES", tbl_SIZES_keys)]
theorem fx_of {P : Program} {w : World} {K : PySem.W.Frag} {mg : PySem.Str → Option Value} {base h : Heap} (X : K.In h) (N : h.Ns mainGlobals mg) (c : He.SaysT fa fn ts w K) (k_SIZES : kdB K (He.ga K "SIZES") tbl_SIZES = true) : Fx ⟨P, w, K, mg, base⟩ where
  z_all := He.free_ok X N (c.d.fact 23)
  z_bool := He.free_ok X N (c.d.fact 24)
  z_divmod := He.free_ok X N (c.d.fact 25)
  z_int := He.free_ok X N (c.d.fact 26)
  z_isinstance := He.free_ok X N (c.d.fact 27)
  z_len := He.free_ok X N (c.d.fact 28)
  z_list := He.free_ok X N (c.d.fact 29)
  z_max := He.free_ok X N (c.d.fact 30)
  z_min := He.free_ok X N (c.d.fact 31)
  z_range := He.free_ok X N (c.d.fact 32)
  z_repr := He.free_ok X N (c.d.fact 33)
  z_set := He.free_ok X N (c.d.fact 34)
  z_str := He.free_ok X N (c.d.fact 35)
  z_tuple := He.free_ok X N (c.d.fact 36)
  z_zip := He.free_ok X N (c.d.fact 37)
  c_DIGITS := He.str_ok X N (c.d.fact 38)
  c_LETTERS := He.str_ok X N (c.d.fact 39)
  c_LONGEST_NAME := He.int_ok X N (c.d.fact 40)
  c_MOST_BUILT := He.int_ok X N (c.d.fact 41)
  c_MOST_KINDS := He.int_ok X N (c.d.fact 42)
  c_MOST_OWN := He.int_ok X N (c.d.fact 43)
  c_MOST_PARTS := He.int_ok X N (c.d.fact 44)
  c_MOST_RECIPES := He.int_ok X N (c.d.fact 45)
  t_SIZES := gdict_of (He.glo_ok X N (c.d.fact 46)) (c.tab 0) k_SIZES
  h_is_integer := ⟨by obtain ⟨fd, h⟩ := c.d.def_ 0; exact ⟨_, fd, He.glo_ok X N (c.d.fact 0), h⟩⟩
  h_is_between := ⟨by obtain ⟨fd, h⟩ := c.d.def_ 1; exact ⟨_, fd, He.glo_ok X N (c.d.fact 1), h⟩⟩
  h_is_name := ⟨by obtain ⟨fd, h⟩ := c.d.def_ 2; exact ⟨_, fd, He.glo_ok X N (c.d.fact 2), h⟩⟩
  h_number_of := ⟨by obtain ⟨fd, h⟩ := c.d.def_ 3; exact ⟨_, fd, He.glo_ok X N (c.d.fact 3), h⟩⟩
  h_told_recipe := ⟨by obtain ⟨fd, h⟩ := c.d.def_ 4; exact ⟨_, fd, He.glo_ok X N (c.d.fact 4), h⟩⟩
  h_told_catalogue := ⟨by obtain ⟨fd, h⟩ := c.d.def_ 5; exact ⟨_, fd, He.glo_ok X N (c.d.fact 5), h⟩⟩
  h_counts_of := ⟨by obtain ⟨fd, h⟩ := c.d.def_ 6; exact ⟨_, fd, He.glo_ok X N (c.d.fact 6), h⟩⟩
  h_is_thing_shown := ⟨by obtain ⟨fd, h⟩ := c.d.def_ 7; exact ⟨_, fd, He.glo_ok X N (c.d.fact 7), h⟩⟩
  h_accepts := ⟨by obtain ⟨fd, h⟩ := c.d.def_ 8; exact ⟨_, fd, He.glo_ok X N (c.d.fact 8), h⟩⟩
  h__law_cell := ⟨by obtain ⟨fd, h⟩ := c.d.def_ 9; exact ⟨_, fd, He.glo_ok X N (c.d.fact 9), h⟩⟩
  h__law_source := ⟨by obtain ⟨fd, h⟩ := c.d.def_ 10; exact ⟨_, fd, He.glo_ok X N (c.d.fact 10), h⟩⟩
  h__law_draw := ⟨by obtain ⟨fd, h⟩ := c.d.def_ 11; exact ⟨_, fd, He.glo_ok X N (c.d.fact 11), h⟩⟩
  h__law_name := ⟨by obtain ⟨fd, h⟩ := c.d.def_ 12; exact ⟨_, fd, He.glo_ok X N (c.d.fact 12), h⟩⟩
  h__law_mixed := ⟨by obtain ⟨fd, h⟩ := c.d.def_ 13; exact ⟨_, fd, He.glo_ok X N (c.d.fact 13), h⟩⟩
  h__law_recipes := ⟨by obtain ⟨fd, h⟩ := c.d.def_ 14; exact ⟨_, fd, He.glo_ok X N (c.d.fact 14), h⟩⟩
  h__law_catalogue := ⟨by obtain ⟨fd, h⟩ := c.d.def_ 15; exact ⟨_, fd, He.glo_ok X N (c.d.fact 15), h⟩⟩
  h__law_text := ⟨by obtain ⟨fd, h⟩ := c.d.def_ 16; exact ⟨_, fd, He.glo_ok X N (c.d.fact 16), h⟩⟩
  h__law_made_of := ⟨by obtain ⟨fd, h⟩ := c.d.def_ 17; exact ⟨_, fd, He.glo_ok X N (c.d.fact 17), h⟩⟩
  h__law_thing := ⟨by obtain ⟨fd, h⟩ := c.d.def_ 18; exact ⟨_, fd, He.glo_ok X N (c.d.fact 18), h⟩⟩
  h__law_weighed := ⟨by obtain ⟨fd, h⟩ := c.d.def_ 19; exact ⟨_, fd, He.glo_ok X N (c.d.fact 19), h⟩⟩
  h__law_by_hand := ⟨by obtain ⟨fd, h⟩ := c.d.def_ 20; exact ⟨_, fd, He.glo_ok X N (c.d.fact 20), h⟩⟩
  h__law_right := ⟨by obtain ⟨fd, h⟩ := c.d.def_ 21; exact ⟨_, fd, He.glo_ok X N (c.d.fact 21), h⟩⟩
  h_law := ⟨by obtain ⟨fd, h⟩ := c.d.def_ 22; exact ⟨_, fd, He.glo_ok X N (c.d.fact 22), h⟩⟩
theorem law_fd {w : World} {K : PySem.W.Frag} {mg : PySem.Str → Option Value} {h : Heap} {P : Program} {fa' : Addr} (X : K.In h) (N : h.Ns mainGlobals mg) (c : He.SaysT fa fn ts w K) (k_SIZES : kdB K (He.ga K "SIZES") tbl_SIZES = true) (hfa : mg "law" = some (.ref fa')) :
    ∃ fd : FuncData, (∀ (s : Shared) (u : Value), BindsTo s fd ⟨[u], []⟩ [("_law_script", u)]) ∧ ∀ base : Heap, K.In base → base.Ns mainGlobals mg → FnG P w K mg base 38 fa' fd ["_law_script"] (spP K 1 fm_law) := by
  obtain ⟨fd, hD⟩ := c.d.def_ 22
  have e := hfa.symm.trans (He.glo_ok X N (c.d.fact 22))
  cases e
  have F : Fun K "law" "law" s_law (He.ga K "law") fd := fun_of hD
  refine ⟨fd, fun s u => ?_, fun base XB NB => ?_⟩
  · obtain ⟨oc, od, kV, doc, pm, an, cdv, ct, osl, rfl, lk, hcd⟩ := F.ex
    exact .of_eq rfl
  · have T : Fx ⟨P, w, K, mg, base⟩ := fx_of X N c k_SIZES
    exact fnP_of (G := ⟨P, w, K, mg, base⟩) F sc_law (w_law (k := 37) T (FnAt.mono (F__law_by_hand T) (by decide)) (FnAt.mono (F__law_right T) (by decide)) (FnAt.mono (F__law_source T) (by decide)) (FnAt.mono (F__law_cell T) (by decide))) fun ds s _ h => h
theorem law_sp {K : PySem.W.Frag} {H : Hp} {a : Addr} {ns : List Int} (hS : SqL K H a (ns.map V.int)) : spP K 1 fm_law [.ref a] H (fun v _ => v = .bl true) fun _ _ _ => False :=
  ⟨rfl, H, [.scr ns], .im (.bl true), Same.refl _, .cons (.scr hS) .nil, law_ok ns, fun v F' H' O' _ _ r => r.bl_inv⟩
end HD
open PySem PySem.W PyProof.Rows
set_option maxRecDepth 100000 in
set_option maxHeartbeats 0 in
theorem PySem.Challenge.cw_sealedweights_k61_things_as_certificates_holds : PySem.Challenge.rw_sealedweights_k61_things_as_certificates.Holds := by
  w_on; o_law; k_head; (case hw => w_witness2)
  k_fill
  refine DL.walkG (n := 63) (k := 38) (x := "_law_script") (sp := fun w => DL.spP _ 1 WK.fm_law) rfl (by decide) rfl ⟨rfl, by decide, by decide⟩ (fun Y => PySem.W.kIn_of Y) ?F (fun hl hS => HD.law_sp hS)
  case F =>
    intro w mg fa h KX G hmg
    refine HD.law_fd KX G ?c ?k hmg
    case c => unfold He.SaysT; kernel_rfl
    case k => kernel_rfl

