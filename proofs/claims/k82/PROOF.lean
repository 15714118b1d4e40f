import PyProof.Rows.All
import Wide.All
import OpenK.AllK
import Wide.FinOn
import HandS.ForMost
import HandS.IsInst
import HandS.Star
import HandS.FStr
import HandS.Wide
import HandS.TupAny
import HandS.Flow
import HandS.Zip
import HandS.Property
import HandS.Codes
import HandS.FStrTup
import HandS.ForExc
import HandS.ExcInit
import KE.KExcSuper
import KE.KSuper
import HandS.ExcCtx
import HandS.CallSlots
import HandS.ExcInitHot
import HandS.Lambda
import HandS.EndTab
import HandS.ExcIs
import HandS.ExcField
import KE.KExcIs
import HandS.EndOwn
import KE.KNestM
import KE.KxIndex
import PySem.Challenge.RW_seedless_k82_what_is_no_text
set_option Elab.async false
set_option linter.all false
set_option maxRecDepth 100000
set_option maxHeartbeats 4000000
/-! Sd0: data over the hand layer: what a value stands for, slots that hold data, readings that are told by data alone. -/
namespace Sd
open PySem PySem.Spec L2

/-- data: what a value stands for -/
inductive D where
  | non | bl (b : Bool) | int (i : Int) | str (s : Str) | tup (xs : List D) | lst (xs : List D) | obj (C : Addr) (ns : List Str) (ds : List D) | dic

mutual
inductive Rp (K : PySem.W.Frag) (F : Hp) : V → D → Prop
  | non : Rp K F .non .non
  | bl (b : Bool) : Rp K F (.bl b) (.bl b)
  | int (i : Int) : Rp K F (.int i) (.int i)
  | str (x : Str) : Rp K F (.str x) (.str x)
  | tup {a : Addr} {xs : List V} {ds : List D} : F a = some (.tup xs) → RpL K F xs ds → Rp K F (.ref a) (.tup ds)
  | lst {a : Addr} {xs : List V} {ds : List D} : F a = some (.lst xs) → RpL K F xs ds → Rp K F (.ref a) (.lst ds)
  | obj {a C dx : Addr} {ns : List Str} {vs : List V} {ds : List D} : F a = some (.ins C dx (ns.zip vs)) → ns.length = vs.length → RpL K F vs ds → Rp K F (.ref a) (.obj C ns ds)
  | dic {a : Addr} : F a = some (.dK []) → Rp K F (.ref a) .dic
inductive RpL (K : PySem.W.Frag) (F : Hp) : List V → List D → Prop
  | nil : RpL K F [] []
  | cons {v : V} {vs : List V} {d : D} {ds : List D} : Rp K F v d → RpL K F vs ds → RpL K F (v :: vs) (d :: ds)
end

theorem seqL_of {K : PySem.W.Frag} {F F' : Hp} {a : Addr} {xs : List V} (e : Same F F') (h : SqL K F a xs) : SqL K F' a xs := e.seq h
theorem seqT_of {K : PySem.W.Frag} {F F' : Hp} {a : Addr} {xs : List V} (e : Same F F') (h : SqT K F a xs) : SqT K F' a xs := by
  rcases h with (h | ⟨o, h⟩) | h
  · exact .inl (.inl (e _ _ h))
  · exact .inl (.inr ⟨o, e _ _ h⟩)
  · exact .inr h

mutual
theorem Rp.mono {K : PySem.W.Frag} {F F' : Hp} (e : Same F F') : ∀ {v : V} {d : D}, Rp K F v d → Rp K F' v d
  | _, _, .non => .non
  | _, _, .bl b => .bl b
  | _, _, .int i => .int i
  | _, _, .str x => .str x
  | _, _, .tup h r => .tup (e _ _ h) (RpL.mono e r)
  | _, _, .lst h r => .lst (e _ _ h) (RpL.mono e r)
  | _, _, .obj h l r => .obj (e _ _ h) l (RpL.mono e r)
  | _, _, .dic h => .dic (e _ _ h)
theorem RpL.mono {K : PySem.W.Frag} {F F' : Hp} (e : Same F F') : ∀ {v : List V} {d : List D}, RpL K F v d → RpL K F' v d
  | _, _, .nil => .nil
  | _, _, .cons h r => .cons (Rp.mono e h) (RpL.mono e r)
end

section
variable {K : PySem.W.Frag} {F F' H H' : Hp}
theorem RpL.length : ∀ {vs : List V} {ds : List D}, RpL K F vs ds → vs.length = ds.length
  | _, _, .nil => rfl
  | _, _, .cons _ r => congrArg (· + 1) (RpL.length r)
theorem RpL.get : ∀ {vs : List V} {ds : List D} {i : Nat} {v : V}, RpL K F vs ds → vs[i]? = some v → ∃ d, ds[i]? = some d ∧ Rp K F v d
  | _, _, _, _, .nil, h => by simp at h
  | _, _, 0, _, .cons r _, h => by
    simp only [List.getElem?_cons_zero, Option.some.injEq] at h
    subst h
    exact ⟨_, rfl, r⟩
  | _, _, i + 1, _, .cons _ r, h => by
    simp only [List.getElem?_cons_succ] at h ⊢
    exact RpL.get r h
theorem RpL.getD : ∀ {vs : List V} {ds : List D} {i : Nat} {d : D}, RpL K F vs ds → ds[i]? = some d → ∃ v, vs[i]? = some v ∧ Rp K F v d
  | _, _, _, _, .nil, h => by simp at h
  | _, _, 0, _, .cons r _, h => by
    simp only [List.getElem?_cons_zero, Option.some.injEq] at h
    subst h
    exact ⟨_, rfl, r⟩
  | _, _, i + 1, _, .cons _ r, h => by
    simp only [List.getElem?_cons_succ] at h ⊢
    exact RpL.getD r h
theorem RpL.append : ∀ {vs ws : List V} {ds es : List D}, RpL K F vs ds → RpL K F ws es → RpL K F (vs ++ ws) (ds ++ es)
  | _, _, _, _, .nil, s => s
  | _, _, _, _, .cons r t, s => .cons r (RpL.append t s)
theorem RpL.one {v : V} {d : D} (h : Rp K F v d) : RpL K F [v] [d] := .cons h .nil
theorem RpL.take : ∀ {vs : List V} {ds : List D} (n : Nat), RpL K F vs ds → RpL K F (vs.take n) (ds.take n)
  | _, _, 0, _ => .nil
  | _, _, _ + 1, .nil => .nil
  | _, _, n + 1, .cons r t => .cons r (RpL.take n t)
theorem RpL.drop : ∀ {vs : List V} {ds : List D} (n : Nat), RpL K F vs ds → RpL K F (vs.drop n) (ds.drop n)
  | _, _, 0, r => r
  | _, _, _ + 1, .nil => .nil
  | _, _, n + 1, .cons _ t => RpL.drop n t
theorem RpL.set {v : V} {d : D} (r : Rp K F v d) : ∀ {vs : List V} {ds : List D} (i : Nat), RpL K F vs ds → RpL K F (vs.set i v) (ds.set i d)
  | _, _, _, .nil => .nil
  | _, _, 0, .cons _ t => .cons r t
  | _, _, i + 1, .cons q t => .cons q (RpL.set r i t)
theorem RpL.eraseIdx : ∀ {vs : List V} {ds : List D} (i : Nat), RpL K F vs ds → RpL K F (vs.eraseIdx i) (ds.eraseIdx i)
  | _, _, _, .nil => .nil
  | _, _, 0, .cons _ t => t
  | _, _, i + 1, .cons q t => .cons q (RpL.eraseIdx i t)
theorem RpL.ints : ∀ {ns : List Int}, RpL K F (ns.map V.int) (ns.map D.int)
  | [] => .nil
  | n :: ns => .cons (.int n) RpL.ints
theorem RpL.of_ints : ∀ {ns : List Int} {vs : List V}, RpL K F vs (ns.map D.int) → vs = ns.map V.int
  | [], _, .nil => rfl
  | n :: ns, _, .cons h r => by
    cases h
    rw [RpL.of_ints r]
    rfl
theorem RpL.of_strs : ∀ {ns : List Str} {vs : List V}, RpL K F vs (ns.map D.str) → vs = ns.map V.str
  | [], _, .nil => rfl
  | n :: ns, _, .cons h r => by
    cases h
    rw [RpL.of_strs r]
    rfl
theorem RpL.strs : ∀ {ns : List Str}, RpL K F (ns.map V.str) (ns.map D.str)
  | [] => .nil
  | n :: ns => .cons (.str n) RpL.strs
theorem RpL.of_bls : ∀ {ns : List Bool} {vs : List V}, RpL K F vs (ns.map D.bl) → vs = ns.map V.bl
  | [], _, .nil => rfl
  | n :: ns, _, .cons h r => by
    cases h
    rw [RpL.of_bls r]
    rfl

/-! ### what is new -/
/-- F, and all that H' has new against H -/
def ext (F H H' : Hp) : Hp := fun b => match H b with
  | none => H' b
  | some _ => F b
theorem ext_none {b : Addr} (h : H b = none) : ext F H H' b = H' b := by unfold ext; rw [h]
theorem ext_some {b : Addr} {o : HO} (h : H b = some o) : ext F H H' b = F b := by unfold ext; rw [h]
theorem ext_same (fh : Same F H) : Same F (ext F H H') := fun b o h => by rw [ext_some (fh b o h)]; exact h
theorem ext_sub (fh : Same F H) (s : Same H H') : Same (ext F H H') H' := fun b o h => by
  cases e : H b with
  | none => rwa [ext_none e] at h
  | some u =>
    rw [ext_some e] at h
    exact s b o (fh b o h)
theorem ext_upd {a : Addr} {o : HO} (h : H a = none) (f : F a = none) (fh : Same F H) : ext F H (upd H a o) = upd F a o := by
  funext b
  by_cases e : b = a
  · subst e
    rw [ext_none h, upd_same, upd_same]
  · rw [upd_ne e]
    cases q : H b with
    | none =>
      rw [ext_none q, upd_ne e, q]
      cases z : F b with
      | none => rfl
      | some u => rw [fh b u z] at q; cases q
    | some u => rw [ext_some q]
end

/-- a world: the written part, what stood at the entry (known, all), which of it may be changed, what is being made -/
structure Wd where
  K : PySem.W.Frag
  F0 : Hp
  H0 : Hp
  O : List Addr
  P : List (Addr × HO)
abbrev Wd.push (w : Wd) (a : Addr) (o : HO) : Wd := { w with P := (a, o) :: w.P }

/-- the law's source of draws: a list [cells, place, mixed] -/
def Dr (H : Hp) (p c : Addr) : Prop := p ≠ c ∧ ∃ (i m : Int) (ns : List Int), H p = some (.lst [.ref c, .int i, .int m]) ∧ H c = some (.lst (ns.map V.int)) ∧ ns ≠ [] ∧ ns.length ≤ 63 ∧ (∀ n ∈ ns, 0 ≤ n) ∧ 0 ≤ i ∧ 0 ≤ m ∧ m < 2147483647

/-- something of its own: what is known, all, its value, its addresses -/
structure OwnP where
  ok : Hp → Hp → V → List Addr → Prop
  step : ∀ {F F' H H' : Hp} {v : V} {qs : List Addr}, Same F F' → (∀ a o, a ∈ qs → H a = some o → H' a = some o) → ok F H v qs → ok F' H' v qs
/-- what a slot holds -/
inductive Ent where
  | no | d (x : D) | v (x : V) | l (xs : List D) | dr (p c : Addr) | o (x : OwnP)
def EntOk (w : Wd) (F H : Hp) : Ent → Option (Option V) → List Addr → Prop
  | .no, _, qs => qs = []
  | .d x, s, qs => qs = [] ∧ ∃ v, s = some (some v) ∧ Rp w.K F v x
  | .v x, s, qs => qs = [] ∧ s = some (some x)
  | .l xs, s, qs => ∃ a vs, qs = [a] ∧ a ∉ w.O ∧ s = some (some (.ref a)) ∧ H a = some (.lst vs) ∧ RpL w.K F vs xs
  | .dr p c, s, qs => qs = [p, c] ∧ s = some (some (.ref p)) ∧ Dr H p c
  | .o x, s, qs => ∃ v, s = some (some v) ∧ x.ok F H v qs

structure Bok (w : Wd) (F H : Hp) : Prop where
  f0 : Same w.F0 F
  fh : Same F H
  src : ∀ a o, F a = some o → w.F0 a = some o ∨ w.H0 a = none
  keep : ∀ a o, a ∉ w.O → w.H0 a = some o → H a = some o
  own : ∀ a, a ∈ w.O → F a = none ∧ H a ≠ none
  pend : ∀ a o, (a, o) ∈ w.P → F a = none ∧ H a = some o ∧ w.H0 a = none ∧ a ∉ w.O
structure As (w : Wd) (G : List Ent) (σ : L2.St) (F H : Hp) : Prop where
  len : σ.length = G.length
  base : Bok w F H
  own : ∃ q : Nat → List Addr, (∀ i e, G[i]? = some e → EntOk w F H e (σ[i]?) (q i)) ∧ (∀ i a, i < G.length → a ∈ q i → F a = none ∧ H a ≠ none ∧ (a ∈ w.O ∨ w.H0 a = none)) ∧ (∀ i j a, i < G.length → j < G.length → a ∈ q i → a ∈ q j → i = j) ∧ (∀ i a, i < G.length → a ∈ q i → ∀ o, (a, o) ∉ w.P)

section
variable {w : Wd} {G : List Ent} {σ : L2.St} {F F' H H' : Hp}
theorem EntOk.step {w : Wd} {e : Ent} {s : Option (Option V)} {qs : List Addr} (f : Same F F') (h : ∀ a o, a ∈ qs → H a = some o → H' a = some o) (x : EntOk w F H e s qs) : EntOk w F' H' e s qs := by
  cases e with
  | no => exact x
  | d d =>
    obtain ⟨e, v, h1, h2⟩ := x
    exact ⟨e, v, h1, h2.mono f⟩
  | v v => exact x
  | l xs =>
    obtain ⟨a, vs, rfl, h0, h1, h2, h3⟩ := x
    exact ⟨a, vs, rfl, h0, h1, h _ _ (by simp) h2, h3.mono f⟩
  | dr p c =>
    obtain ⟨rfl, h1, n, i, m, ns, h2, h3, r⟩ := x
    exact ⟨rfl, h1, n, i, m, ns, h _ _ (by simp) h2, h _ _ (by simp) h3, r⟩
  | o x' =>
    obtain ⟨v, h1, h2⟩ := x
    exact ⟨v, h1, x'.step f h h2⟩
theorem Bok.step (B : Bok w F H) (s : Same H H') : Bok w (ext F H H') H' where
  f0 := B.f0.trans (ext_same B.fh)
  fh := ext_sub B.fh s
  src := fun a o h => by
    cases e : H a with
    | none =>
      rw [ext_none e] at h
      by_cases ho : a ∈ w.O
      · exact absurd e (B.own a ho).2
      · cases q : w.H0 a with
        | none => exact .inr rfl
        | some u => rw [B.keep a u ho q] at e; cases e
    | some u =>
      rw [ext_some e] at h
      exact B.src a o h
  keep := fun a o ho h => s _ _ (B.keep a o ho h)
  own := fun a ho => by
    obtain ⟨h1, h2⟩ := B.own a ho
    cases e : H a with
    | none => exact absurd e h2
    | some u => exact ⟨by rw [ext_some e]; exact h1, by rw [s _ _ e]; exact fun z => nomatch z⟩
  pend := fun a o hp => by
    obtain ⟨h1, h2, h3⟩ := B.pend a o hp
    exact ⟨by rw [ext_some h2]; exact h1, s _ _ h2, h3⟩
/-- the heap has grown: what is new is known -/
theorem As.step (A : As w G σ F H) (s : Same H H') : As w G σ (ext F H H') H' := by
  obtain ⟨q, h1, h2, h3, h4⟩ := A.own
  refine ⟨A.len, A.base.step s, q, fun i e h => (h1 i e h).step (ext_same A.base.fh) fun a o _ e => s _ _ e, fun i a hi ha => ?_, h3, h4⟩
  obtain ⟨f, n, r⟩ := h2 i a hi ha
  cases e : H a with
  | none => exact absurd e n
  | some u => exact ⟨by rw [ext_some e]; exact f, by rw [s _ _ e]; exact (fun z => nomatch z), r⟩
theorem As.fh (A : As w G σ F H) : Same F H := A.base.fh
theorem As.same (A : As w G σ F H) : Same F (ext F H H') := ext_same A.base.fh
/-- a new object -/
theorem As.new {a : Addr} {o : HO} (A : As w G σ F H) (h : H a = none) : As w G σ (upd F a o) (upd H a o) := by
  have f : F a = none := A.fh.free h
  have s : Same H (upd H a o) := fun b u e => by rw [upd_ne (ne_of_none e h)]; exact e
  have q := A.step s
  rw [ext_upd h f A.fh] at q
  exact q
theorem same_new {a : Addr} {o : HO} (h : F a = none) : Same F (upd F a o) := fun b u e => by rw [upd_ne (ne_of_none e h)]; exact e
/-- two slots' objects -/
structure Own (w : Wd) (G : List Ent) (σ : L2.St) (F H : Hp) (q : Nat → List Addr) : Prop where
  ok : ∀ i e, G[i]? = some e → EntOk w F H e (σ[i]?) (q i)
  at_ : ∀ i a, i < G.length → a ∈ q i → F a = none ∧ H a ≠ none ∧ (a ∈ w.O ∨ w.H0 a = none)
  dis : ∀ i j a, i < G.length → j < G.length → a ∈ q i → a ∈ q j → i = j
  pd : ∀ i a, i < G.length → a ∈ q i → ∀ o, (a, o) ∉ w.P
theorem As.get (A : As w G σ F H) : ∃ q, Own w G σ F H q := by
  obtain ⟨q, h1, h2, h3, h4⟩ := A.own
  exact ⟨q, h1, h2, h3, h4⟩
theorem As.mk' {q : Nat → List Addr} (len : σ.length = G.length) (base : Bok w F H) (o : Own w G σ F H q) : As w G σ F H := ⟨len, base, q, o.ok, o.at_, o.dis, o.pd⟩
def qput (q : Nat → List Addr) (i : Nat) (l : List Addr) : Nat → List Addr := fun j => if j = i then l else q j
theorem qput_same {q : Nat → List Addr} {i : Nat} {l : List Addr} : qput q i l i = l := if_pos rfl
theorem qput_ne {q : Nat → List Addr} {i j : Nat} {l : List Addr} (h : j ≠ i) : qput q i l j = q j := if_neg h
/-- a slot's entry is exchanged: what else is kept -/
theorem Own.put {q : Nat → List Addr} (O : Own w G σ F H q) (hl : σ.length = G.length) (hi : i < G.length) {e : Ent} {s : Option V} {l : List Addr} {F' H' : Hp} (he : EntOk w F' H' e (some s) l)
    (f : Same F F') (k : ∀ j a o, j < G.length → j ≠ i → a ∈ q j → H a = some o → H' a = some o) (kf : ∀ j a, j < G.length → j ≠ i → a ∈ q j → F' a = none)
    (hl' : ∀ a, a ∈ l → F' a = none ∧ H' a ≠ none ∧ (a ∈ w.O ∨ w.H0 a = none)) (hd : ∀ j a, j < G.length → j ≠ i → a ∈ q j → a ∉ l) (hp : ∀ a, a ∈ l → ∀ o, (a, o) ∉ w.P) : Own w (G.set i e) (σ.set i s) F' H' (qput q i l) where
  ok := fun j u h => by
    by_cases z : j = i
    · subst z
      rw [List.getElem?_set_self hi] at h
      cases h
      rw [List.getElem?_set_self (by rw [hl]; exact hi), qput_same]
      exact he
    · rw [List.getElem?_set_ne (Ne.symm z)] at h ⊢
      rw [qput_ne z]
      exact (O.ok j u h).step f fun a o ha e => k j a o (List.getElem?_eq_some_iff.mp h).1 z ha e
  at_ := fun j a hj ha => by
    rw [List.length_set] at hj
    by_cases z : j = i
    · subst z
      rw [qput_same] at ha
      exact hl' a ha
    · rw [qput_ne z] at ha
      obtain ⟨h1, h2, h3⟩ := O.at_ j a hj ha
      refine ⟨kf j a hj z ha, ?_, h3⟩
      cases e : H a with
      | none => exact absurd e h2
      | some o => rw [k j a o hj z ha e]; exact fun z => nomatch z
  dis := fun j m a hj hm ha hb => by
    rw [List.length_set] at hj hm
    by_cases z : j = i
    · subst z
      rw [qput_same] at ha
      by_cases y : m = j
      · exact y.symm
      · rw [qput_ne y] at hb
        exact absurd ha (hd m a hm y hb)
    · rw [qput_ne z] at ha
      by_cases y : m = i
      · subst y
        rw [qput_same] at hb
        exact absurd hb (hd j a hj z ha)
      · rw [qput_ne y] at hb
        exact O.dis j m a hj hm ha hb
  pd := fun j a hj ha => by
    rw [List.length_set] at hj
    by_cases z : j = i
    · subst z
      rw [qput_same] at ha
      exact hp a ha
    · rw [qput_ne z] at ha
      exact O.pd j a hj ha
theorem set_far {α : Type} {l : List α} {i : Nat} {x : α} (h : ¬ i < l.length) : l.set i x = l := List.set_eq_of_length_le (by omega)
theorem As.dat (A : As w G σ F H) {i : Nat} {d : D} (h : G[i]? = some (.d d)) : ∃ v, σ[i]? = some (some v) ∧ Rp w.K F v d := by
  obtain ⟨q, O⟩ := A.get
  exact (O.ok i _ h).2
theorem As.val (A : As w G σ F H) {i : Nat} {v : V} (h : G[i]? = some (.v v)) : σ[i]? = some (some v) := by
  obtain ⟨q, O⟩ := A.get
  exact (O.ok i _ h).2
theorem As.lst (A : As w G σ F H) {i : Nat} {xs : List D} (h : G[i]? = some (.l xs)) : ∃ a vs, σ[i]? = some (some (.ref a)) ∧ H a = some (.lst vs) ∧ RpL w.K F vs xs ∧ F a = none := by
  obtain ⟨q, O⟩ := A.get
  obtain ⟨a, vs, e, r0, r1, r2, r3⟩ := O.ok i _ h
  exact ⟨a, vs, r1, r2, r3, (O.at_ i a (List.getElem?_eq_some_iff.mp h).1 (by rw [e]; simp)).1⟩
theorem As.drw (A : As w G σ F H) {i : Nat} {p c : Addr} (h : G[i]? = some (.dr p c)) : σ[i]? = some (some (.ref p)) ∧ Dr H p c ∧ F p = none ∧ F c = none := by
  obtain ⟨q, O⟩ := A.get
  obtain ⟨e, r1, r2⟩ := O.ok i _ h
  have hi := (List.getElem?_eq_some_iff.mp h).1
  exact ⟨r1, r2, (O.at_ i p hi (by rw [e]; simp)).1, (O.at_ i c hi (by rw [e]; simp)).1⟩
/-- a slot gets data, an exact value, or nothing -/
theorem As.put (A : As w G σ F H) (i : Nat) {s : Option V} {e : Ent} (he : EntOk w F H e (some s) []) : As w (G.set i e) (σ.set i s) F H := by
  obtain ⟨q, O⟩ := A.get
  by_cases hi : i < G.length
  · exact .mk' (by simp [A.len]) A.base (O.put A.len hi he (Same.refl _) (fun _ _ _ _ _ _ e => e) (fun j a hj _ ha => (O.at_ j a hj ha).1) (fun _ h => nomatch h) (fun _ _ _ _ _ h => nomatch h) fun _ h => nomatch h)
  · rw [set_far hi, set_far (by rw [A.len]; exact hi)]
    exact A
theorem As.putD (A : As w G σ F H) (i : Nat) {v : V} {d : D} (r : Rp w.K F v d) : As w (G.set i (.d d)) (σ.set i (some v)) F H := A.put i ⟨rfl, v, rfl, r⟩
/-- a new object that is being made -/
theorem As.pend (A : As w G σ F H) {a : Addr} {o : HO} (n : H a = none) : As (w.push a o) G σ F (upd H a o) := by
  obtain ⟨q, O⟩ := A.get
  have fa : F a = none := A.fh.free n
  have ha0 : w.H0 a = none := by
    cases e : w.H0 a with
    | none => rfl
    | some o =>
      by_cases ho : a ∈ w.O
      · exact absurd n (A.base.own a ho).2
      · rw [A.base.keep a o ho e] at n; cases n
  have nO : a ∉ w.O := fun ho => (A.base.own a ho).2 n
  have s : Same H (upd H a o) := same_new n
  refine .mk' (q := q) A.len ⟨A.base.f0, A.base.fh.trans s, A.base.src, fun b u hb e => s _ _ (A.base.keep b u hb e), fun b hb => ?_, fun b u hb => ?_⟩
    ⟨fun i e h => (O.ok i e h).step (Same.refl _) fun b u hb e => s _ _ e, fun i b hi hb => ?_, O.dis, fun i b hi hb u hu => ?_⟩
  · obtain ⟨h1, h2⟩ := A.base.own b hb
    exact ⟨h1, by rw [upd_ne (fun z => h2 (by rw [z]; exact n))]; exact h2⟩
  · rcases List.mem_cons.mp hb with e | hb
    · cases e
      exact ⟨fa, upd_same, ha0, nO⟩
    · obtain ⟨h1, h2, h3⟩ := A.base.pend b u hb
      exact ⟨h1, s _ _ h2, h3⟩
  · obtain ⟨h1, h2, h3⟩ := O.at_ i b hi hb
    exact ⟨h1, by rw [upd_ne (fun z => h2 (by rw [z]; exact n))]; exact h2, h3⟩
  · rcases List.mem_cons.mp hu with e | hu
    · cases e
      exact (O.at_ i _ hi hb).2.1 n
    · exact O.pd i b hi hb u hu
theorem As.fresh (A : As w G σ F H) {a : Addr} (n : H a = none) : ∀ o, (a, o) ∉ w.P := fun o h => by
  have := (A.base.pend a o h).2.1
  rw [n] at this; cases this
/-- forgotten -/
theorem As.drop {a : Addr} {o : HO} (A : As (w.push a o) G σ F H) : As w G σ F H := by
  obtain ⟨q, O⟩ := A.get
  exact .mk' (q := q) A.len ⟨A.base.f0, A.base.fh, A.base.src, A.base.keep, A.base.own, fun b u hb => A.base.pend b u (List.mem_cons_of_mem _ hb)⟩ ⟨O.ok, O.at_, O.dis, fun i b hi hb u hu => O.pd i b hi hb u (List.mem_cons_of_mem _ hu)⟩
theorem As.top {a : Addr} {o : HO} (A : As (w.push a o) G σ F H) : F a = none ∧ H a = some o ∧ w.H0 a = none ∧ a ∉ w.O := A.base.pend a o List.mem_cons_self
/-- changed -/
theorem As.repend {a : Addr} {o o' : HO} (A : As (w.push a o) G σ F H) (hn : ∀ u, (a, u) ∉ w.P) : As (w.push a o') G σ F (upd H a o') := by
  obtain ⟨q, O⟩ := A.get
  obtain ⟨fa, ha, ha0, nO⟩ := A.top
  have k : ∀ b u, b ≠ a → H b = some u → upd H a o' b = some u := fun b u z e => by rw [upd_ne z]; exact e
  have own : ∀ {i b}, i < G.length → b ∈ q i → b ≠ a := fun hi hb z => O.pd _ _ hi hb o (by rw [z]; exact List.mem_cons_self)
  refine .mk' (q := q) A.len ⟨A.base.f0, fun b u e => k b u (ne_of_none e fa) (A.base.fh b u e), A.base.src, fun b u hb e => k b u (ne_of_none e ha0) (A.base.keep b u hb e), fun b hb => ?_, fun b u hb => ?_⟩
    ⟨fun i e h => (O.ok i e h).step (Same.refl _) fun b u hb e => k b u (own (List.getElem?_eq_some_iff.mp h).1 hb) e, fun i b hi hb => ?_, O.dis, fun i b hi hb u hu => ?_⟩
  · obtain ⟨h1, h2⟩ := A.base.own b hb
    exact ⟨h1, by rw [upd_ne (fun z => nO (by rw [← z]; exact hb))]; exact h2⟩
  · rcases List.mem_cons.mp hb with e | hb
    · cases e
      exact ⟨fa, upd_same, ha0, nO⟩
    · obtain ⟨h1, h2, h3⟩ := A.base.pend b u (List.mem_cons_of_mem _ hb)
      exact ⟨h1, k b u (fun z => hn u (by rw [← z]; exact hb)) h2, h3⟩
  · obtain ⟨h1, h2, h3⟩ := O.at_ i b hi hb
    exact ⟨h1, by rw [upd_ne (own hi hb)]; exact h2, h3⟩
  · rcases List.mem_cons.mp hu with e | hu
    · cases e
      exact own hi hb rfl
    · exact O.pd i b hi hb u (List.mem_cons_of_mem _ hu)
/-- known from now on -/
theorem As.known {a : Addr} {o : HO} (A : As (w.push a o) G σ F H) (hn : ∀ u, (a, u) ∉ w.P) : As w G σ (upd F a o) H ∧ Same F (upd F a o) := by
  obtain ⟨q, O⟩ := A.get
  obtain ⟨fa, ha, ha0, nO⟩ := A.top
  have s : Same F (upd F a o) := same_new fa
  have own : ∀ {i b}, i < G.length → b ∈ q i → b ≠ a := fun hi hb z => O.pd _ _ hi hb o (by rw [z]; exact List.mem_cons_self)
  refine ⟨.mk' (q := q) A.len ⟨A.base.f0.trans s, fun b u e => ?_, fun b u e => ?_, A.base.keep, fun b hb => ?_, fun b u hb => ?_⟩
    ⟨fun i e h => (O.ok i e h).step s fun b u hb e => e, fun i b hi hb => ?_, O.dis, fun i b hi hb u hu => O.pd i b hi hb u (List.mem_cons_of_mem _ hu)⟩, s⟩
  · by_cases z : b = a
    · subst z
      rw [upd_same] at e
      rw [← e]; exact ha
    · rw [upd_ne z] at e
      exact A.base.fh b u e
  · by_cases z : b = a
    · subst z
      exact .inr ha0
    · rw [upd_ne z] at e
      exact A.base.src b u e
  · obtain ⟨h1, h2⟩ := A.base.own b hb
    exact ⟨by rw [upd_ne (fun z => nO (by rw [← z]; exact hb))]; exact h1, h2⟩
  · obtain ⟨h1, h2, h3⟩ := A.base.pend b u (List.mem_cons_of_mem _ hb)
    exact ⟨by rw [upd_ne (fun z => hn u (by rw [← z]; exact hb))]; exact h1, h2, h3⟩
  · obtain ⟨h1, h2, h3⟩ := O.at_ i b hi hb
    exact ⟨by rw [upd_ne (own hi hb)]; exact h1, h2, h3⟩
/-- a slot gets the new list as its own -/
theorem As.putL (i : Nat) {a : Addr} {vs : List V} {ds : List D} (A : As (w.push a (.lst vs)) G σ F H) (hn : ∀ u, (a, u) ∉ w.P) (r : RpL w.K F vs ds) : As w (G.set i (.l ds)) (σ.set i (some (.ref a))) F H := by
  obtain ⟨fa, ha, ha0, nO⟩ := A.top
  obtain ⟨q0, O0⟩ := A.get
  have own : ∀ {i b}, i < G.length → b ∈ q0 i → b ≠ a := fun hi hb z => O0.pd _ _ hi hb (.lst vs) (by rw [z]; exact List.mem_cons_self)
  have B := A.drop
  have O : Own w G σ F H q0 := ⟨O0.ok, O0.at_, O0.dis, fun i b hi hb u hu => O0.pd i b hi hb u (List.mem_cons_of_mem _ hu)⟩
  by_cases hi : i < G.length
  · refine .mk' (by simp [A.len]) B.base (O.put A.len hi (l := [a]) ⟨a, vs, rfl, nO, rfl, ha, r⟩ (Same.refl _) (fun _ _ _ _ _ _ e => e) (fun j a hj _ ha => (O.at_ j a hj ha).1) (fun b hb => ?_) (fun j b hj _ hb hc => ?_) fun b hb u hu => ?_)
    · obtain rfl : b = a := by simpa using hb
      exact ⟨fa, by rw [ha]; exact (fun z => nomatch z), .inr ha0⟩
    · obtain rfl : b = a := by simpa using hc
      exact own hj hb rfl
    · obtain rfl : b = a := by simpa using hb
      exact hn u hu
  · rw [set_far hi, set_far (by rw [A.len]; exact hi)]
    exact B
/-- a slot's own list is changed -/
theorem As.mutL (A : As w G σ F H) {i : Nat} {xs ys : List D} (h : G[i]? = some (.l xs)) {a : Addr} {vs : List V} (hs : σ[i]? = some (some (.ref a))) (r : RpL w.K F vs ys) : As w (G.set i (.l ys)) σ F (upd H a (.lst vs)) := by
  obtain ⟨q, O⟩ := A.get
  have hi := (List.getElem?_eq_some_iff.mp h).1
  obtain ⟨a', ws, eq, nO, r1, r2, r3⟩ := O.ok i _ h
  rw [hs] at r1
  cases r1
  obtain ⟨fa, ha, ho⟩ := O.at_ i a hi (by rw [eq]; simp)
  have h0 : w.H0 a = none := ho.elim (fun z => absurd z nO) id
  have np := O.pd i a hi (by rw [eq]; simp)
  have k : ∀ b u, b ≠ a → H b = some u → upd H a (.lst vs) b = some u := fun b u z e => by rw [upd_ne z]; exact e
  have other : ∀ {j b}, j < G.length → j ≠ i → b ∈ q j → b ≠ a := fun hj hn hb z => hn (O.dis _ i a hj hi (z ▸ hb) (by rw [eq]; simp))
  have es : σ = σ.set i (some (.ref a)) := by
    refine List.ext_getElem? fun j => ?_
    by_cases z : j = i
    · subst z
      rw [List.getElem?_set_self (by rw [A.len]; exact hi)]
      exact hs
    · rw [List.getElem?_set_ne (Ne.symm z)]
  rw [es]
  refine .mk' (by simp [A.len]) ⟨A.base.f0, fun b u e => k b u (ne_of_none e fa) (A.base.fh b u e), A.base.src, fun b u hb e => k b u (ne_of_none e h0) (A.base.keep b u hb e), fun b hb => ?_, fun b u hb => ?_⟩
    (O.put A.len hi (l := [a]) ⟨a, vs, rfl, nO, rfl, upd_same, r⟩ (Same.refl _) (fun j b u hj z hb e => k b u (other hj z hb) e) (fun j b hj _ hb => (O.at_ j b hj hb).1) (fun b hb => ?_) (fun j b hj z hb hc => ?_) fun b hb => ?_)
  · obtain ⟨h1, h2⟩ := A.base.own b hb
    exact ⟨h1, by rw [upd_ne (fun z => nO (by rw [← z]; exact hb))]; exact h2⟩
  · obtain ⟨h1, h2, h3⟩ := A.base.pend b u hb
    exact ⟨h1, k b u (fun z => np u (by rw [← z]; exact hb)) h2, h3⟩
  · obtain rfl : b = a := by simpa using hb
    exact ⟨fa, by rw [upd_same]; exact (fun z => nomatch z), ho⟩
  · obtain rfl : b = a := by simpa using hc
    exact other hj z hb rfl
  · obtain rfl : b = a := by simpa using hb
    exact np
/-- a slot's own list is known from now on -/
theorem As.freeze (A : As w G σ F H) {i : Nat} {xs : List D} (h : G[i]? = some (.l xs)) : ∃ a vs, σ[i]? = some (some (.ref a)) ∧ H a = some (.lst vs) ∧ RpL w.K F vs xs ∧ Same F (upd F a (.lst vs)) ∧ As w (G.set i (.d (.lst xs))) σ (upd F a (.lst vs)) H := by
  obtain ⟨q, O⟩ := A.get
  have hi := (List.getElem?_eq_some_iff.mp h).1
  obtain ⟨a, vs, eq, nO, r1, r2, r3⟩ := O.ok i _ h
  obtain ⟨fa, ha, ho⟩ := O.at_ i a hi (by rw [eq]; simp)
  have h0 : w.H0 a = none := ho.elim (fun z => absurd z nO) id
  have np := O.pd i a hi (by rw [eq]; simp)
  have s : Same F (upd F a (.lst vs)) := same_new fa
  have other : ∀ {j b}, j < G.length → j ≠ i → b ∈ q j → b ≠ a := fun hj hn hb z => hn (O.dis _ i a hj hi (z ▸ hb) (by rw [eq]; simp))
  have es : σ = σ.set i (some (.ref a)) := by
    refine List.ext_getElem? fun j => ?_
    by_cases z : j = i
    · subst z
      rw [List.getElem?_set_self (by rw [A.len]; exact hi)]
      exact r1
    · rw [List.getElem?_set_ne (Ne.symm z)]
  refine ⟨a, vs, r1, r2, r3, s, ?_⟩
  rw [es]
  refine .mk' (by simp [A.len]) ⟨A.base.f0.trans s, fun b u e => ?_, fun b u e => ?_, A.base.keep, fun b hb => ?_, fun b u hb => ?_⟩
    (O.put A.len hi (l := []) ⟨rfl, .ref a, rfl, .lst upd_same (r3.mono s)⟩ s (fun _ _ _ _ _ _ e => e) (fun j b hj z hb => by rw [upd_ne (other hj z hb)]; exact (O.at_ j b hj hb).1) (fun _ h => nomatch h) (fun _ _ _ _ _ h => nomatch h) fun _ h => nomatch h)
  · by_cases z : b = a
    · subst z
      rw [upd_same] at e
      rw [← e]; exact r2
    · rw [upd_ne z] at e
      exact A.base.fh b u e
  · by_cases z : b = a
    · subst z
      exact .inr h0
    · rw [upd_ne z] at e
      exact A.base.src b u e
  · obtain ⟨h1, h2⟩ := A.base.own b hb
    exact ⟨by rw [upd_ne (fun z => nO (by rw [← z]; exact hb))]; exact h1, h2⟩
  · obtain ⟨h1, h2, h3⟩ := A.base.pend b u hb
    exact ⟨by rw [upd_ne (fun z => np u (by rw [← z]; exact hb))]; exact h1, h2, h3⟩
/-- the source of draws is used -/
theorem As.drawn {i : Nat} {p c : Addr} (A : As w G σ F H) (h : G[i]? = some (.dr p c)) (k : ∀ b o, b ≠ p → b ≠ c → H b = some o → H' b = some o) (hd : Dr H' p c) : As w G σ (ext F H H') H' ∧ Same F (ext F H H') := by
  obtain ⟨q, O⟩ := A.get
  have hi := (List.getElem?_eq_some_iff.mp h).1
  obtain ⟨eq, r1, r2⟩ := O.ok i _ h
  have mp : p ∈ q i := by rw [eq]; simp
  have mc : c ∈ q i := by rw [eq]; simp
  obtain ⟨fp, hp, op⟩ := O.at_ i p hi mp
  obtain ⟨fc, hc, oc⟩ := O.at_ i c hi mc
  have s : Same F (ext F H H') := ext_same A.base.fh
  have Hp' : H' p ≠ none := by
    obtain ⟨_, _, _, _, e, _⟩ := hd
    rw [e]; exact fun z => nomatch z
  have Hc' : H' c ≠ none := by
    obtain ⟨_, _, _, _, _, e, _⟩ := hd
    rw [e]; exact fun z => nomatch z
  have kn : ∀ b, H b ≠ none → H' b ≠ none := fun b hb => by
    by_cases e1 : b = p
    · rw [e1]; exact Hp'
    · by_cases e2 : b = c
      · rw [e2]; exact Hc'
      · cases e : H b with
        | none => exact absurd e hb
        | some o => rw [k b o e1 e2 e]; exact fun z => nomatch z
  have f0 : ∀ b, H b ≠ none → ext F H H' b = F b := fun b hb => by
    cases e : H b with
    | none => exact absurd e hb
    | some o => exact ext_some e
  have other : ∀ {j b}, j < G.length → j ≠ i → b ∈ q j → b ≠ p ∧ b ≠ c := fun hj hn hb => ⟨fun z => hn (O.dis _ i p hj hi (z ▸ hb) mp), fun z => hn (O.dis _ i c hj hi (z ▸ hb) mc)⟩
  have sub : Same (ext F H H') H' := fun b o e => by
    cases e' : H b with
    | none => rwa [ext_none e'] at e
    | some u =>
      rw [ext_some e'] at e
      exact k b o (ne_of_none e fp) (ne_of_none e fc) (A.base.fh b o e)
  refine ⟨.mk' (q := q) A.len ⟨A.base.f0.trans s, sub, fun b o e => ?_, fun b o hb e => ?_, fun b hb => ?_, fun b o hb => ?_⟩ ⟨fun j u hj => ?_, fun j b hj hb => ?_, O.dis, O.pd⟩, s⟩
  · cases e' : H b with
    | none =>
      by_cases ho : b ∈ w.O
      · exact absurd e' (A.base.own b ho).2
      · cases q0 : w.H0 b with
        | none => exact .inr rfl
        | some u => rw [A.base.keep b u ho q0] at e'; cases e'
    | some u =>
      rw [ext_some e'] at e
      exact A.base.src b o e
  · have e' := A.base.keep b o hb e
    by_cases e1 : b = p
    · subst e1
      rcases op with op | op
      · exact absurd op hb
      · rw [op] at e; cases e
    · by_cases e2 : b = c
      · subst e2
        rcases oc with oc | oc
        · exact absurd oc hb
        · rw [oc] at e; cases e
      · exact k b o e1 e2 e'
  · obtain ⟨f, hn⟩ := A.base.own b hb
    exact ⟨by rw [f0 b hn]; exact f, kn b hn⟩
  · obtain ⟨h1, h2, h3⟩ := A.base.pend b o hb
    exact ⟨by rw [ext_some h2]; exact h1, k b o (fun z => O.pd i p hi mp o (by rw [← z]; exact hb)) (fun z => O.pd i c hi mc o (by rw [← z]; exact hb)) h2, h3⟩
  · by_cases e : j = i
    · subst e
      rw [h] at hj
      cases hj
      exact ⟨eq, r1, hd⟩
    · refine (O.ok j u hj).step s fun b o hb e' => ?_
      obtain ⟨n1, n2⟩ := other (List.getElem?_eq_some_iff.mp hj).1 e hb
      exact k b o n1 n2 e'
  · obtain ⟨f, hn, z⟩ := O.at_ j b hj hb
    exact ⟨by rw [f0 b hn]; exact f, kn b hn, z⟩
/-- what is new, but for some -/
def extBut (F H H' : Hp) (qs : List Addr) : Hp := fun b => if b ∈ qs then none else ext F H H' b
/-- a slot's own thing is changed -/
theorem As.own1 (A : As w G σ F H) {i : Nat} {x : OwnP} (h : G[i]? = some (.o x)) : ∃ v qs, σ[i]? = some (some v) ∧ x.ok F H v qs ∧ (∀ a, a ∈ qs → F a = none ∧ H a ≠ none) ∧
    ∀ (x' : OwnP) (H' : Hp) (qs' : List Addr), (∀ b u, b ∉ qs → H b = some u → H' b = some u) → (∀ b, b ∈ qs → H' b ≠ none) → (∀ a, a ∈ qs' → (a ∈ qs ∨ H a = none) ∧ H' a ≠ none) → x'.ok (extBut F H H' qs') H' v qs' → As w (G.set i (.o x')) σ (extBut F H H' qs') H' ∧ Same F (extBut F H H' qs') := by
  obtain ⟨q, O⟩ := A.get
  have hi := (List.getElem?_eq_some_iff.mp h).1
  obtain ⟨v, r1, r2⟩ := O.ok i _ h
  refine ⟨v, q i, r1, r2, fun a ha => ⟨(O.at_ i a hi ha).1, (O.at_ i a hi ha).2.1⟩, fun x' H' qs' k kq hq' hx' => ?_⟩
  have Fq : ∀ b, b ∈ q i → F b = none := fun b hb => (O.at_ i b hi hb).1
  have noO : ∀ b u, F b = some u → b ∉ qs' := fun b u e hb => by
    rcases (hq' b hb).1 with z | z
    · rw [Fq b z] at e; cases e
    · rw [A.base.fh b u e] at z; cases z
  have s : Same F (extBut F H H' qs') := fun b u e => by
    unfold extBut
    rw [if_neg (noO b u e)]
    exact ext_same A.base.fh b u e
  have es : σ = σ.set i (some v) := by
    refine List.ext_getElem? fun j => ?_
    by_cases z : j = i
    · subst z
      rw [List.getElem?_set_self (by rw [A.len]; exact hi)]
      exact r1
    · rw [List.getElem?_set_ne (Ne.symm z)]
  have other : ∀ {j b}, j < G.length → j ≠ i → b ∈ q j → b ∉ q i := fun hj hn hb z => hn (O.dis _ i _ hj hi hb z)
  have new : ∀ {b u}, H b = some u → b ∉ q i → b ∉ qs' := fun {b u} e hn hb => by
    rcases (hq' b hb).1 with z | z
    · exact hn z
    · rw [e] at z; cases z
  have val : ∀ {b u}, H b = some u → extBut F H H' qs' b = if b ∈ qs' then none else F b := fun {b u} e => by
    unfold extBut
    rw [ext_some e]
  have sub : Same (extBut F H H' qs') H' := fun b o e => by
    unfold extBut at e
    split at e
    · cases e
    · cases e' : H b with
      | none => rwa [ext_none e'] at e
      | some u =>
        rw [ext_some e'] at e
        exact k b o (fun z => by rw [Fq b z] at e; cases e) (A.base.fh b o e)
  refine ⟨?_, s⟩
  rw [es]
  refine .mk' (by simp [A.len]) ⟨A.base.f0.trans s, sub, fun b o e => ?_, fun b o hb e => ?_, fun b hb => ?_, fun b o hb => ?_⟩
    (O.put A.len hi (l := qs') ⟨v, rfl, hx'⟩ s (fun j b u hj z hb e => k b u (other hj z hb) e) (fun j b hj z hb => ?_) (fun b hb => ?_) (fun j b hj z hb hc => ?_) fun b hb u hu => ?_)
  · unfold extBut at e
    split at e
    · cases e
    · cases e' : H b with
      | none =>
        by_cases ho : b ∈ w.O
        · exact absurd e' (A.base.own b ho).2
        · cases q0 : w.H0 b with
          | none => exact .inr rfl
          | some u => rw [A.base.keep b u ho q0] at e'; cases e'
      | some u =>
        rw [ext_some e'] at e
        exact A.base.src b o e
  · have e' := A.base.keep b o hb e
    exact k b o (fun z => by
      rcases (O.at_ i b hi z).2.2 with y | y
      · exact hb y
      · rw [y] at e; cases e) e'
  · obtain ⟨f, hn⟩ := A.base.own b hb
    cases e : H b with
    | none => exact absurd e hn
    | some u =>
      refine ⟨by rw [val e]; split; rfl; exact f, ?_⟩
      by_cases z : b ∈ q i
      · exact kq b z
      · rw [k b u z e]; exact fun z => nomatch z
  · obtain ⟨h1, h2, h3⟩ := A.base.pend b o hb
    have nq : b ∉ q i := fun z => O.pd i b hi z o hb
    exact ⟨by rw [val h2, if_neg (new h2 nq)]; exact h1, k b o nq h2, h3⟩
  · obtain ⟨f, hn, _⟩ := O.at_ j b hj hb
    cases e : H b with
    | none => exact absurd e hn
    | some u => rw [val e]; split; rfl; exact f
  · refine ⟨by unfold extBut; rw [if_pos hb], (hq' b hb).2, ?_⟩
    rcases (hq' b hb).1 with z | z
    · exact (O.at_ i b hi z).2.2
    · cases e : w.H0 b with
      | none => exact .inr rfl
      | some u =>
        by_cases ho : b ∈ w.O
        · exact .inl ho
        · rw [A.base.keep b u ho e] at z; cases z
  · obtain ⟨_, hn, _⟩ := O.at_ j b hj hb
    rcases (hq' b hc).1 with y | y
    · exact other hj z hb y
    · exact hn y
  · rcases (hq' b hb).1 with y | y
    · exact O.pd i b hi y u hu
    · have := (A.base.pend b u hu).2.1
      rw [y] at this; cases this
/-- slots that tell nothing may hold anything -/
theorem As.slots {σ' : L2.St} (A : As w G σ F H) (hl : σ'.length = σ.length) (h : ∀ i : Nat, G[i]? = some Ent.no ∨ σ'[i]? = σ[i]?) : As w G σ' F H := by
  obtain ⟨q, O⟩ := A.get
  refine .mk' (q := q) (hl.trans A.len) A.base ⟨fun i e he => ?_, O.at_, O.dis, O.pd⟩
  rcases h i with z | z
  · rw [he] at z
    cases z
    exact O.ok i _ he
  · rw [z]
    exact O.ok i e he
/-- forgetting -/
theorem As.forget (A : As w G σ F H) (i : Nat) : As w (G.set i .no) σ F H := by
  by_cases hi : i < G.length
  · refine (A.put i (s := none) (e := .no) rfl).slots (by simp) fun j => ?_
    by_cases z : j = i
    · subst z
      exact .inl (List.getElem?_set_self hi)
    · exact .inr (by rw [List.getElem?_set_ne (Ne.symm z)])
  · rw [set_far hi]
    exact A
end
end Sd
set_option Elab.async false
set_option linter.all false
set_option maxRecDepth 100000
set_option maxHeartbeats 4000000
/-! Sd1: readings told by data: expressions, tests, arguments. -/
namespace Sd
open PySem PySem.Spec L2

theorem line_ok {n : Nat} (h : n ≤ 1000000) : n ≤ sizeLine := by rw [sizeLine_eq]; omega
theorem line_lt {n : Nat} (h : n ≤ 1000000) : n < sizeLine := by rw [sizeLine_eq]; omega

/-- an expression gives data of which Q holds -/
def wp (w : Wd) (te : TE) (G : List Ent) (Q : D → Prop) : Prop := ∀ σ F H, As w G σ F H → ∀ k : VK, (∀ v d F' H', Same F F' → As w G σ F' H' → Rp w.K F' v d → Q d → k v H') → te σ H k
def wpt (w : Wd) (tt : TT) (G : List Ent) (Q : Bool → Prop) : Prop := ∀ σ F H, As w G σ F H → ∀ k : Bool → Hp → Prop, (∀ b F' H', Same F F' → As w G σ F' H' → Q b → k b H') → tt σ H k
def wpa (w : Wd) (ta : TA) (G : List Ent) (Q : List D → Prop) : Prop := ∀ σ F H, As w G σ F H → ∀ k : List V → Hp → Prop, (∀ vs ds F' H', Same F F' → As w G σ F' H' → RpL w.K F' vs ds → Q ds → k vs H') → ta σ H k
/-- an expression gives a new list -/
def wpl (w : Wd) (te : TE) (G : List Ent) (Q : List D → Prop) : Prop := ∀ σ F H, As w G σ F H → ∀ k : VK, (∀ a vs ds F' H', Same F F' → As (w.push a (.lst vs)) G σ F' H' → (∀ u, (a, u) ∉ w.P) → RpL w.K F' vs ds → Q ds → k (.ref a) H') → te σ H k
def wpo (w : Wd) (to : TO) (G : List Ent) (Q : Option Int → Prop) : Prop := ∀ σ F H, As w G σ F H → ∀ k : Option Int → Hp → Prop, (∀ o F' H', Same F F' → As w G σ F' H' → Q o → k o H') → to σ H k
/-- an operation on values -/
def R2D (K : PySem.W.Frag) (r : R2) (x y : D) (Q : D → Prop) : Prop := ∀ F H v u, Same F H → Rp K F v x → Rp K F u y → ∀ k : VK, (∀ z d H', Same H H' → Rp K (ext F H H') z d → Q d → k z H') → r v u H k
def RCD (K : PySem.W.Frag) (r : List V → Hp → VK → Prop) (xs : List D) (Q : D → Prop) : Prop := ∀ F H vs, Same F H → RpL K F vs xs → ∀ k : VK, (∀ z d H', Same H H' → Rp K (ext F H H') z d → Q d → k z H') → r vs H k
def RMD (K : PySem.W.Frag) (r : V → List V → Hp → VK → Prop) (x : D) (xs : List D) (Q : D → Prop) : Prop := ∀ F H v vs, Same F H → Rp K F v x → RpL K F vs xs → ∀ k : VK, (∀ z d H', Same H H' → Rp K (ext F H H') z d → Q d → k z H') → r v vs H k
def RSD (K : PySem.W.Frag) (r : V → Option Int → Option Int → Hp → VK → Prop) (x : D) (lo hi : Option Int) (Q : D → Prop) : Prop := ∀ F H v, Same F H → Rp K F v x → ∀ k : VK, (∀ z d H', Same H H' → Rp K (ext F H H') z d → Q d → k z H') → r v lo hi H k
/-- a new list by such -/
def RCL (K : PySem.W.Frag) (r : List V → Hp → VK → Prop) (xs : List D) (Q : List D → Prop) : Prop := ∀ F H vs, Same F H → RpL K F vs xs → ∀ k : VK, (∀ a vs ds H', Same H H' → H' a = none → RpL K (ext F H H') vs ds → Q ds → k (.ref a) (upd H' a (.lst vs))) → r vs H k
def RML (K : PySem.W.Frag) (r : V → List V → Hp → VK → Prop) (x : D) (xs : List D) (Q : List D → Prop) : Prop := ∀ F H v vs, Same F H → Rp K F v x → RpL K F vs xs → ∀ k : VK, (∀ a vs ds H', Same H H' → H' a = none → RpL K (ext F H H') vs ds → Q ds → k (.ref a) (upd H' a (.lst vs))) → r v vs H k
def R2L (K : PySem.W.Frag) (r : R2) (x y : D) (Q : List D → Prop) : Prop := ∀ F H v u, Same F H → Rp K F v x → Rp K F u y → ∀ k : VK, (∀ a vs ds H', Same H H' → H' a = none → RpL K (ext F H H') vs ds → Q ds → k (.ref a) (upd H' a (.lst vs))) → r v u H k
def RSL (K : PySem.W.Frag) (r : V → Option Int → Option Int → Hp → VK → Prop) (x : D) (lo hi : Option Int) (Q : List D → Prop) : Prop := ∀ F H v, Same F H → Rp K F v x → ∀ k : VK, (∀ a vs ds H', Same H H' → H' a = none → RpL K (ext F H H') vs ds → Q ds → k (.ref a) (upd H' a (.lst vs))) → r v lo hi H k

section
variable {w : Wd} {G : List Ent} {Q : D → Prop} {te ta tb : TE} {tt tu : TT} {tas : TA}
theorem ext_self {F H : Hp} (s : Same F H) : ext F H H = F := by
  funext b
  cases e : H b with
  | none =>
    rw [ext_none e, e]
    cases q : F b with
    | none => rfl
    | some o => rw [s b o q] at e; cases e
  | some o => rw [ext_some e]
theorem wp.imp {Q' : D → Prop} (h : wp w te G Q) (i : ∀ d, Q d → Q' d) : wp w te G Q' := fun σ F H A k q => h σ F H A k fun v d F' H' s A' r z => q v d F' H' s A' r (i d z)
theorem wpt.imp {Q Q' : Bool → Prop} (h : wpt w tt G Q) (i : ∀ d, Q d → Q' d) : wpt w tt G Q' := fun σ F H A k q => h σ F H A k fun b F' H' s A' z => q b F' H' s A' (i b z)
theorem wpa.imp {Q Q' : List D → Prop} (h : wpa w tas G Q) (i : ∀ d, Q d → Q' d) : wpa w tas G Q' := fun σ F H A k q => h σ F H A k fun v d F' H' s A' r z => q v d F' H' s A' r (i d z)
theorem wpl.imp {Q Q' : List D → Prop} (h : wpl w te G Q) (i : ∀ d, Q d → Q' d) : wpl w te G Q' := fun σ F H A k q => h σ F H A k fun a v d F' H' s A' n r z => q a v d F' H' s A' n r (i d z)

/-! ### names, constants -/
theorem wp_var {i : Nat} {d : D} (h : G[i]? = some (.d d)) (q : Q d) : wp w (tVar i) G Q := fun σ F H A k z => by
  obtain ⟨v, e, r⟩ := A.dat h
  exact ⟨v, e, z v d F H (Same.refl _) A r q⟩
theorem wp_int {i : Int} (q : Q (.int i)) : wp w (tC (.int i)) G Q := fun σ F H A k z => z _ _ F H (Same.refl _) A (.int i) q
theorem wp_bl {b : Bool} (q : Q (.bl b)) : wp w (tC (.bl b)) G Q := fun σ F H A k z => z _ _ F H (Same.refl _) A (.bl b) q
theorem wp_str {x : Str} (q : Q (.str x)) : wp w (tC (.str x)) G Q := fun σ F H A k z => z _ _ F H (Same.refl _) A (.str x) q
theorem wp_non (q : Q .non) : wp w (tC .non) G Q := fun σ F H A k z => z _ _ F H (Same.refl _) A .non q

/-! ### arguments, displays -/
theorem wpa_nil {Q : List D → Prop} (q : Q []) : wpa w tNil G Q := fun σ F H A k z => z _ _ F H (Same.refl _) A .nil q
theorem wpa_cons {Q : List D → Prop} {tr : TA} (h : wp w te G fun d => wpa w tr G fun ds => Q (d :: ds)) : wpa w (tCons te tr) G Q := fun σ F H A k z =>
  h σ F H A _ fun v d F1 H1 s1 A1 r1 h1 => h1 σ F1 H1 A1 _ fun vs ds F2 H2 s2 A2 r2 q => z _ _ F2 H2 (s1.trans s2) A2 (.cons (r1.mono s2) r2) q
theorem wp_tup (h : wpa w tas G fun ds => ds.length ≤ 1000000 ∧ Q (.tup ds)) : wp w (tTup tas) G Q := fun σ F H A k z =>
  h σ F H A _ fun vs ds F1 H1 s1 A1 r1 q => ⟨line_ok (r1.length ▸ q.1), fun p hp =>
    have hf := A1.fh.free hp
    z _ _ (upd F1 p (.tup vs)) (upd H1 p (.tup vs)) (s1.trans (same_new hf)) (A1.new hp) (.tup upd_same (r1.mono (same_new hf))) q.2⟩
theorem wpl_lst {Q : List D → Prop} (h : wpa w tas G fun ds => ds.length ≤ 1000000 ∧ Q ds) : wpl w (tLst tas) G Q := fun σ F H A k z =>
  h σ F H A _ fun vs ds F1 H1 s1 A1 r1 q => ⟨line_ok (r1.length ▸ q.1), fun p hp => z p vs ds F1 _ s1 (A1.pend hp) (A1.fresh hp) r1 q.2⟩
/-- a new list as data -/
theorem wp_l (h : wpl w te G fun ds => Q (.lst ds)) : wp w te G Q := fun σ F H A k z =>
  h σ F H A _ fun a vs ds F1 H1 s1 A1 n r q =>
    have B := A1.known n
    z _ _ (upd F1 a (.lst vs)) _ (s1.trans B.2) B.1 (.lst upd_same (r.mono B.2)) q

/-! ### operations -/
theorem wp_op {r : R2} (h : wp w ta G fun x => wp w tb G fun y => R2D w.K r x y Q) : wp w (tOp r ta tb) G Q := fun σ F H A k z =>
  h σ F H A _ fun v x F1 H1 s1 A1 r1 h1 => h1 σ F1 H1 A1 _ fun u y F2 H2 s2 A2 r2 q =>
    q F2 H2 v u A2.fh (r1.mono s2) r2 _ fun z0 d H3 s3 r3 qd => z _ _ _ H3 ((s1.trans s2).trans A2.same) (A2.step s3) r3 qd
theorem wp_un {r : V → Hp → VK → Prop} (h : wp w ta G fun x => RCD w.K (fun vs H k => ∃ v, vs = [v] ∧ r v H k) [x] Q) : wp w (tUn r ta) G Q := fun σ F H A k z =>
  h σ F H A _ fun v x F1 H1 s1 A1 r1 q => by
    obtain ⟨v', e, h2⟩ := q F1 H1 [v] A1.fh (.cons r1 .nil) k fun z0 d H3 s3 r3 qd => z _ _ _ H3 (s1.trans A1.same) (A1.step s3) r3 qd
    cases e
    exact h2
theorem wp_cb {r : List V → Hp → VK → Prop} (h : wpa w tas G fun xs => RCD w.K r xs Q) : wp w (tCB r tas) G Q := fun σ F H A k z =>
  h σ F H A _ fun vs ds F1 H1 s1 A1 r1 q => q F1 H1 vs A1.fh r1 _ fun z0 d H3 s3 r3 qd => z _ _ _ H3 (s1.trans A1.same) (A1.step s3) r3 qd
theorem wpl_cb {Q : List D → Prop} {r : List V → Hp → VK → Prop} (h : wpa w tas G fun xs => RCL w.K r xs Q) : wpl w (tCB r tas) G Q := fun σ F H A k z =>
  h σ F H A _ fun vs ds F1 H1 s1 A1 r1 q => q F1 H1 vs A1.fh r1 _ fun a vs2 ds2 H3 s3 n r3 qd => z _ _ _ _ _ (s1.trans A1.same) ((A1.step s3).pend n) ((A1.step s3).fresh n) r3 qd
theorem wpl_op {Q : List D → Prop} {r : R2} (h : wp w ta G fun x => wp w tb G fun y => R2L w.K r x y Q) : wpl w (tOp r ta tb) G Q := fun σ F H A k z =>
  h σ F H A _ fun v x F1 H1 s1 A1 r1 h1 => h1 σ F1 H1 A1 _ fun u y F2 H2 s2 A2 r2 q =>
    q F2 H2 v u A2.fh (r1.mono s2) r2 _ fun a vs2 ds2 H3 s3 n r3 qd => z _ _ _ _ _ ((s1.trans s2).trans A2.same) ((A2.step s3).pend n) ((A2.step s3).fresh n) r3 qd
theorem wp_m0 {r : V → List V → Hp → VK → Prop} (h : wp w te G fun x => (∃ a, x = .str a) ∧ RMD w.K r x [] Q) : wp w (tM0 r te) G Q := fun σ F H A k z =>
  h σ F H A _ fun v x F1 H1 s1 A1 r1 q => by
    obtain ⟨⟨a, rfl⟩, q⟩ := q
    cases r1
    exact ⟨⟨a, rfl⟩, q F1 H1 _ [] A1.fh (.str a) .nil _ fun z0 d H3 s3 r3 qd => z _ _ _ H3 (s1.trans A1.same) (A1.step s3) r3 qd⟩
theorem wp_m1 {r : V → List V → Hp → VK → Prop} (h : wp w ta G fun x => (∃ a, x = .str a) ∧ wp w tb G fun y => RMD w.K r x [y] Q) : wp w (tM1 r ta tb) G Q := fun σ F H A k z =>
  h σ F H A _ fun v x F1 H1 s1 A1 r1 q => by
    obtain ⟨⟨a, rfl⟩, q⟩ := q
    cases r1
    exact ⟨⟨a, rfl⟩, q σ F1 H1 A1 _ fun u y F2 H2 s2 A2 r2 q => q F2 H2 _ [u] A2.fh (.str a) (.cons r2 .nil) _ fun z0 d H3 s3 r3 qd => z _ _ _ H3 ((s1.trans s2).trans A2.same) (A2.step s3) r3 qd⟩
theorem wpl_m1 {Q : List D → Prop} {r : V → List V → Hp → VK → Prop} (h : wp w ta G fun x => (∃ a, x = .str a) ∧ wp w tb G fun y => RML w.K r x [y] Q) : wpl w (tM1 r ta tb) G Q := fun σ F H A k z =>
  h σ F H A _ fun v x F1 H1 s1 A1 r1 q => by
    obtain ⟨⟨a, rfl⟩, q⟩ := q
    cases r1
    exact ⟨⟨a, rfl⟩, q σ F1 H1 A1 _ fun u y F2 H2 s2 A2 r2 q => q F2 H2 _ [u] A2.fh (.str a) (.cons r2 .nil) _ fun a vs2 ds2 H3 s3 n r3 qd => z _ _ _ _ _ ((s1.trans s2).trans A2.same) ((A2.step s3).pend n) ((A2.step s3).fresh n) r3 qd⟩
theorem wpo_none {Q : Option Int → Prop} (q : Q none) : wpo w tNoPart G Q := fun σ F H A k z => z _ F H (Same.refl _) A q
theorem wpo_some {Q : Option Int → Prop} (h : wp w te G fun x => ∃ i, x = .int i ∧ Q (some i)) : wpo w (tPart te) G Q := fun σ F H A k z =>
  h σ F H A _ fun v x F1 H1 s1 A1 r1 q => by
    obtain ⟨i, rfl, q⟩ := q
    cases r1
    exact ⟨i, rfl, z _ F1 H1 s1 A1 q⟩
theorem wp_sl {r : V → Option Int → Option Int → Hp → VK → Prop} {tl th : TO} (h : wp w te G fun x => wpo w tl G fun lo => wpo w th G fun hi => RSD w.K r x lo hi Q) : wp w (tSl r te tl th) G Q := fun σ F H A k z =>
  h σ F H A _ fun v x F1 H1 s1 A1 r1 h1 => h1 σ F1 H1 A1 _ fun lo F2 H2 s2 A2 h2 => h2 σ F2 H2 A2 _ fun hi F3 H3 s3 A3 q =>
    q F3 H3 v A3.fh (r1.mono (s2.trans s3)) _ fun z0 d H4 s4 r4 qd => z _ _ _ H4 (((s1.trans s2).trans s3).trans A3.same) (A3.step s4) r4 qd
theorem wpl_sl {Q : List D → Prop} {r : V → Option Int → Option Int → Hp → VK → Prop} {tl th : TO} (h : wp w te G fun x => wpo w tl G fun lo => wpo w th G fun hi => RSL w.K r x lo hi Q) : wpl w (tSl r te tl th) G Q := fun σ F H A k z =>
  h σ F H A _ fun v x F1 H1 s1 A1 r1 h1 => h1 σ F1 H1 A1 _ fun lo F2 H2 s2 A2 h2 => h2 σ F2 H2 A2 _ fun hi F3 H3 s3 A3 q =>
    q F3 H3 v A3.fh (r1.mono (s2.trans s3)) _ fun a vs2 ds2 H4 s4 n r4 qd => z _ _ _ _ _ (((s1.trans s2).trans s3).trans A3.same) ((A3.step s4).pend n) ((A3.step s4).fresh n) r4 qd

/-! ### tests -/
theorem wpt_test {Q : Bool → Prop} (h : wp w te G fun x => ∃ b, x = .bl b ∧ Q b) : wpt w (tTest te) G Q := fun σ F H A k z =>
  h σ F H A _ fun v x F1 H1 s1 A1 r1 q => by
    obtain ⟨b, rfl, q⟩ := q
    cases r1
    exact ⟨b, rfl, z _ F1 H1 s1 A1 q⟩
theorem wpt_B {Q : Bool → Prop} (h : wp w te G fun x => ∃ b, x = .bl b ∧ Q b) : wpt w (tB te) G Q := fun σ F H A k z =>
  h σ F H A _ fun v x F1 H1 s1 A1 r1 q => by
    obtain ⟨b, rfl, q⟩ := q
    cases r1
    exact ⟨b, rfl, z _ F1 H1 s1 A1 q⟩
theorem wpt_and {Q : Bool → Prop} (h : wpt w tt G fun a => if a = true then wpt w tu G Q else Q false) : wpt w (tAnd tt tu) G Q := fun σ F H A k z =>
  h σ F H A _ fun a F1 H1 s1 A1 q => by
    cases a with
    | true => exact iteT (q σ F1 H1 A1 _ fun b F2 H2 s2 A2 q2 => z b F2 H2 (s1.trans s2) A2 q2)
    | false => exact iteF (z _ F1 H1 s1 A1 q)
theorem wpt_or {Q : Bool → Prop} (h : wpt w tt G fun a => if a = true then Q true else wpt w tu G Q) : wpt w (tOr tt tu) G Q := fun σ F H A k z =>
  h σ F H A _ fun a F1 H1 s1 A1 q => by
    cases a with
    | true => exact iteT (z _ F1 H1 s1 A1 q)
    | false => exact iteF (q σ F1 H1 A1 _ fun b F2 H2 s2 A2 q2 => z b F2 H2 (s1.trans s2) A2 q2)
theorem wpt_not {Q : Bool → Prop} (h : wpt w tt G fun a => Q (!a)) : wpt w (tNot tt) G Q := fun σ F H A k z =>
  h σ F H A _ fun a F1 H1 s1 A1 q => z _ F1 H1 s1 A1 q
theorem wp_if (h : wpt w tt G fun b => if b = true then wp w ta G Q else wp w tb G Q) : wp w (tIf tt ta tb) G Q := fun σ F H A k z =>
  h σ F H A _ fun a F1 H1 s1 A1 q => by
    cases a with
    | true => exact iteT (q σ F1 H1 A1 _ fun v b F2 H2 s2 A2 q2 => z v b F2 H2 (s1.trans s2) A2 q2)
    | false => exact iteF (q σ F1 H1 A1 _ fun v b F2 H2 s2 A2 q2 => z v b F2 H2 (s1.trans s2) A2 q2)
theorem wpl_if {Q : List D → Prop} (h : wpt w tt G fun b => if b = true then wpl w ta G Q else wpl w tb G Q) : wpl w (tIf tt ta tb) G Q := fun σ F H A k z =>
  h σ F H A _ fun a F1 H1 s1 A1 q => by
    cases a with
    | true => exact iteT (q σ F1 H1 A1 _ fun a v b F2 H2 s2 A2 q2 => z a v b F2 H2 (s1.trans s2) A2 q2)
    | false => exact iteF (q σ F1 H1 A1 _ fun a v b F2 H2 s2 A2 q2 => z a v b F2 H2 (s1.trans s2) A2 q2)
theorem wp_andV (h : wp w ta G fun x => ∃ b, x = .bl b ∧ if b = true then wp w tb G Q else Q (.bl false)) : wp w (tAndV ta tb) G Q := fun σ F H A k z =>
  h σ F H A _ fun v x F1 H1 s1 A1 r1 q => by
    obtain ⟨b, rfl, q⟩ := q
    cases r1
    refine ⟨b, rfl, ?_⟩
    cases b with
    | true => exact iteT (q σ F1 H1 A1 _ fun v b F2 H2 s2 A2 q2 => z v b F2 H2 (s1.trans s2) A2 q2)
    | false => exact iteF (z _ _ F1 H1 s1 A1 (.bl false) q)
theorem wp_orV (h : wp w ta G fun x => ∃ b, x = .bl b ∧ if b = true then Q (.bl true) else wp w tb G Q) : wp w (tOrV ta tb) G Q := fun σ F H A k z =>
  h σ F H A _ fun v x F1 H1 s1 A1 r1 q => by
    obtain ⟨b, rfl, q⟩ := q
    cases r1
    refine ⟨b, rfl, ?_⟩
    cases b with
    | true => exact iteT (z _ _ F1 H1 s1 A1 (.bl true) q)
    | false => exact iteF (q σ F1 H1 A1 _ fun v b F2 H2 s2 A2 q2 => z v b F2 H2 (s1.trans s2) A2 q2)
theorem wp_notV (h : wp w ta G fun x => ∃ b, x = .bl b ∧ Q (.bl (!b))) : wp w (tNotV ta) G Q := fun σ F H A k z =>
  h σ F H A _ fun v x F1 H1 s1 A1 r1 q => by
    obtain ⟨b, rfl, q⟩ := q
    cases r1
    exact ⟨b, rfl, z _ _ F1 H1 s1 A1 (.bl _) q⟩
/-- truth of data -/
def truD : D → Option Bool
  | .non => some false
  | .bl b => some b
  | .int i => some (i != 0)
  | .str x => if x.length ≤ 1000000 then some (x.length != 0) else none
  | .tup xs => some (!xs.isEmpty)
  | .lst xs => some (!xs.isEmpty)
  | .obj .. => none
  | .dic => some false
end
end Sd
set_option Elab.async false
set_option linter.all false
set_option maxRecDepth 100000
set_option maxHeartbeats 4000000
/-! Sd2: operations, built-ins and methods by data. -/
namespace Sd
open PySem PySem.Spec L2
open PyProof.Rows (sortedS)

section
variable {K : PySem.W.Frag} {Q : D → Prop}
theorem ext0 {F H : Hp} {z : V} {d : D} (s : Same F H) (r : Rp K F z d) : Rp K (ext F H H) z d := by rw [ext_self s]; exact r
theorem ext0L {F H : Hp} {z : List V} {d : List D} (s : Same F H) (r : RpL K F z d) : RpL K (ext F H H) z d := by rw [ext_self s]; exact r
/-! ### ints -/
theorem r2_ii {g : Int → Int → Int} {i j : Int} (q : Q (.int (g i j))) : R2D K (rI0 fun i j => .int (g i j)) (.int i) (.int j) Q := fun F H v u s r1 r2 k z => by
  cases r1; cases r2
  exact ⟨i, j, rfl, rfl, z _ _ H (Same.refl _) (.int _) q⟩
theorem r2_ib {g : Int → Int → Bool} {i j : Int} (q : Q (.bl (g i j))) : R2D K (rI0 fun i j => .bl (g i j)) (.int i) (.int j) Q := fun F H v u s r1 r2 k z => by
  cases r1; cases r2
  exact ⟨i, j, rfl, rfl, z _ _ H (Same.refl _) (.bl _) q⟩
theorem r2_ic {C : Int → Int → Prop} {g : Int → Int → Int} {i j : Int} (c : C i j) (q : Q (.int (g i j))) : R2D K (rI C fun i j => .int (g i j)) (.int i) (.int j) Q := fun F H v u s r1 r2 k z => by
  cases r1; cases r2
  exact ⟨i, j, rfl, rfl, c, z _ _ H (Same.refl _) (.int _) q⟩
theorem ru_ii {g : Int → Int} {i : Int} (q : Q (.int (g i))) : RCD K (fun vs H k => ∃ v, vs = [v] ∧ rU (fun i => .int (g i)) v H k) [.int i] Q := fun F H vs s r k z => by
  cases r with
  | cons r rr =>
    cases rr
    cases r
    exact ⟨_, rfl, i, rfl, z _ _ H (Same.refl _) (.int _) q⟩

/-! ### == and != of flat data -/
theorem r2_eqI {i j : Int} (q : Q (.bl (decide (i = j)))) : R2D K rEq (.int i) (.int j) Q := fun F H v u s r1 r2 k z => by
  cases r1; cases r2
  have e : decide (V.int i = V.int j) = decide (i = j) := by rw [dec_int, Bool.beq_eq_decide_eq]
  exact ⟨rfl, by rw [e]; exact z _ _ H (Same.refl _) (.bl _) q⟩
theorem r2_neI {i j : Int} (q : Q (.bl (!decide (i = j)))) : R2D K rNe (.int i) (.int j) Q := fun F H v u s r1 r2 k z => by
  cases r1; cases r2
  have e : decide (V.int i = V.int j) = decide (i = j) := by rw [dec_int, Bool.beq_eq_decide_eq]
  exact ⟨rfl, by rw [e]; exact z _ _ H (Same.refl _) (.bl _) q⟩
theorem r2_eqS {i j : Str} (q : Q (.bl (decide (i = j)))) : R2D K rEq (.str i) (.str j) Q := fun F H v u s r1 r2 k z => by
  cases r1; cases r2
  have e : decide (V.str i = V.str j) = decide (i = j) := by rw [dec_str, Bool.beq_eq_decide_eq]
  exact ⟨rfl, by rw [e]; exact z _ _ H (Same.refl _) (.bl _) q⟩
theorem r2_neS {i j : Str} (q : Q (.bl (!decide (i = j)))) : R2D K rNe (.str i) (.str j) Q := fun F H v u s r1 r2 k z => by
  cases r1; cases r2
  have e : decide (V.str i = V.str j) = decide (i = j) := by rw [dec_str, Bool.beq_eq_decide_eq]
  exact ⟨rfl, by rw [e]; exact z _ _ H (Same.refl _) (.bl _) q⟩
theorem r2_eqB {i j : Bool} (q : Q (.bl (decide (i = j)))) : R2D K rEq (.bl i) (.bl j) Q := fun F H v u s r1 r2 k z => by
  cases r1; cases r2
  have e : decide (V.bl i = V.bl j) = decide (i = j) := by rw [dec_bl, Bool.beq_eq_decide_eq]
  exact ⟨rfl, by rw [e]; exact z _ _ H (Same.refl _) (.bl _) q⟩
theorem r2_neB {i j : Bool} (q : Q (.bl (!decide (i = j)))) : R2D K rNe (.bl i) (.bl j) Q := fun F H v u s r1 r2 k z => by
  cases r1; cases r2
  have e : decide (V.bl i = V.bl j) = decide (i = j) := by rw [dec_bl, Bool.beq_eq_decide_eq]
  exact ⟨rfl, by rw [e]; exact z _ _ H (Same.refl _) (.bl _) q⟩
/-- None? -/
def isN : D → Bool
  | .non => true
  | _ => false
theorem isN_of {F : Hp} {v : V} {d : D} (r : Rp K F v d) : decide (v = .non) = isN d := by
  cases r <;> rfl
theorem r2_isN {x : D} (q : Q (.bl (isN x))) : R2D K (fun x y H Q => y = .non ∧ Q (.bl (decide (x = .non))) H) x .non Q := fun F H v u s r1 r2 k z => by
  cases r2
  exact ⟨rfl, by rw [isN_of r1]; exact z _ _ H (Same.refl _) (.bl _) q⟩
theorem r2_notN {x : D} (q : Q (.bl (!isN x))) : R2D K (fun x y H Q => y = .non ∧ Q (.bl (!decide (x = .non))) H) x .non Q := fun F H v u s r1 r2 k z => by
  cases r2
  exact ⟨rfl, by rw [isN_of r1]; exact z _ _ H (Same.refl _) (.bl _) q⟩

/-! ### data as the library has it -/
mutual
def toPy : D → PyData
  | .non => .none
  | .bl b => .bool b
  | .int i => .int i
  | .str s => .str s
  | .tup xs => .tuple (toPyL xs)
  | .lst xs => .list (toPyL xs)
  | .obj .. => .none
  | .dic => .none
def toPyL : List D → List PyData
  | [] => []
  | x :: xs => toPy x :: toPyL xs
end
mutual
/-- no objects within -/
def pl : D → Bool
  | .tup xs => plL xs
  | .lst xs => plL xs
  | .obj .. => false
  | .dic => false
  | _ => true
def plL : List D → Bool
  | [] => true
  | x :: xs => pl x && plL xs
end
theorem toPyL_map : ∀ xs : List D, toPyL xs = xs.map toPy
  | [] => rfl
  | x :: xs => by rw [toPyL, toPyL_map xs]; rfl
theorem plL_all : ∀ xs : List D, plL xs = xs.all pl
  | [] => rfl
  | x :: xs => by rw [plL, plL_all xs]; rfl
mutual
theorem rp_dp {F : Hp} : ∀ (d : D) {v : V}, Rp K F v d → pl d = true → Dp K F v (toPy d)
  | .non, _, r, _ => by cases r; exact .non
  | .bl b, _, r, _ => by cases r; exact .bl b
  | .int i, _, r, _ => by cases r; exact .int i
  | .str x, _, r, _ => by cases r; exact .str x
  | .tup xs, _, r, h => by
    cases r with
    | tup e r =>
      have h' : plL xs = true := by simpa [pl] using h
      simp only [toPy]
      exact .tup (.inl (.inl e)) (rpl_dp xs r h')
  | .lst xs, _, r, h => by
    cases r with
    | lst e r =>
      have h' : plL xs = true := by simpa [pl] using h
      simp only [toPy]
      exact .lst (.inl (.inl e)) (rpl_dp xs r h')
  | .obj .., _, _, h => by simp [pl] at h
theorem rpl_dp {F : Hp} : ∀ (d : List D) {v : List V}, RpL K F v d → plL d = true → DpAll K F v (toPyL d)
  | [], _, r, _ => by cases r; simp only [toPyL]; exact .nil
  | x :: xs, _, r, h => by
    cases r with
    | cons r t =>
      have h' : pl x = true ∧ plL xs = true := by simpa [plL] using h
      simp only [toPyL]
      exact .cons (rp_dp x r h'.1) (rpl_dp xs t h'.2)
end
/-- data that may be compared -/
def cmpOk (d : D) : Bool := pl d && SeqAt.shaped (toPy d)
def eqvD (x y : D) : Bool := PyData.eqv (toPy x) (toPy y)
theorem r2_eqD {x y : D} (h1 : cmpOk x = true) (h2 : cmpOk y = true) (q : Q (.bl (eqvD x y))) : R2D K (rEqD K) x y Q := fun F H v u s r1 r2 k z => by
  have e1 := Bool.and_eq_true_iff.mp h1
  have e2 := Bool.and_eq_true_iff.mp h2
  exact ⟨_, _, rp_dp x (r1.mono s) e1.1, rp_dp y (r2.mono s) e2.1, e1.2, e2.2, z _ _ H (Same.refl _) (.bl _) q⟩
theorem r2_neD {x y : D} (h1 : cmpOk x = true) (h2 : cmpOk y = true) (q : Q (.bl (!eqvD x y))) : R2D K (rNeD K) x y Q := fun F H v u s r1 r2 k z => by
  have e1 := Bool.and_eq_true_iff.mp h1
  have e2 := Bool.and_eq_true_iff.mp h2
  exact ⟨_, _, rp_dp x (r1.mono s) e1.1, rp_dp y (r2.mono s) e2.1, e1.2, e2.2, z _ _ H (Same.refl _) (.bl _) q⟩

/-! ### texts -/
theorem r2_lts {i j : Str} (q : Q (.bl (decide (i.cps.toList < j.cps.toList)))) : R2D K (fun x y H Q => ∃ i j, x = .str i ∧ y = .str j ∧ Q (.bl (decide (i.cps.toList < j.cps.toList))) H) (.str i) (.str j) Q := fun F H v u s r1 r2 k z => by
  cases r1; cases r2
  exact ⟨i, j, rfl, rfl, z _ _ H (Same.refl _) (.bl _) q⟩
theorem r2_addS {i j : Str} (hl : i.length + j.length ≤ 1000000) (q : Q (.str (i ++ j))) : R2D K (fun x y H Q => ∃ i j, x = .str i ∧ y = .str j ∧ i.length + j.length ≤ sizeLine ∧ Q (.str (i ++ j)) H) (.str i) (.str j) Q := fun F H v u s r1 r2 k z => by
  cases r1; cases r2
  exact ⟨i, j, rfl, rfl, line_ok hl, z _ _ H (Same.refl _) (.str _) q⟩
theorem r2_inS {c : Nat} {x : Str} (q : Q (.bl (decide (c ∈ x.cps.toList)))) : R2D K (fun x y H Q => ∃ (c : Nat) (z : Str), x = .str ⟨#[c]⟩ ∧ y = .str z ∧ Q (.bl (decide (c ∈ z.cps.toList))) H) (.str ⟨#[c]⟩) (.str x) Q := fun F H v u s r1 r2 k z => by
  cases r1; cases r2
  exact ⟨c, x, rfl, rfl, z _ _ H (Same.refl _) (.bl _) q⟩
theorem r2_ninS {c : Nat} {x : Str} (q : Q (.bl (!decide (c ∈ x.cps.toList)))) : R2D K (fun x y H Q => ∃ (c : Nat) (z : Str), x = .str ⟨#[c]⟩ ∧ y = .str z ∧ Q (.bl (!decide (c ∈ z.cps.toList))) H) (.str ⟨#[c]⟩) (.str x) Q := fun F H v u s r1 r2 k z => by
  cases r1; cases r2
  exact ⟨c, x, rfl, rfl, z _ _ H (Same.refl _) (.bl _) q⟩

/-! ### lists and tuples -/
theorem r2_cat {xs ys : List D} {Q : List D → Prop} (hl : xs.length + ys.length ≤ 1000000) (q : Q (xs ++ ys)) : R2L K rCat (.lst xs) (.lst ys) Q := fun F H v u s r1 r2 k z => by
  cases r1 with
  | lst e1 r1 =>
    cases r2 with
    | lst e2 r2 =>
      exact ⟨_, _, _, _, rfl, rfl, s _ _ e1, s _ _ e2, line_ok (by rw [r1.length, r2.length]; exact hl), fun p hp => z p _ _ H (Same.refl _) hp (ext0L s (r1.append r2)) q⟩
theorem r2_catT {xs ys : List D} (hl : xs.length + ys.length ≤ 1000000) (q : Q (.tup (xs ++ ys))) : R2D K (rCatA K) (.tup xs) (.tup ys) Q := fun F H v u s r1 r2 k z => by
  cases r1 with
  | tup e1 r1 =>
    cases r2 with
    | tup e2 r2 =>
      rename_i a1 vs1 a2 vs2
      refine ⟨_, _, _, _, rfl, rfl, .inl (.inl (s _ _ e1)), .inl (.inl (s _ _ e2)), line_ok (by rw [r1.length, r2.length]; exact hl), fun h => ?_, fun h1 h => ?_, fun h1 h2 p hp => ?_⟩
      · subst h
        cases r1
        exact z _ _ H (Same.refl _) (ext0 s (.tup e2 r2)) q
      · subst h
        cases r2
        rw [List.append_nil] at q
        exact z _ _ H (Same.refl _) (ext0 s (.tup e1 r1)) q
      · have hf := s.free hp
        refine z _ _ _ (fun b o e => by rw [upd_ne (ne_of_none e hp)]; exact e) ?_ q
        rw [ext_upd hp hf s]
        exact .tup upd_same ((r1.append r2).mono (same_new hf))
theorem RpL.atI {F : Hp} {vs : List V} {ds : List D} {i : Int} {d : D} (r : RpL K F vs ds) (h : atI ds i = some d) : ∃ v, L2.atI vs i = some v ∧ Rp K F v d := by
  unfold L2.atI at h ⊢
  rw [r.length]
  cases e : ixN ds.length i with
  | none => rw [e] at h; cases h
  | some j =>
    rw [e] at h
    exact r.getD h
theorem r2_ixT {xs : List D} {i : Int} {d : D} (h : atI xs i = some d) (q : Q d) : R2D K (rIxT K) (.tup xs) (.int i) Q := fun F H v u s r1 r2 k z => by
  cases r1 with
  | tup e1 r1 =>
    cases r2
    obtain ⟨v, hv, rv⟩ := r1.atI h
    exact ⟨_, _, i, v, rfl, rfl, .inl (.inl (s _ _ e1)), hv, z _ _ H (Same.refl _) (ext0 s rv) q⟩
theorem r2_ixL {xs : List D} {i : Int} {d : D} (h : atI xs i = some d) (q : Q d) : R2D K (rIxL K) (.lst xs) (.int i) Q := fun F H v u s r1 r2 k z => by
  cases r1 with
  | lst e1 r1 =>
    cases r2
    obtain ⟨v, hv, rv⟩ := r1.atI h
    exact ⟨_, _, i, v, rfl, rfl, .inl (.inl (s _ _ e1)), hv, z _ _ H (Same.refl _) (ext0 s rv) q⟩
theorem r2_ixS {x : Str} {i : Int} {c : Nat} (hl : x.length ≤ 1000000) (h : atI x.cps.toList i = some c) (q : Q (.str ⟨#[c]⟩)) : R2D K rIxS (.str x) (.int i) Q := fun F H v u s r1 r2 k z => by
  cases r1
  cases r2
  exact ⟨x, i, c, rfl, rfl, line_ok hl, h, z _ _ H (Same.refl _) (.str _) q⟩
/-- in, over flat items -/
def flatD : D → Bool
  | .non => true
  | .bl _ => true
  | .int _ => true
  | .str _ => true
  | _ => false
def eqF : D → D → Bool
  | .non, .non => true
  | .bl a, .bl b => a == b
  | .bl a, .int b => (if a then 1 else 0) == b
  | .int a, .bl b => a == (if b then 1 else 0)
  | .int a, .int b => a == b
  | .str a, .str b => a == b
  | _, _ => false
def inD (x : D) (xs : List D) : Bool := xs.any fun y => eqF y x
theorem flat_of {F : Hp} {v : V} {d : D} (r : Rp K F v d) (h : flatD d = true) : flatV v = true := by
  cases r <;> first | rfl | cases h
theorem eqF_of {F : Hp} {v u : V} {d e : D} (r : Rp K F v d) (t : Rp K F u e) (h1 : flatD d = true) (h2 : flatD e = true) : eqV v u = eqF d e := by
  cases r <;> first | (exact Bool.noConfusion h1) | (cases t <;> first | (exact Bool.noConfusion h2) | rfl)
theorem all_flat {F : Hp} : ∀ {vs : List V} {ds : List D}, RpL K F vs ds → ds.all flatD = true → vs.all flatV = true
  | _, _, .nil, _ => rfl
  | _, _, .cons r t, h => by
    rw [List.all_cons, Bool.and_eq_true] at h ⊢
    exact ⟨flat_of r h.1, all_flat t h.2⟩
theorem any_eqF {F : Hp} {u : V} {e : D} (t : Rp K F u e) (h2 : flatD e = true) : ∀ {vs : List V} {ds : List D}, RpL K F vs ds → ds.all flatD = true → inV u vs = inD e ds
  | _, _, .nil, _ => rfl
  | _, _, .cons r rr, h => by
    rw [List.all_cons, Bool.and_eq_true] at h
    unfold inV inD at *
    rw [List.any_cons, List.any_cons, eqF_of r t h.1 h2]
    have := any_eqF t h2 rr h.2
    unfold inV inD at this
    rw [this]
theorem r2_inT {x : D} {xs : List D} {neg : Bool} (h1 : flatD x = true) (h2 : xs.all flatD = true) (q : Q (.bl (if neg then !inD x xs else inD x xs))) : R2D K (rIn K neg) x (.tup xs) Q := fun F H v u s r1 r2 k z => by
  cases r2 with
  | tup e2 r2 =>
    refine ⟨_, _, rfl, .inr (.inl (.inl (s _ _ e2))), flat_of r1 h1, all_flat r2 h2, ?_⟩
    rw [any_eqF r1 h1 r2 h2]
    exact z _ _ H (Same.refl _) (.bl _) q
theorem r2_inL {x : D} {xs : List D} {neg : Bool} (h1 : flatD x = true) (h2 : xs.all flatD = true) (q : Q (.bl (if neg then !inD x xs else inD x xs))) : R2D K (rIn K neg) x (.lst xs) Q := fun F H v u s r1 r2 k z => by
  cases r2 with
  | lst e2 r2 =>
    refine ⟨_, _, rfl, .inl (.inl (.inl (s _ _ e2))), flat_of r1 h1, all_flat r2 h2, ?_⟩
    rw [any_eqF r1 h1 r2 h2]
    exact z _ _ H (Same.refl _) (.bl _) q
theorem inD_strs {x : Str} : ∀ {xs : List Str}, inD (.str x) (xs.map .str) = decide (x ∈ xs)
  | [] => by rw [decide_eq_false (by simp)]; rfl
  | y :: ys => by
    have ih := inD_strs (x := x) (xs := ys)
    unfold inD at ih ⊢
    rw [List.map_cons, List.any_cons, ih]
    show (y == x || _) = _
    by_cases e : x = y
    · subst e
      rw [decide_eq_true (p := x ∈ x :: ys) (by simp)]
      simp
    · have : (y == x) = false := beq_eq_false_iff_ne.mpr (Ne.symm e)
      rw [this, Bool.false_or]
      congr 1
      simp [e]
theorem flat_strs (xs : List Str) : (xs.map D.str).all flatD = true := by
  rw [List.all_eq_true]
  intro x hx
  obtain ⟨s, _, rfl⟩ := List.mem_map.mp hx
  rfl

/-! ### built-ins -/
theorem rc_lenS {r : List V → Hp → VK → Prop} {xs : List D} (hr : r = fun xs H Q => ∃ p ys, xs = [.ref p] ∧ (SqL K H p ys ∨ SqT K H p ys) ∧ Q (.int ys.length) H) (q : Q (.int xs.length)) : RCD K r [.lst xs] Q := fun F H vs s r1 k z => by
  subst hr
  cases r1 with
  | cons r1 rr =>
    cases rr
    cases r1 with
    | lst e r =>
      refine ⟨_, _, rfl, .inl (.inl (.inl (s _ _ e))), ?_⟩
      rw [r.length]
      exact z _ _ H (Same.refl _) (.int _) q
theorem rc_lenT {r : List V → Hp → VK → Prop} {xs : List D} (hr : r = fun xs H Q => ∃ p ys, xs = [.ref p] ∧ (SqL K H p ys ∨ SqT K H p ys) ∧ Q (.int ys.length) H) (q : Q (.int xs.length)) : RCD K r [.tup xs] Q := fun F H vs s r1 k z => by
  subst hr
  cases r1 with
  | cons r1 rr =>
    cases rr
    cases r1 with
    | tup e r =>
      refine ⟨_, _, rfl, .inr (.inl (.inl (s _ _ e))), ?_⟩
      rw [r.length]
      exact z _ _ H (Same.refl _) (.int _) q
/-- len of anything that has one -/
def lenD : D → Option Nat
  | .str x => if x.length ≤ 1000000 then some x.length else none
  | .tup xs => some xs.length
  | .lst xs => some xs.length
  | _ => none
theorem rc_len {d : D} {n : Nat} (h : lenD d = some n) (q : Q (.int n)) : RCD K (fun xs H Q => ∃ x n, xs = [x] ∧ LenV K x H n ∧ Q (.int n) H) [d] Q := fun F H vs s r1 k z => by
  cases r1 with
  | cons r1 rr =>
    cases rr
    cases r1 with
    | tup e r =>
      cases h
      exact ⟨_, _, rfl, .inr ⟨_, .inl (.inl (s _ _ e)), r.length.symm⟩, z _ _ H (Same.refl _) (.int _) q⟩
    | lst e r =>
      cases h
      exact ⟨_, _, rfl, .inl ⟨_, .inl (.inl (s _ _ e)), r.length.symm⟩, z _ _ H (Same.refl _) (.int _) q⟩
    | str x =>
      change (if x.length ≤ 1000000 then some x.length else none) = some n at h
      split at h
      · cases h
        rename_i hx
        exact ⟨_, _, rfl, ⟨line_ok hx, rfl⟩, z _ _ H (Same.refl _) (.int _) q⟩
      · cases h
    | _ => cases h
theorem rc_all {bs : List Bool} (q : Q (.bl (bs.all id))) : RCD K (rAll K) [.lst (bs.map .bl)] Q := fun F H vs s r1 k z => by
  cases r1 with
  | cons r1 rr =>
    cases rr
    cases r1 with
    | lst e r =>
      have e2 := r.of_bls
      subst e2
      exact ⟨_, bs, rfl, .inl (.inl (s _ _ e)), z _ _ H (Same.refl _) (.bl _) q⟩
theorem rc_any {bs : List Bool} (q : Q (.bl (bs.any id))) : RCD K (rAny K) [.lst (bs.map .bl)] Q := fun F H vs s r1 k z => by
  cases r1 with
  | cons r1 rr =>
    cases rr
    cases r1 with
    | lst e r =>
      have e2 := r.of_bls
      subst e2
      exact ⟨_, bs, rfl, .inl (.inl (s _ _ e)), z _ _ H (Same.refl _) (.bl _) q⟩
theorem rc_sum {ns : List Int} (q : Q (.int ns.sum)) : RCD K (rSum K) [.lst (ns.map .int)] Q := fun F H vs s r1 k z => by
  cases r1 with
  | cons r1 rr =>
    cases rr
    cases r1 with
    | lst e r =>
      have e2 := r.of_ints
      subst e2
      exact ⟨_, ns, rfl, .inl (.inl (s _ _ e)), z _ _ H (Same.refl _) (.int _) q⟩
theorem rc_abs {i : Int} (q : Q (.int (if i < 0 then -i else i))) : RCD K (fun xs H Q => ∃ i, xs = [.int i] ∧ Q (.int (if i < 0 then -i else i)) H) [.int i] Q := fun F H vs s r1 k z => by
  cases r1 with
  | cons r1 rr =>
    cases rr
    cases r1
    exact ⟨i, rfl, z _ _ H (Same.refl _) (.int _) q⟩
theorem rc_int {i : Int} (q : Q (.int i)) : RCD K (fun xs H Q => (∃ i, xs = [.int i] ∧ Q (.int i) H) ∨ ∃ k, xs = [.bl k] ∧ Q (.int (if k then 1 else 0)) H) [.int i] Q := fun F H vs s r1 k z => by
  cases r1 with
  | cons r1 rr =>
    cases rr
    cases r1
    exact .inl ⟨i, rfl, z _ _ H (Same.refl _) (.int _) q⟩
theorem rc_intB {b : Bool} (q : Q (.int (if b then 1 else 0))) : RCD K (fun xs H Q => (∃ i, xs = [.int i] ∧ Q (.int i) H) ∨ ∃ k, xs = [.bl k] ∧ Q (.int (if k then 1 else 0)) H) [.bl b] Q := fun F H vs s r1 k z => by
  cases r1 with
  | cons r1 rr =>
    cases rr
    cases r1
    exact .inr ⟨b, rfl, z _ _ H (Same.refl _) (.int _) q⟩
theorem rc_intS {x : Str} {n : Int} (h : PySem.intText? x = some n) (hl : x.length ≤ 640) (q : Q (.int n)) : RCD K (fun xs H Q => ∃ a n, xs = [.str a] ∧ PySem.intText? a = some n ∧ a.length ≤ 640 ∧ Q (.int n) H) [.str x] Q := fun F H vs s r1 k z => by
  cases r1 with
  | cons r1 rr =>
    cases rr
    cases r1
    exact ⟨x, n, rfl, h, hl, z _ _ H (Same.refl _) (.int _) q⟩
theorem rc_strI {i : Int} (h : i.natAbs.log2 < 1920) (q : Q (.str (toString i))) : RCD K (fun xs H Q => ∃ i, xs = [.int i] ∧ i.natAbs.log2 < 1920 ∧ Q (.str (toString i)) H) [.int i] Q := fun F H vs s r1 k z => by
  cases r1 with
  | cons r1 rr =>
    cases rr
    cases r1
    exact ⟨i, rfl, h, z _ _ H (Same.refl _) (.str _) q⟩
theorem rc_min2 {i j : Int} (q : Q (.int (if j < i then j else i))) : RCD K (fun xs H Q => ∃ i j, xs = [.int i, .int j] ∧ Q (.int (if j < i then j else i)) H) [.int i, .int j] Q := fun F H vs s r1 k z => by
  cases r1 with
  | cons r1 rr =>
    cases rr with
    | cons r2 rr =>
      cases rr
      cases r1
      cases r2
      exact ⟨i, j, rfl, z _ _ H (Same.refl _) (.int _) q⟩
theorem rc_max2 {i j : Int} (q : Q (.int (if j > i then j else i))) : RCD K (fun xs H Q => ∃ i j, xs = [.int i, .int j] ∧ Q (.int (if j > i then j else i)) H) [.int i, .int j] Q := fun F H vs s r1 k z => by
  cases r1 with
  | cons r1 rr =>
    cases rr with
    | cons r2 rr =>
      cases rr
      cases r1
      cases r2
      exact ⟨i, j, rfl, z _ _ H (Same.refl _) (.int _) q⟩
theorem rc_tupL {xs : List D} (q : Q (.tup xs)) : RCD K (fun xs H Q => ∃ p ys, xs = [.ref p] ∧ ((SqL K H p ys ∧ ∀ l, H l = none → Q (.ref l) (upd H l (.tup ys))) ∨ (SqT K H p ys ∧ Q (.ref p) H))) [.lst xs] Q := fun F H vs s r1 k z => by
  cases r1 with
  | cons r1 rr =>
    cases rr
    cases r1 with
    | lst e r =>
      refine ⟨_, _, rfl, .inl ⟨.inl (.inl (s _ _ e)), fun p hp => ?_⟩⟩
      have hf := s.free hp
      refine z _ _ _ (fun b o e => by rw [upd_ne (ne_of_none e hp)]; exact e) ?_ q
      rw [ext_upd hp hf s]
      exact .tup upd_same (r.mono (same_new hf))
theorem rc_tupT {xs : List D} (q : Q (.tup xs)) : RCD K (fun xs H Q => ∃ p ys, xs = [.ref p] ∧ ((SqL K H p ys ∧ ∀ l, H l = none → Q (.ref l) (upd H l (.tup ys))) ∨ (SqT K H p ys ∧ Q (.ref p) H))) [.tup xs] Q := fun F H vs s r1 k z => by
  cases r1 with
  | cons r1 rr =>
    cases rr
    cases r1 with
    | tup e r => exact ⟨_, _, rfl, .inr ⟨.inl (.inl (s _ _ e)), z _ _ H (Same.refl _) (ext0 s (.tup e r)) q⟩⟩
/-- the items of a list or a tuple -/
def itemsD : D → Option (List D)
  | .tup xs => some xs
  | .lst xs => some xs
  | _ => none
theorem rc_list {d : D} {xs : List D} {Q : List D → Prop} (h : itemsD d = some xs) (q : Q xs) : RCL K (fun xs H Q => ∃ p ys, xs = [.ref p] ∧ (SqL K H p ys ∨ SqT K H p ys) ∧ ∀ l, H l = none → Q (.ref l) (upd H l (.lst ys))) [d] Q := fun F H vs s r1 k z => by
  cases r1 with
  | cons r1 rr =>
    cases rr
    cases r1 with
    | tup e r =>
      cases h
      exact ⟨_, _, rfl, .inr (.inl (.inl (s _ _ e))), fun l hl => z l _ _ H (Same.refl _) hl (ext0L s r) q⟩
    | lst e r =>
      cases h
      exact ⟨_, _, rfl, .inl (.inl (.inl (s _ _ e))), fun l hl => z l _ _ H (Same.refl _) hl (ext0L s r) q⟩
    | _ => cases h
theorem rc_sortS {xs : List Str} {Q : List D → Prop} (hl : xs.length < 64) (q : ∀ ys : List Str, ys.Perm xs → sortedS ys = true → Q (ys.map .str)) : RCL K (rSortedS K) [.lst (xs.map .str)] Q := fun F H vs s r1 k z => by
  cases r1 with
  | cons r1 rr =>
    cases rr
    cases r1 with
    | lst e r =>
      have e2 := r.of_strs
      subst e2
      exact ⟨_, xs, rfl, .inl (.inl (s _ _ e)), hl, fun ys p hp hs hn => z p _ _ H (Same.refl _) hn RpL.strs (q ys hp hs)⟩

/-! ### methods of texts -/
theorem rm_join {x : Str} {ys : List Str} (hl : (ys.map (·.length)).sum + ys.length * x.length ≤ 16777216) (q : Q (.str (Txt.join x ys))) :
    RMD K (fun x xs H Q => ∃ a p, ∃ ys : List Str, x = .str a ∧ xs = [.ref p] ∧ (SqL K H p (ys.map V.str) ∨ SqT K H p (ys.map V.str)) ∧ (ys.map (·.length)).sum + ys.length * a.length ≤ 16777216 ∧ Q (.str (Txt.join a ys)) H) (.str x) [.lst (ys.map .str)] Q := fun F H v vs s r0 r1 k z => by
  cases r0
  cases r1 with
  | cons r1 rr =>
    cases rr
    cases r1 with
    | lst e r =>
      have e2 := r.of_strs
      subst e2
      exact ⟨x, _, ys, rfl, rfl, .inl (.inl (.inl (s _ _ e))), hl, z _ _ H (Same.refl _) (.str _) q⟩
theorem rm_joinT {x : Str} {ys : List Str} (hl : (ys.map (·.length)).sum + ys.length * x.length ≤ 16777216) (q : Q (.str (Txt.join x ys))) :
    RMD K (fun x xs H Q => ∃ a p, ∃ ys : List Str, x = .str a ∧ xs = [.ref p] ∧ (SqL K H p (ys.map V.str) ∨ SqT K H p (ys.map V.str)) ∧ (ys.map (·.length)).sum + ys.length * a.length ≤ 16777216 ∧ Q (.str (Txt.join a ys)) H) (.str x) [.tup (ys.map .str)] Q := fun F H v vs s r0 r1 k z => by
  cases r0
  cases r1 with
  | cons r1 rr =>
    cases rr
    cases r1 with
    | tup e r =>
      have e2 := r.of_strs
      subst e2
      exact ⟨x, _, ys, rfl, rfl, .inr (.inl (.inl (s _ _ e))), hl, z _ _ H (Same.refl _) (.str _) q⟩
theorem rm_split {x b : Str} {Q : List D → Prop} (hb : (b.length == 0) = false) (hl : x.length + 2 ≤ 1000000) (q : Q ((Txt.split x b).map .str)) :
    RML K (fun x xs H Q => ∃ a b, x = .str a ∧ xs = [.str b] ∧ (b.length == 0) = false ∧ a.length + 2 ≤ sizeLine ∧ rNewStrs (Txt.split a b) H Q) (.str x) [.str b] Q := fun F H v vs s r0 r1 k z => by
  cases r0
  cases r1 with
  | cons r1 rr =>
    cases rr
    cases r1
    exact ⟨x, b, rfl, rfl, hb, line_ok hl, fun p hp => z p _ _ H (Same.refl _) hp RpL.strs q⟩

/-! ### slices -/
def cutD (xs : List D) (lo hi : Option Int) : List D := (xs.drop (HT.sIx xs.length 0 lo)).take (HT.sIx xs.length xs.length hi - HT.sIx xs.length 0 lo)
theorem RpL.cut {F : Hp} {vs : List V} {ds : List D} (r : RpL K F vs ds) (lo hi : Option Int) : RpL K F (cutV vs lo hi) (cutD ds lo hi) := by
  unfold cutV cutD
  rw [r.length]
  exact (r.drop _).take _
theorem rs_str {x : Str} {lo hi : Option Int} (hl : x.length ≤ 1000000) (q : Q (.str (cutS x lo hi))) : RSD K rSlS (.str x) lo hi Q := fun F H v s r k z => by
  cases r
  exact ⟨x, rfl, line_ok hl, z _ _ H (Same.refl _) (.str _) q⟩
theorem rs_list {xs : List D} {lo hi : Option Int} {Q : List D → Prop} (q : Q (cutD xs lo hi)) : RSL K (rSlL K) (.lst xs) lo hi Q := fun F H v s r k z => by
  cases r with
  | lst e r => exact ⟨_, _, rfl, .inl (.inl (s _ _ e)), fun p hp => z p _ _ H (Same.refl _) hp (ext0L s (r.cut lo hi)) q⟩
theorem rs_tup {xs : List D} {lo hi : Option Int} (q : Q (.tup (cutD xs lo hi))) : RSD K (rSlA K) (.tup xs) lo hi Q := fun F H v s r k z => by
  cases r with
  | tup e r =>
    refine ⟨_, _, rfl, .inl (.inl (s _ _ e)), fun h => ?_, fun h p hp => ?_⟩
    · have e2 : cutD xs lo hi = xs := by
        rw [r.length] at h
        unfold cutD
        rw [h.1, h.2]
        simp
      rw [e2] at q
      exact z _ _ H (Same.refl _) (ext0 s (.tup e r)) q
    · have hf := s.free hp
      refine z _ _ _ (fun b o e => by rw [upd_ne (ne_of_none e hp)]; exact e) ?_ q
      rw [ext_upd hp hf s]
      exact .tup upd_same ((r.cut lo hi).mono (same_new hf))
end

section
variable {w : Wd} {G : List Ent} {Q : D → Prop} {te ta tb : TE}
/-! ### truth -/
theorem tru_of {K : PySem.W.Frag} {F H : Hp} {v : V} {d : D} {b : Bool} (s : Same F H) (r : Rp K F v d) (h : truD d = some b) : TruV K v H b := by
  cases r with
  | non => cases h; rfl
  | bl b => cases h; rfl
  | int i => cases h; rfl
  | str x =>
    change (if x.length ≤ 1000000 then some (x.length != 0) else none) = some b at h
    split at h
    · cases h
      rename_i hx
      refine ⟨line_ok hx, ?_⟩
      rw [Bool.eq_iff_iff]
      simp
    · cases h
  | tup e r =>
    cases h
    refine .inr (.inl ⟨_, .inl (.inl (s _ _ e)), ?_⟩)
    cases r <;> rfl
  | lst e r =>
    cases h
    refine .inl ⟨_, .inl (.inl (s _ _ e)), ?_⟩
    cases r <;> rfl
  | obj => cases h
  | dic e =>
    cases h
    exact .inr (.inr ⟨_, s _ _ e, rfl⟩)
theorem wpt_tru {Q : Bool → Prop} (h : wp w te G fun x => ∃ b, truD x = some b ∧ Q b) : wpt w (fun σ H Q => te σ H fun x H' => ∃ k, TruV w.K x H' k ∧ Q k H') G Q := fun σ F H A k z =>
  h σ F H A _ fun v x F1 H1 s1 A1 r1 q => by
    obtain ⟨b, e, q⟩ := q
    exact ⟨b, tru_of A1.fh r1 e, z _ F1 H1 s1 A1 q⟩
theorem wp_orT (h : wp w ta G fun x => ∃ b, truD x = some b ∧ if b = true then Q x else wp w tb G Q) : wp w (tOrT w.K ta tb) G Q := fun σ F H A k z =>
  h σ F H A _ fun v x F1 H1 s1 A1 r1 q => by
    obtain ⟨b, e, q⟩ := q
    refine ⟨b, tru_of A1.fh r1 e, ?_⟩
    cases b with
    | true => exact iteT (z _ _ F1 H1 s1 A1 r1 q)
    | false => exact iteF (q σ F1 H1 A1 _ fun v b F2 H2 s2 A2 q2 => z v b F2 H2 (s1.trans s2) A2 q2)

/-! ### f-strings -/
def txtD : D → Option Str
  | .str x => if x.length ≤ 1000000 then some x else none
  | .int i => if i.natAbs.log2 < 1920 then some (Str.ofString (toString i)) else none
  | _ => none
theorem wp_fmt (h : wp w te G fun x => ∃ t, txtD x = some t ∧ Q (.str t)) : wp w (tFmt te) G Q := fun σ F H A k z =>
  h σ F H A _ fun v x F1 H1 s1 A1 r1 q => by
    obtain ⟨t, e, q⟩ := q
    cases r1 with
    | str y =>
      change (if y.length ≤ 1000000 then some y else none) = some t at e
      split at e
      · cases e
        rename_i hl
        exact .inl ⟨_, rfl, line_ok hl, z _ _ F1 H1 s1 A1 (.str _) q⟩
      · cases e
    | int i =>
      change (if i.natAbs.log2 < 1920 then some (Str.ofString (toString i)) else none) = some t at e
      split at e
      · cases e
        rename_i hl
        exact .inr ⟨i, rfl, hl, z _ _ F1 H1 s1 A1 (.str _) q⟩
      · cases e
    | _ => cases e
/-- the parts of an f-string -/
def wpj (w : Wd) : List TE → Str → List Ent → (Str → Prop) → Prop
  | [], acc, _, Q => Q acc
  | t :: ts, acc, G, Q => wp w t G fun x => ∃ y, x = .str y ∧ acc.length + y.length ≤ 1000000 ∧ wpj w ts (acc ++ y) G Q
theorem tJs_of : ∀ (ts : List TE) (acc : Str) {σ : L2.St} {F H : Hp} (A : As w G σ F H) {Q : Str → Prop} (h : wpj w ts acc G Q) {k : Str → Hp → Prop} (z : ∀ out F' H', Same F F' → As w G σ F' H' → Q out → k out H'), tJs ts acc σ H k
  | [], acc, σ, F, H, A, Q, h, k, z => z acc F H (Same.refl _) A h
  | t :: ts, acc, σ, F, H, A, Q, h, k, z => h σ F H A _ fun v x F1 H1 s1 A1 r1 q => by
    obtain ⟨y, rfl, hl, q⟩ := q
    cases r1
    refine ⟨y, rfl, line_ok ?_, tJs_of ts _ A1 q fun out F' H' s' A' q' => z out F' H' (s1.trans s') A' q'⟩
    show (acc.cps ++ y.cps).size ≤ 1000000
    rw [Array.size_append]
    exact hl
theorem wp_js {ts : List TE} (h : wpj w ts Str.empty G fun out => Q (.str out)) : wp w (fun σ H Q => tJs ts Str.empty σ H fun out H1 => Q (.str out) H1) G Q := fun σ F H A k z =>
  tJs_of ts _ A h fun out F' H' s' A' q' => z _ _ F' H' s' A' (.str _) q'
/-- f(*xs): the items -/
theorem wpa_star {Q : List D → Prop} {tr : TA} (h : wp w te G fun x => ∃ xs, itemsD x = some xs ∧ wpa w tr G fun ds => Q (xs ++ ds)) : wpa w (StX.tStar w.K te tr) G Q := fun σ F H A k z =>
  h σ F H A _ fun v x F1 H1 s1 A1 r1 q => by
    obtain ⟨xs, e, q⟩ := q
    cases r1 with
    | tup e1 r =>
      cases e
      exact ⟨_, _, rfl, .inl (.inl (.inl (A1.fh _ _ e1))), q σ F1 H1 A1 _ fun vs ds F2 H2 s2 A2 r2 q2 => z _ _ F2 H2 (s1.trans s2) A2 ((r.mono s2).append r2) q2⟩
    | lst e1 r =>
      cases e
      exact ⟨_, _, rfl, .inr (.inl (.inl (A1.fh _ _ e1))), q σ F1 H1 A1 _ fun vs ds F2 H2 s2 A2 r2 q2 => z _ _ F2 H2 (s1.trans s2) A2 ((r.mono s2).append r2) q2⟩
    | _ => cases e
end
end Sd
set_option Elab.async false
set_option linter.all false
set_option maxRecDepth 100000
set_option maxHeartbeats 4000000
/-! Sd3: statements, loops, comprehensions by data. -/
namespace Sd
open PySem PySem.Spec L2

/-- a block: what holds of the slots behind it, of the slots and the data where it returns -/
def wps (w : Wd) (ts : TS) (G : List Ent) (N : List Ent → Prop) (R : List Ent → D → Prop) : Prop := ∀ σ F H (E : Ends), As w G σ F H →
  (∀ G' σ' F' H', Same F F' → As w G' σ' F' H' → N G' → E.nx σ' H') → (∀ G' σ' v d F' H', Same F F' → As w G' σ' F' H' → Rp w.K F' v d → R G' d → E.rt v H') → ts E σ H
/-- slots but for some are as they were -/
def Off (ts : List Nat) (σ σ' : L2.St) : Prop := σ'.length = σ.length ∧ ∀ i, i ∉ ts → σ'[i]? = σ[i]?
/-- a target gets data -/
def wpg (w : Wd) (g : TG) (ts : List Nat) (d : D) (G : List Ent) (N : List Ent → Prop) : Prop := ∀ σ F H v, As w G σ F H → Rp w.K F v d → ∀ k : L2.St → Hp → Prop,
  (∀ G' σ' F' H', Same F F' → As w G' σ' F' H' → Off ts σ σ' → N G' → k σ' H') → g v σ H k
def wpgs (w : Wd) (g : TGs) (ts : List Nat) (ds : List D) (G : List Ent) (N : List Ent → Prop) : Prop := ∀ σ F H vs, As w G σ F H → RpL w.K F vs ds → ∀ k : L2.St → Hp → Prop,
  (∀ G' σ' F' H', Same F F' → As w G' σ' F' H' → Off ts σ σ' → N G' → k σ' H') → g vs σ H k
/-- J walks the data -/
def Wk (K : PySem.W.Frag) (J : It) (ds : List D) (F : Hp) : Prop := ∀ F2 H2, Same F F2 → Same F2 H2 → J.stop ds.length H2 ∧ ∀ i d, ds[i]? = some d → J.go i H2 ∧ ∀ x H3, J.yld i H2 x H3 → Same H2 H3 ∧ Rp K (ext F2 H2 H3) x d
def wpi (w : Wd) (wi : TI) (G : List Ent) (Q : List D → Prop) : Prop := ∀ σ F H, As w G σ F H → ∀ R : It → Hp → Prop, (∀ J ds F' H', Same F F' → As w G σ F' H' → Wk w.K J ds F' → Q ds → R J H') → wi σ H R
theorem Off.refl (ts : List Nat) (σ : L2.St) : Off ts σ σ := ⟨rfl, fun _ _ => rfl⟩
theorem Off.set {ts : List Nat} {σ : L2.St} {i : Nat} {x : Option V} (h : i ∈ ts) : Off ts σ (σ.set i x) := ⟨List.length_set, fun j hj => List.getElem?_set_ne (fun e => hj (by rw [← e]; exact h))⟩
theorem Off.trans {ts : List Nat} {σ σ1 σ2 : L2.St} (a : Off ts σ σ1) (b : Off ts σ1 σ2) : Off ts σ σ2 := ⟨b.1.trans a.1, fun i h => (b.2 i h).trans (a.2 i h)⟩
theorem wipe_in : ∀ {vs : List Nat} {σ : L2.St} {i : Nat}, i ∈ vs → i < σ.length → (wipe σ vs)[i]? = some none
  | [], _, _, h, _ => nomatch h
  | v :: vs, σ, i, h, hi => by
    unfold wipe
    by_cases e : v = i
    · subst e
      exact List.getElem?_set_self (by rw [wipe_length]; exact hi)
    · rw [List.getElem?_set_ne e]
      rcases List.mem_cons.mp h with z | z
      · exact absurd z.symm e
      · exact wipe_in z hi
theorem Off.wipe {ts vs : List Nat} {σ σ' : L2.St} (h : Off ts σ σ') (s : ∀ i ∈ ts, i ∈ vs) : wipe σ' vs = wipe σ vs := by
  refine List.ext_getElem? fun i => ?_
  by_cases hi : i ∈ vs
  · by_cases hl : i < σ.length
    · rw [wipe_in hi hl, wipe_in hi (by rw [h.1]; exact hl)]
    · rw [List.getElem?_eq_none (by rw [wipe_length, h.1]; omega), List.getElem?_eq_none (by rw [wipe_length]; omega)]
  · rw [wipe_out hi, wipe_out hi]
    exact h.2 i (fun z => hi (s i z))

section
variable {w : Wd} {G : List Ent} {N : List Ent → Prop} {R : List Ent → D → Prop} {te ta tb : TE} {tt : TT} {tas : TA} {t u : TS} {g : TG} {i j : Nat}
theorem wps.imp {N' : List Ent → Prop} {R' : List Ent → D → Prop} (h : wps w t G N R) (a : ∀ G, N G → N' G) (b : ∀ G d, R G d → R' G d) : wps w t G N' R' := fun σ F H E A n r =>
  h σ F H E A (fun G' σ' F' H' s A' z => n G' σ' F' H' s A' (a G' z)) fun G' σ' v d F' H' s A' rp z => r G' σ' v d F' H' s A' rp (b G' d z)
theorem wps_seq (h : wps w t G (fun G' => wps w u G' N R) R) : wps w (tSeq t u) G N R := fun σ F H E A n r =>
  h σ F H _ A (fun G1 σ1 F1 H1 s1 A1 h1 => h1 σ1 F1 H1 E A1 (fun G' σ' F' H' s A' => n G' σ' F' H' (s1.trans s) A') fun G' σ' v d F' H' s A' => r G' σ' v d F' H' (s1.trans s) A') r
theorem wps_next (h : N G) : wps w tNext G N R := fun σ F H E A n r => n G σ F H (Same.refl _) A h
theorem wps_ret (h : wp w te G fun d => R G d) : wps w (tRet te) G N R := fun σ F H E A n r => h σ F H A _ fun v d F' H' s A' rp q => r G σ v d F' H' s A' rp q
theorem wps_retN (h : R G .non) : wps w tRetN G N R := fun σ F H E A n r => r G σ .non .non F H (Same.refl _) A .non h
theorem wps_retO {xs : List D} (e : G[i]? = some (.l xs)) (h : R (G.set i (.d (.lst xs))) (.lst xs)) : wps w (tRet (tVar i)) G N R := fun σ F H E A n r => by
  obtain ⟨a, vs, h1, h2, h3, s, A'⟩ := A.freeze e
  exact ⟨_, h1, r _ σ _ _ _ H s A' (.lst upd_same (h3.mono s)) h⟩
theorem wps_if (h : wpt w tt G fun b => if b = true then wps w t G N R else wps w u G N R) : wps w (tIfS tt t u) G N R := fun σ F H E A n r =>
  h σ F H A _ fun b F1 H1 s1 A1 q => by
    cases b with
    | true => exact iteT (q σ F1 H1 E A1 (fun G' σ' F' H' s A' => n G' σ' F' H' (s1.trans s) A') fun G' σ' v d F' H' s A' => r G' σ' v d F' H' (s1.trans s) A')
    | false => exact iteF (q σ F1 H1 E A1 (fun G' σ' F' H' s A' => n G' σ' F' H' (s1.trans s) A') fun G' σ' v d F' H' s A' => r G' σ' v d F' H' (s1.trans s) A')
theorem wps_drop (h : wp w te G fun _ => N G) : wps w (tDrop te) G N R := fun σ F H E A n r => h σ F H A _ fun v d F' H' s A' rp q => n G σ F' H' s A' q
theorem wps_asg (h : wp w te G fun d => N (G.set i (.d d))) : wps w (tAsg te (gName i)) G N R := fun σ F H E A n r => h σ F H A _ fun v d F' H' s A' rp q => n _ _ F' H' s (A'.putD i rp) q
theorem wps_asgL (h : wpl w te G fun ds => N (G.set i (.l ds))) : wps w (tAsg te (gName i)) G N R := fun σ F H E A n r => h σ F H A _ fun a vs ds F' H' s A' hn rp q => n _ _ F' H' s (A'.putL i hn rp) q
theorem wps_asgG {ts : List Nat} (h : wp w te G fun d => wpg w g ts d G N) : wps w (tAsg te g) G N R := fun σ F H E A n r => h σ F H A _ fun v d F' H' s A' rp q =>
  q σ F' H' v A' rp _ fun G2 σ2 F2 H2 s2 A2 _ q2 => n G2 σ2 F2 H2 (s.trans s2) A2 q2
theorem wpg_name {ts : List Nat} {d : D} (m : i ∈ ts) (h : N (G.set i (.d d))) : wpg w (gName i) ts d G N := fun σ F H v A rp k z => z _ _ F H (Same.refl _) (A.putD i rp) (Off.set m) h
theorem wpg_tup {ts : List Nat} {d : D} {n : Nat} {gs : TGs} {ds : List D} (e : d = .tup ds) (hl : ds.length = n) (h : wpgs w gs ts ds G N) : wpg w (gTup w.K n gs) ts d G N := fun σ F H v A rp k z => by
  subst e
  cases rp with
  | tup e r => exact ⟨_, _, rfl, .inl (.inl (A.fh _ _ e)), r.length.trans hl, h σ F H _ A r k z⟩
theorem wpgs_nil {ts : List Nat} (h : N G) : wpgs w gNil ts [] G N := fun σ F H vs A rp k z => by
  cases rp
  exact ⟨rfl, z G σ F H (Same.refl _) A (Off.refl _ _) h⟩
theorem wpgs_cons {ts : List Nat} {gs : TGs} {d : D} {ds : List D} (h : wpg w g ts d G fun G' => wpgs w gs ts ds G' N) : wpgs w (gCons g gs) ts (d :: ds) G N := fun σ F H vs A rp k z => by
  cases rp with
  | cons r rr => exact ⟨_, _, rfl, h σ F H _ A r _ fun G1 σ1 F1 H1 s1 A1 o1 q => q σ1 F1 H1 _ A1 (rr.mono s1) k fun G2 σ2 F2 H2 s2 A2 o2 q2 => z G2 σ2 F2 H2 (s1.trans s2) A2 (o1.trans o2) q2⟩
theorem wps_aug {f : Int → Int → Int} {a : Int} (e : G[i]? = some (.d (.int a))) (h : wp w te G fun d => ∃ b, d = .int b ∧ N (G.set i (.d (.int (f a b))))) : wps w (tAug i te (ipI f)) G N R := fun σ F H E A n r => by
  obtain ⟨v, hv, rv⟩ := A.dat e
  cases rv
  refine ⟨_, hv, h σ F H A _ fun v d F' H' s A' rp q => ?_⟩
  obtain ⟨b, rfl, q⟩ := q
  cases rp
  exact ⟨a, b, rfl, rfl, n _ _ F' H' s (A'.putD i (.int _)) q⟩
theorem wps_par (h : wpa w tas G fun ds => ∃ x y, ds = [x, y] ∧ N ((G.set i (.d x)).set j (.d y))) : wps w (tPar i j tas) G N R := fun σ F H E A n r =>
  h σ F H A _ fun vs ds F' H' s A' rp q => by
    obtain ⟨x, y, rfl, q⟩ := q
    cases rp with
    | cons r1 rr =>
      cases rr with
      | cons r2 rr =>
        cases rr
        exact ⟨_, _, rfl, n _ _ F' H' s ((A'.putD i r1).putD j r2) q⟩
/-- a, b = data, a new list -/
theorem wps_parDL (h : wp w ta G fun d => wpl w tb G fun ds => N ((G.set i (.d d)).set j (.l ds))) : wps w (tPar i j (tCons ta (tCons tb tNil))) G N R := fun σ F H E A n r =>
  h σ F H A _ fun v d F1 H1 s1 A1 r1 h1 => h1 σ F1 H1 A1 _ fun a vs ds F2 H2 s2 A2 hn r2 q =>
    ⟨_, _, rfl, n _ _ F2 H2 (s1.trans s2) ((A2.putD i (r1.mono s2)).putL j hn r2) q⟩
/-- a, b = a new list, [] -/
theorem wps_parL0 (h : wpl w ta G fun ds => N ((G.set i (.l ds)).set j (.l []))) : wps w (tPar i j (tCons ta (tCons (tLst tNil) tNil))) G N R := fun σ F H E A n r =>
  h σ F H A _ fun a vs ds F1 H1 s1 A1 hn r1 q => ⟨Nat.zero_le _, fun p hp =>
    have A2 := (A1.putL i hn r1).pend (o := .lst []) hp
    ⟨_, _, rfl, n _ _ F1 _ s1 (A2.putL j ((A1.drop).fresh hp) .nil) q⟩⟩
theorem wps_append {xs : List D} (e : G[i]? = some (.l xs)) (h : wp w te G fun d => xs.length < 1000000 ∧ N (G.set i (.l (xs ++ [d])))) : wps w (tDrop (tBM w.K "list" rAppend (tVar i) (tCons te tNil))) G N R := fun σ F H E A n r => by
  obtain ⟨a, vs, h1, h2, h3, h4⟩ := A.lst e
  refine ⟨_, h1, .inl ⟨rfl, vs, .inl (.inl h2)⟩, h σ F H A _ fun v d F' H' s A' rp q => ?_⟩
  obtain ⟨a', vs', g1, g2, g3, g4⟩ := A'.lst e
  rw [h1] at g1
  cases g1
  exact ⟨a, vs', v, rfl, rfl, g2, line_lt (by rw [g3.length]; omega), n _ _ F' _ s (A'.mutL e h1 (g3.append (.one rp))) q.2⟩
theorem wps_extend {xs : List D} (e : G[i]? = some (.l xs)) (h : wp w te G fun d => ∃ ys, d = .lst ys ∧ xs.length + ys.length ≤ 1000000 ∧ N (G.set i (.l (xs ++ ys)))) : wps w (tDrop (tBM w.K "list" rExtend (tVar i) (tCons te tNil))) G N R := fun σ F H E A n r => by
  obtain ⟨a, vs, h1, h2, h3, h4⟩ := A.lst e
  refine ⟨_, h1, .inl ⟨rfl, vs, .inl (.inl h2)⟩, h σ F H A _ fun v d F' H' s A' rp q => ?_⟩
  obtain ⟨ys, rfl, hl, q⟩ := q
  cases rp with
  | lst eb rb =>
    obtain ⟨a', vs', g1, g2, g3, g4⟩ := A'.lst e
    rw [h1] at g1
    cases g1
    exact ⟨a, _, vs', _, rfl, rfl, g2, A'.fh _ _ eb, line_ok (by rw [g3.length, rb.length]; exact hl), n _ _ F' _ s (A'.mutL e h1 (g3.append rb)) q⟩
theorem wps_pop {xs : List D} {y : D} (e : G[i]? = some (.l (xs ++ [y]))) (h : N ((G.set i (.l xs)).set j (.d y))) : wps w (tAsg (tBM0 w.K "list" rPop (tVar i)) (gName j)) G N R := fun σ F H E A n r => by
  obtain ⟨a, vs, h1, h2, h3, h4⟩ := A.lst e
  have hl : vs.length = xs.length + 1 := by rw [h3.length]; simp
  obtain ⟨v, hv, rv⟩ := h3.getD (i := xs.length) (d := y) (by simp)
  have hd : RpL w.K F vs.dropLast xs := by
    have := h3.take xs.length
    rw [List.take_left] at this
    rw [List.dropLast_eq_take, hl]
    exact this
  exact ⟨_, h1, .inl ⟨rfl, vs, .inl (.inl h2)⟩, a, vs, v, rfl, rfl, h2, by rw [hl]; exact hv, n _ _ F _ (Same.refl _) ((A.mutL e h1 hd).putD j rv) h⟩
/-- a list of its own told as known from now on -/
theorem wps_know {xs : List D} (i : Nat) (e : G[i]? = some (.l xs)) (h : wps w t (G.set i (.d (.lst xs))) N R) : wps w t G N R := fun σ F H E A n r => by
  obtain ⟨a, vs, _, _, _, s, A'⟩ := A.freeze e
  exact h σ _ H E A' (fun G' σ' F' H' s' => n G' σ' F' H' (s.trans s')) fun G' σ' v d F' H' s' => r G' σ' v d F' H' (s.trans s')
theorem wps_forget (i : Nat) (h : wps w t (G.set i .no) N R) : wps w t G N R := fun σ F H E A n r => h σ F H E (A.forget i) n r

/-! ### what is walked -/
theorem wpi_tup {Q : List D → Prop} (h : wp w te G fun d => ∃ ds, d = .tup ds ∧ Q ds) : wpi w (iTup w.K te) G Q := fun σ F H A k z => h σ F H A _ fun v d F1 H1 s1 A1 r1 q => by
  obtain ⟨ds, rfl, q⟩ := q
  cases r1 with
  | tup e r =>
    rename_i a vs
    refine ⟨a, rfl, ⟨vs, .inl (.inl (A1.fh _ _ e))⟩, z _ ds F1 H1 s1 A1 (fun F2 H2 f2 h2 => ?_) q⟩
    have ea : SqT w.K H2 a vs := .inl (.inl (h2 _ _ (f2 _ _ e)))
    refine ⟨⟨vs, ea, by rw [r.length]; exact Nat.le_refl _⟩, fun i d hd => ?_⟩
    obtain ⟨x, hx, rx⟩ := r.getD hd
    refine ⟨⟨vs, x, ea, hx⟩, fun y H3 hy => ?_⟩
    obtain ⟨rfl, hy⟩ := hy
    have := hy vs ea
    rw [hx] at this
    cases this
    exact ⟨Same.refl _, ext0 h2 (rx.mono f2)⟩
theorem wpi_lst {Q : List D → Prop} (h : wp w te G fun d => ∃ ds, d = .lst ds ∧ Q ds) : wpi w (iList w.K te) G Q := fun σ F H A k z => h σ F H A _ fun v d F1 H1 s1 A1 r1 q => by
  obtain ⟨ds, rfl, q⟩ := q
  cases r1 with
  | lst e r =>
    rename_i a vs
    refine ⟨a, rfl, ⟨vs, .inl (.inl (A1.fh _ _ e))⟩, z _ ds F1 H1 s1 A1 (fun F2 H2 f2 h2 => ?_) q⟩
    have ea : SqL w.K H2 a vs := .inl (.inl (h2 _ _ (f2 _ _ e)))
    refine ⟨⟨vs, ea, by rw [r.length]; exact Nat.le_refl _⟩, fun i d hd => ?_⟩
    obtain ⟨x, hx, rx⟩ := r.getD hd
    refine ⟨⟨vs, x, ea, hx⟩, fun y H3 hy => ?_⟩
    obtain ⟨rfl, hy⟩ := hy
    have := hy vs ea
    rw [hx] at this
    cases this
    exact ⟨Same.refl _, ext0 h2 (rx.mono f2)⟩
/-- a list or a tuple -/
theorem pi_seq {X : Cx} {tg l : Expr} {tl : TE} (hl : PE X l tl) : PI X tg l (fun σ H R => iList X.K tl σ H R ∨ iTup X.K tl σ H R) := by
  refine ⟨fun pins s σ H R I h => ?_⟩
  rcases h with h | h
  · exact (pi_list hl).run pins s σ H R I h
  · exact (pi_tup hl).run pins s σ H R I h
theorem wpi_str {Q : List D → Prop} (h : wp w te G fun d => ∃ x, d = .str x ∧ Q (x.cps.toList.map fun c => .str ⟨#[c]⟩)) : wpi w (iStr te) G Q := fun σ F H A k z => h σ F H A _ fun v d F1 H1 s1 A1 r1 q => by
  obtain ⟨x, rfl, q⟩ := q
  cases r1
  refine ⟨x, rfl, z _ _ F1 H1 s1 A1 (fun F2 H2 f2 h2 => ?_) q⟩
  refine ⟨by show x.cps.size ≤ _; simp, fun i d hd => ?_⟩
  rw [List.getElem?_map] at hd
  cases e : x.cps.toList[i]? with
  | none => rw [e] at hd; cases hd
  | some c =>
    rw [e] at hd
    cases hd
    have hi : i < x.cps.size := by simpa using (List.getElem?_eq_some_iff.mp e).1
    refine ⟨hi, fun y H3 hy => ?_⟩
    obtain ⟨rfl, c', h1, rfl⟩ := hy
    have : c' = c := by
      rw [Array.getElem?_toList] at e
      rw [h1] at e
      exact Option.some.inj e
    subst this
    exact ⟨Same.refl _, .str _⟩
theorem wpi_rng {Q : List D → Prop} (h : wpa w tas G fun ds => ∃ n : Int, ds = [.int n] ∧ (-1000000 ≤ n ∧ n ≤ 1000000) ∧ Q ((List.range n.toNat).map fun i => .int (i : Nat))) : wpi w (iRng1 tas) G Q := fun σ F H A k z => h σ F H A _ fun vs ds F1 H1 s1 A1 r1 q => by
  obtain ⟨n, rfl, hn, q⟩ := q
  cases r1 with
  | cons r1 rr =>
    cases rr
    cases r1
    refine ⟨n, rfl, by omega, by omega, z _ _ F1 H1 s1 A1 (fun F2 H2 f2 h2 => ?_) q⟩
    refine ⟨by show n.toNat ≤ _; simp, fun i d hd => ?_⟩
    have hi : i < n.toNat := by
      have := (List.getElem?_eq_some_iff.mp hd).1
      simpa using this
    rw [List.getElem?_map, List.getElem?_range hi] at hd
    cases hd
    refine ⟨hi, fun y H3 hy => ?_⟩
    obtain ⟨rfl, rfl⟩ := hy
    rw [Int.zero_add]
    exact ⟨Same.refl _, .int _⟩
theorem wpi_rng2 {Q : List D → Prop} (h : wpa w tas G fun ds => ∃ a n : Int, ds = [.int a, .int n] ∧ (-1000000 ≤ a ∧ a ≤ 1000000 ∧ -1000000 ≤ n ∧ n ≤ 1000000) ∧ Q ((List.range (n - a).toNat).map fun i => .int (a + (i : Nat)))) : wpi w (iRng2 tas) G Q := fun σ F H A k z => h σ F H A _ fun vs ds F1 H1 s1 A1 r1 q => by
  obtain ⟨a, n, rfl, hn, q⟩ := q
  cases r1 with
  | cons r1 rr =>
    cases rr with
    | cons r2 rr =>
      cases rr
      cases r1
      cases r2
      refine ⟨a, n, rfl, ⟨by omega, by omega, by omega, by omega⟩, z _ _ F1 H1 s1 A1 (fun F2 H2 f2 h2 => ?_) q⟩
      refine ⟨by show (n - a).toNat ≤ _; simp, fun i d hd => ?_⟩
      have hi : i < (n - a).toNat := by
        have := (List.getElem?_eq_some_iff.mp hd).1
        simpa using this
      rw [List.getElem?_map, List.getElem?_range hi] at hd
      cases hd
      refine ⟨hi, fun y H3 hy => ?_⟩
      obtain ⟨rfl, rfl⟩ := hy
      exact ⟨Same.refl _, .int _⟩
theorem new_tup {K : PySem.W.Frag} {F H : Hp} {T : Addr} {vs : List V} {ds : List D} (fh : Same F H) (hn : H T = none) (r : RpL K F vs ds) : Same H (upd H T (.tup vs)) ∧ Rp K (ext F H (upd H T (.tup vs))) (.ref T) (.tup ds) := by
  have hf := fh.free hn
  refine ⟨same_new hn, ?_⟩
  rw [ext_upd hn hf fh]
  exact .tup upd_same (r.mono (same_new hf))
theorem wpi_enum {Q : List D → Prop} (h : wpa w tas G fun ds => ∃ xs, ds = [.lst xs] ∧ Q ((List.range xs.length).map fun i => .tup [.int (i : Nat), xs.getD i .non])) : wpi w (iEnum w.K tas) G Q := fun σ F H A k z => h σ F H A _ fun vs ds F1 H1 s1 A1 r1 q => by
  obtain ⟨xs, rfl, q⟩ := q
  cases r1 with
  | cons r1 rr =>
    cases rr
    cases r1 with
    | lst e r =>
      rename_i a vs
      refine ⟨a, vs, rfl, .inl (.inl (A1.fh _ _ e)), z _ _ F1 H1 s1 A1 (fun F2 H2 f2 h2 => ?_) q⟩
      have ea : SqL w.K H2 a vs := .inl (.inl (h2 _ _ (f2 _ _ e)))
      refine ⟨⟨vs, ea, by rw [r.length]; simp⟩, fun i d hd => ?_⟩
      have hi : i < xs.length := by
        have := (List.getElem?_eq_some_iff.mp hd).1
        simpa using this
      rw [List.getElem?_map, List.getElem?_range hi] at hd
      cases hd
      have hx : xs[i]? = some (xs.getD i .non) := by rw [List.getD_eq_getElem?_getD, List.getElem?_eq_getElem hi]; rfl
      obtain ⟨x, h1, rx⟩ := r.getD hx
      refine ⟨⟨vs, x, ea, h1⟩, fun y H3 hy => ?_⟩
      obtain ⟨T, x', rfl, hn, rfl, hx'⟩ := hy
      have := hx' vs ea
      rw [h1] at this
      cases this
      exact new_tup h2 hn (.cons (.int _) (.one (rx.mono f2)))
theorem wpi_zipL {Q : List D → Prop} (h : wpa w tas G fun ds => ∃ xs ys, ds = [.lst xs, .lst ys] ∧ Q ((List.range (min xs.length ys.length)).map fun i => .tup [xs.getD i .non, ys.getD i .non])) : wpi w (RZ.iZipA w.K tas) G Q := fun σ F H A k z => h σ F H A _ fun vs ds F1 H1 s1 A1 r1 q => by
  obtain ⟨xs, ys, rfl, q⟩ := q
  cases r1 with
  | cons r1 rr =>
    cases rr with
    | cons r2 rr =>
      cases rr
      cases r1 with
      | lst e r =>
        cases r2 with
        | lst e2 r2 =>
          rename_i a vs b us
          refine ⟨a, b, vs, us, rfl, .inl ⟨.inl (.inl (A1.fh _ _ e)), .inl (.inl (A1.fh _ _ e2)), z _ _ F1 H1 s1 A1 (fun F2 H2 f2 h2 => ?_) q⟩⟩
          have ea : SqL w.K H2 a vs := .inl (.inl (h2 _ _ (f2 _ _ e)))
          have eb : SqL w.K H2 b us := .inl (.inl (h2 _ _ (f2 _ _ e2)))
          refine ⟨⟨vs, us, ea, eb, by rw [r.length, r2.length]; simp; omega⟩, fun i d hd => ?_⟩
          have hi : i < min xs.length ys.length := by
            have := (List.getElem?_eq_some_iff.mp hd).1
            simpa using this
          rw [List.getElem?_map, List.getElem?_range hi] at hd
          cases hd
          have hx : xs[i]? = some (xs.getD i .non) := by rw [List.getD_eq_getElem?_getD, List.getElem?_eq_getElem (by omega)]; rfl
          have hy : ys[i]? = some (ys.getD i .non) := by rw [List.getD_eq_getElem?_getD, List.getElem?_eq_getElem (by omega)]; rfl
          obtain ⟨x, h1, rx⟩ := r.getD hx
          obtain ⟨u, h3, ru⟩ := r2.getD hy
          refine ⟨⟨vs, us, x, u, ea, eb, h1, h3⟩, fun y H3 hy => ?_⟩
          obtain ⟨T, x', u', rfl, hn, rfl, hx', hu'⟩ := hy
          have q1 := hx' vs ea
          have q2 := hu' us eb
          rw [h1] at q1
          rw [h3] at q2
          cases q1
          cases q2
          exact new_tup h2 hn (.cons (rx.mono f2) (.one (ru.mono f2)))
theorem wpi_zipT {Q : List D → Prop} (h : wpa w tas G fun ds => ∃ xs ys, ds = [.tup xs, .tup ys] ∧ Q ((List.range (min xs.length ys.length)).map fun i => .tup [xs.getD i .non, ys.getD i .non])) : wpi w (RZ.iZipA w.K tas) G Q := fun σ F H A k z => h σ F H A _ fun vs ds F1 H1 s1 A1 r1 q => by
  obtain ⟨xs, ys, rfl, q⟩ := q
  cases r1 with
  | cons r1 rr =>
    cases rr with
    | cons r2 rr =>
      cases rr
      cases r1 with
      | tup e r =>
        cases r2 with
        | tup e2 r2 =>
          rename_i a vs b us
          refine ⟨a, b, vs, us, rfl, .inr ⟨.inl (.inl (A1.fh _ _ e)), .inl (.inl (A1.fh _ _ e2)), z _ _ F1 H1 s1 A1 (fun F2 H2 f2 h2 => ?_) q⟩⟩
          have ea : SqT w.K H2 a vs := .inl (.inl (h2 _ _ (f2 _ _ e)))
          have eb : SqT w.K H2 b us := .inl (.inl (h2 _ _ (f2 _ _ e2)))
          refine ⟨⟨vs, us, ea, eb, by rw [r.length, r2.length]; simp; omega⟩, fun i d hd => ?_⟩
          have hi : i < min xs.length ys.length := by
            have := (List.getElem?_eq_some_iff.mp hd).1
            simpa using this
          rw [List.getElem?_map, List.getElem?_range hi] at hd
          cases hd
          have hx : xs[i]? = some (xs.getD i .non) := by rw [List.getD_eq_getElem?_getD, List.getElem?_eq_getElem (by omega)]; rfl
          have hy : ys[i]? = some (ys.getD i .non) := by rw [List.getD_eq_getElem?_getD, List.getElem?_eq_getElem (by omega)]; rfl
          obtain ⟨x, h1, rx⟩ := r.getD hx
          obtain ⟨u, h3, ru⟩ := r2.getD hy
          refine ⟨⟨vs, us, x, u, ea, eb, h1, h3⟩, fun y H3 hy => ?_⟩
          obtain ⟨T, x', u', rfl, hn, rfl, hx', hu'⟩ := hy
          have q1 := hx' vs ea
          have q2 := hu' us eb
          rw [h1] at q1
          rw [h3] at q2
          cases q1
          cases q2
          exact new_tup h2 hn (.cons (rx.mono f2) (.one (ru.mono f2)))

/-! ### loops -/
/-- for: an invariant over the turn and the slots -/
theorem wps_for {wi : TI} {ts : List Nat} (h : wpi w wi G fun ds => ∃ I : Nat → List Ent → Prop, I 0 G ∧ (∀ i d G', ds[i]? = some d → I i G' → wpg w g ts d G' fun G2 => wps w u G2 (I (i + 1)) R) ∧ ∀ G', I ds.length G' → N G') :
    wps w (tFor wi g u) G N R := fun σ F H E A n r => h σ F H A _ fun J ds F1 H1 s1 A1 wk q => by
  obtain ⟨I, i0, turn, fin⟩ := q
  refine ⟨fun i m σ2 H2 => m = ds.length - i ∧ i ≤ ds.length ∧ ∃ G2 F2, Same F1 F2 ∧ As w G2 σ2 F2 H2 ∧ I i G2, ⟨ds.length, rfl, Nat.zero_le _, G, F1, Same.refl _, A1, i0⟩, ?_⟩
  rintro i m σ2 H2 ⟨rfl, hi, G2, F2, s2, A2, iv⟩
  obtain ⟨stop, go⟩ := wk F2 H2 s2 A2.fh
  by_cases hlt : i < ds.length
  · obtain ⟨g1, g2⟩ := go i ds[i] (List.getElem?_eq_getElem hlt)
    refine .inr ⟨g1, fun σ' H' => ∃ G2 F2, Same F1 F2 ∧ As w G2 σ' F2 H' ∧ I (i + 1) G2, fun σ' H' hn => ⟨_, by omega, rfl, hlt, hn⟩, fun x H3 hy => ?_⟩
    obtain ⟨s3, rx⟩ := g2 x H3 hy
    refine turn i ds[i] G2 (List.getElem?_eq_getElem hlt) iv σ2 _ H3 x (A2.step s3) rx _ fun G4 σ4 F4 H4 s4 A4 _ q4 => ?_
    exact q4 σ4 F4 H4 _ A4 (fun G5 σ5 F5 H5 s5 A5 q5 => ⟨G5, F5, ((s2.trans A2.same).trans s4).trans s5, A5, q5⟩)
      fun G5 σ5 v d F5 H5 s5 A5 r5 q5 => r G5 σ5 v d F5 H5 (s1.trans (((s2.trans A2.same).trans s4).trans s5)) A5 r5 q5
  · have e : i = ds.length := by omega
    subst e
    exact .inl ⟨stop, n G2 σ2 F2 H2 (s1.trans s2) A2 (fin G2 iv)⟩
/-- while: an invariant over a number that falls and the slots -/
theorem wps_while (I : Nat → List Ent → Prop) (m0 : Nat) (i0 : I m0 G) (turn : ∀ m G', I m G' → wpt w tt G' fun b => if b = true then wps w u G' (fun G2 => ∃ m', m' < m ∧ I m' G2) R else N G') : wps w (tWhile tt u) G N R := fun σ F H E A n r => by
  refine ⟨fun m σ2 H2 => ∃ G2 F2, Same F F2 ∧ As w G2 σ2 F2 H2 ∧ I m G2, ⟨m0, G, F, Same.refl _, A, i0⟩, ?_⟩
  rintro m σ2 H2 ⟨G2, F2, s2, A2, iv⟩
  refine turn m G2 iv σ2 F2 H2 A2 _ fun b F3 H3 s3 A3 q => ?_
  cases b with
  | true =>
    refine iteT ⟨fun σ' H' => ∃ m', m' < m ∧ ∃ G2 F2, Same F F2 ∧ As w G2 σ' F2 H' ∧ I m' G2, fun _ _ z => z, ?_⟩
    exact q σ2 F3 H3 _ A3 (fun G5 σ5 F5 H5 s5 A5 ⟨m', hm, q5⟩ => ⟨m', hm, G5, F5, (s2.trans s3).trans s5, A5, q5⟩) fun G5 σ5 v d F5 H5 s5 A5 r5 q5 => r G5 σ5 v d F5 H5 ((s2.trans s3).trans s5) A5 r5 q5
  | false => exact iteF (n G2 σ2 F3 H3 (s2.trans s3) A3 q)

/-! ### comprehensions -/
theorem As.wipe {vs : List Nat} {σ : L2.St} {F H : Hp} (A : As w G σ F H) (hv : ∀ i ∈ vs, G[i]? = some Ent.no) : As w G (wipe σ vs) F H := A.slots (wipe_length _ _) fun i => by
  by_cases h : i ∈ vs
  · exact .inl (hv i h)
  · exact .inr (wipe_out h)
theorem As.unwipe {vs : List Nat} {σ σ' : L2.St} {F H : Hp} (A : As w G (L2.wipe σ vs) F H) (hv : ∀ i ∈ vs, G[i]? = some Ent.no) (hl : σ'.length = σ.length) (ho : ∀ i, i ∉ vs → σ'[i]? = σ[i]?) : As w G σ' F H := A.slots (by rw [wipe_length]; exact hl) fun i => by
  by_cases h : i ∈ vs
  · exact .inl (hv i h)
  · exact .inr (by rw [wipe_out h]; exact ho i h)
/-- [e for x in ..]: an invariant over the turn and what is made so far -/
theorem wpl_lc {wi : TI} {vs : List Nat} {Q : List D → Prop} (hv : vs.all (fun i => match G[i]? with | some .no => true | _ => false) = true)
    (h : wpi w wi G fun ds => ds.length ≤ 1000000 ∧ ∃ I : Nat → List D → Prop, I 0 [] ∧ (∀ i d acc a o, ds[i]? = some d → I i acc → wpg (w.push a o) g vs d G fun G2 => (∀ j, j ∉ vs → G2[j]? = G[j]?) ∧ G2.length = G.length ∧ wpt (w.push a o) tt G2 fun b =>
      if b = true then wp (w.push a o) te G2 fun y => I (i + 1) (acc ++ [y]) else I (i + 1) acc) ∧ ∀ acc, I ds.length acc → Q acc) :
    wpl w (tLc wi g tt te vs) G Q := fun σ F H A k z => h σ F H A _ fun J ds F1 H1 s1 A1 wk q => by
  have hv' : ∀ i ∈ vs, G[i]? = some Ent.no := fun i hi => by
    have := List.all_eq_true.mp hv i hi
    split at this
    · assumption
    · cases this
  obtain ⟨hlen, I, i0, turn, fin⟩ := q
  intro Da hD
  have fr := A1.fresh hD
  refine ⟨fun i m H2 => m = ds.length - i ∧ i ≤ ds.length ∧ ∃ F2 us acc, Same F1 F2 ∧ As (w.push Da (.lst us)) G (wipe σ vs) F2 H2 ∧ RpL w.K F2 us acc ∧ acc.length ≤ i ∧ I i acc,
    ⟨ds.length, rfl, Nat.zero_le _, F1, [], [], Same.refl _, (A1.wipe hv').pend hD, .nil, Nat.le_refl _, i0⟩, ?_⟩
  rintro i m H2 ⟨rfl, hi, F2, us, acc, s2, A2, ra, la, iv⟩
  obtain ⟨stop, go⟩ := wk F2 H2 s2 A2.fh
  by_cases hlt : i < ds.length
  · obtain ⟨g1, g2⟩ := go i ds[i] (List.getElem?_eq_getElem hlt)
    refine .inr ⟨g1, fun H' => ∃ F2 us acc, Same F1 F2 ∧ As (w.push Da (.lst us)) G (wipe σ vs) F2 H' ∧ RpL w.K F2 us acc ∧ acc.length ≤ i + 1 ∧ I (i + 1) acc, fun H' hn => ⟨_, by omega, rfl, hlt, hn⟩, fun x H3 hy => ?_⟩
    obtain ⟨s3, rx⟩ := g2 x H3 hy
    refine turn i ds[i] acc Da (.lst us) (List.getElem?_eq_getElem hlt) iv (wipe σ vs) _ H3 x (A2.step s3) rx _ fun G4 σ4 F4 H4 s4 A4 o4 q4 => ?_
    obtain ⟨gk, gl, q4⟩ := q4
    have back : ∀ {w' : Wd} {F' H' : Hp}, As w' G4 σ4 F' H' → As w' G (wipe σ vs) F' H' := fun {w' F' H'} B => by
      obtain ⟨q0, O⟩ := B.get
      refine .mk' (q := fun j => if j ∈ vs then [] else q0 j) (by rw [wipe_length, ← gl, ← B.len, o4.1, wipe_length]) B.base ⟨fun j e he => ?_, fun j b hj hb => ?_, fun j m b hj hm hb hc => ?_, fun j b hj hb => ?_⟩
      · show EntOk _ _ _ _ _ (if j ∈ vs then [] else q0 j)
        by_cases hjv : j ∈ vs
        · rw [hv' j hjv] at he
          cases he
          rw [if_pos hjv]
          rfl
        · rw [if_neg hjv, ← o4.2 j hjv]
          exact O.ok j e (by rw [gk j hjv]; exact he)
      · split at hb
        · cases hb
        · exact O.at_ j b (by rw [gl]; exact hj) hb
      · split at hb
        · cases hb
        · split at hc
          · cases hc
          · exact O.dis j m b (by rw [gl]; exact hj) (by rw [gl]; exact hm) hb hc
      · split at hb
        · cases hb
        · exact O.pd j b (by rw [gl]; exact hj) hb
    refine ⟨(Off.wipe o4 fun _ h => h).trans (by
      refine List.ext_getElem? fun j => ?_
      by_cases hj : j ∈ vs
      · by_cases hl : j < σ.length
        · rw [wipe_in hj (by rw [wipe_length]; exact hl), wipe_in hj hl]
        · rw [List.getElem?_eq_none (by rw [wipe_length, wipe_length]; omega), List.getElem?_eq_none (by rw [wipe_length]; omega)]
      · rw [wipe_out hj]), ?_⟩
    refine q4 σ4 F4 H4 A4 _ fun b F5 H5 s5 A5 q5 => ?_
    cases b with
    | true =>
      refine iteT (q5 σ4 F5 H5 A5 _ fun y d F6 H6 s6 A6 r6 q6 => ?_)
      have t6 : Same F2 F6 := ((A2.same.trans s4).trans s5).trans s6
      obtain ⟨f7, h7, _, _⟩ := A6.top
      refine ⟨us, h7, line_lt (by rw [ra.length]; omega), F6, us ++ [y], acc ++ [d], s2.trans t6, (back A6).repend fr, (ra.mono t6).append (.one r6), by simp; omega, q6⟩
    | false =>
      have t5 : Same F2 F5 := (A2.same.trans s4).trans s5
      exact iteF ⟨F5, us, acc, s2.trans t5, back A5, ra.mono t5, by omega, q5⟩
  · have e : i = ds.length := by omega
    subst e
    exact .inl ⟨stop, z Da us acc F2 H2 (s1.trans s2) (A2.unwipe hv' rfl fun _ _ => rfl) fr ra (fin acc iv)⟩
/-- [f(x) for x in ..], no test -/
theorem wpt_yes {Q : Bool → Prop} (h : Q true) : wpt w tYes G Q := fun σ F H A k z => z true F H (Same.refl _) A h
end
end Sd
set_option Elab.async false
set_option linter.all false
set_option maxRecDepth 100000
set_option maxHeartbeats 4000000
/-! Sd4: defs and their promises by data, instances. -/
namespace Sd
open PySem PySem.Spec L2

/-- a def that changes nothing that stands: by data -/
def spP (K : PySem.W.Frag) (pre : List D → Prop) (post : List D → D → Prop) : Sp := fun vs H Q _ => ∃ F ds, Same F H ∧ RpL K F vs ds ∧ pre ds ∧ ∀ v d H', Same H H' → Rp K (ext F H H') v d → post ds d → Q v H'
/-- a def whose first argument is the source of draws -/
def spR (K : PySem.W.Frag) (pre : List D → Prop) (post : List D → D → Prop) : Sp := fun vs H Q _ => ∃ p c ws F ds, vs = .ref p :: ws ∧ Same F H ∧ F p = none ∧ F c = none ∧ Dr H p c ∧ RpL K F ws ds ∧ pre ds ∧
  ∀ v d H', (∀ b o, b ≠ p → b ≠ c → H b = some o → H' b = some o) → Dr H' p c → Rp K (ext F H H') v d → post ds d → Q v H'
/-- a def whose first argument is a thing of its own, in the state s -/
def spO {S : Type} (K : PySem.W.Frag) (own : Addr → S → OwnP) (pre : S → List D → Prop) (post : S → List D → D → S → Prop) : Sp := fun vs H Q _ => ∃ a ws F ds s qs, vs = .ref a :: ws ∧ Same F H ∧ (∀ a, a ∈ qs → F a = none ∧ H a ≠ none) ∧ (own a s).ok F H (.ref a) qs ∧ RpL K F ws ds ∧ pre s ds ∧
  ∀ r d s' H' qs', (∀ b u, b ∉ qs → H b = some u → H' b = some u) → (∀ b, b ∈ qs → H' b ≠ none) → (∀ a, a ∈ qs' → (a ∈ qs ∨ H a = none) ∧ H' a ≠ none) → (own a s').ok (extBut F H H' qs') H' (.ref a) qs' → Rp K (extBut F H H' qs') r d → post s ds d s' → Q r H'

section
variable {w : Wd} {G : List Ent} {Q : D → Prop} {te : TE} {tas : TA} {E : XK} {pre : List D → Prop} {post : List D → D → Prop}
/-! ### calls -/
theorem wp_callP (h : wpa w tas G fun ds => pre ds ∧ ∀ d, post ds d → Q d) : wp w (tCall (spP w.K pre post) [] E tas) G Q := fun σ F H A k z =>
  h σ F H A _ fun vs ds F1 H1 s1 A1 r1 q => ⟨F1, ds, A1.fh, by rw [List.append_nil]; exact r1, q.1, fun v d H' s r p => z v d _ H' (s1.trans A1.same) (A1.step s) r (q.2 d p)⟩
/-- a call with keywords: how the data go to the parameters -/
theorem wp_callK {tk : TA} {gV : List V → List V → List V} (gD : List D → List D → List D) (hg : ∀ F vs zs ds es, RpL w.K F vs ds → RpL w.K F zs es → RpL w.K F (gV vs zs) (gD ds es))
    (h : wpa w tas G fun ds => wpa w tk G fun es => pre (gD ds es) ∧ ∀ d, post (gD ds es) d → Q d) : wp w (tCallK (spP w.K pre post) gV E tas tk) G Q := fun σ F H A k z =>
  h σ F H A _ fun vs ds F1 H1 s1 A1 r1 h1 => h1 σ F1 H1 A1 _ fun zs es F2 H2 s2 A2 r2 q =>
    ⟨F2, gD ds es, A2.fh, hg F2 vs zs ds es (r1.mono s2) r2, q.1, fun v d H' s r p => z v d _ H' ((s1.trans s2).trans A2.same) (A2.step s) r (q.2 d p)⟩
theorem wp_callR {i : Nat} {p c : Addr} (e : G[i]? = some (.dr p c)) (h : wpa w tas G fun ds => pre ds ∧ ∀ d, post ds d → Q d) : wp w (tCall (spR w.K pre post) [] E (tCons (tVar i) tas)) G Q := fun σ F H A k z => by
  refine ⟨.ref p, (A.drw e).1, h σ F H A _ fun vs ds F1 H1 s1 A1 r1 q => ?_⟩
  obtain ⟨_, hd, fp, fc⟩ := A1.drw e
  refine ⟨p, c, vs, F1, ds, by rw [List.append_nil], A1.fh, fp, fc, hd, r1, q.1, fun v d H' kp hd' r ps => ?_⟩
  obtain ⟨A2, s2⟩ := A1.drawn e kp hd'
  exact z v d _ H' (s1.trans s2) A2 r (q.2 d ps)

/-! ### bodies -/
def startG (n : Nat) (es : List Ent) : List Ent := es ++ List.replicate (n - es.length) .no
theorem start_at {N : List Str} {vs : List V} {i : Nat} {v : V} (h : vs[i]? = some v) : (start N vs)[i]? = some (some v) := by
  unfold L2.start
  have hi := (List.getElem?_eq_some_iff.mp h).1
  rw [List.getElem?_append_left (by simpa using hi), List.getElem?_map, h]
  rfl
theorem startG_at {n : Nat} {es : List Ent} {i : Nat} {e : Ent} (h : (startG n es)[i]? = some e) : es[i]? = some e ∨ e = .no := by
  unfold startG at h
  by_cases hi : i < es.length
  · rw [List.getElem?_append_left hi] at h
    exact .inl h
  · rw [List.getElem?_append_right (by omega), List.getElem?_replicate] at h
    split at h
    · cases h; exact .inr rfl
    · cases h
theorem as_data {K : PySem.W.Frag} {N : List Str} {F H : Hp} {vs : List V} {ds : List D} (fh : Same F H) (r : RpL K F vs ds) : As ⟨K, F, H, [], []⟩ (startG N.length (ds.map .d)) (start N vs) F H := by
  refine ⟨?_, ⟨Same.refl _, fh, fun a o h => .inl h, fun a o _ h => h, (fun a h => nomatch h), (fun a o h => nomatch h)⟩, fun _ => [], fun i e h => ?_, fun i a _ h => (nomatch h), fun i j a _ _ h => (nomatch h), fun i a _ h => (nomatch h)⟩
  · unfold startG L2.start
    simp [r.length]
  · rcases startG_at h with h | h
    · rw [List.getElem?_map] at h
      cases e2 : ds[i]? with
      | none => rw [e2] at h; cases h
      | some d =>
        rw [e2] at h
        cases h
        obtain ⟨v, hv, rv⟩ := r.getD e2
        exact ⟨rfl, v, start_at hv, rv⟩
    · subst h
      rfl
/-- a body by data -/
theorem spP_body {K : PySem.W.Frag} {N : List Str} {t : TS} {vs : List V} {H : Hp} {Q : VK} {E : XK}
    (b : ∀ (F0 H0 : Hp) (ds : List D), pre ds → wps ⟨K, F0, H0, [], []⟩ t (startG N.length (ds.map .d)) (fun _ => post ds .non) (fun _ d => post ds d)) (h : spP K pre post vs H Q E) : t { nx := fun _ H' => Q .non H', rt := Q } (start N vs) H := by
  obtain ⟨F, ds, fh, r, p, q⟩ := h
  have fin : ∀ {G' σ' F' H'}, As ⟨K, F, H, [], []⟩ G' σ' F' H' → Same H H' ∧ Same F' (ext F H H') := fun {G' σ' F' H'} A => by
    refine ⟨fun b o e => A.base.keep b o (by simp) e, fun b o e => ?_⟩
    have e' := A.base.fh b o e
    rcases A.base.src b o e with z | z
    · rw [ext_some (fh b o z)]; exact z
    · rw [ext_none z]; exact e'
  refine b F H ds p _ F H _ (as_data fh r) (fun G' σ' F' H' s A z => ?_) fun G' σ' v d F' H' s A rv z => ?_
  · exact q _ _ _ (fin A).1 .non z
  · exact q _ _ _ (fin A).1 (rv.mono (fin A).2) z
theorem spR_body {K : PySem.W.Frag} {N : List Str} {t : TS} {vs : List V} {H : Hp} {Q : VK} {E : XK}
    (b : ∀ (F0 H0 : Hp) (p c : Addr) (ds : List D), pre ds → wps ⟨K, F0, H0, [p, c], []⟩ t (startG N.length (.dr p c :: ds.map .d)) (fun G => G[0]? = some (.dr p c) ∧ post ds .non) (fun G d => G[0]? = some (.dr p c) ∧ post ds d)) (h : spR K pre post vs H Q E) : t { nx := fun _ H' => Q .non H', rt := Q } (start N vs) H := by
  obtain ⟨p, c, ws, F, ds, rfl, fh, fp, fc, hd, r, pr, q⟩ := h
  obtain ⟨npc, i0, m0, ns0, hp, hc, hr⟩ := id hd
  have A0 : As ⟨K, F, H, [p, c], []⟩ (startG N.length (.dr p c :: ds.map .d)) (start N (.ref p :: ws)) F H := by
    refine ⟨?_, ⟨Same.refl _, fh, fun a o h => .inl h, fun a o _ h => h, fun a h => ?_, fun a o h => (nomatch h)⟩, fun i => if i = 0 then [p, c] else [], fun i e h => ?_, fun i a _ h => ?_, fun i j a _ _ h1 h2 => ?_, fun i a _ _ o h => (nomatch h)⟩
    · unfold startG L2.start
      simp [r.length]
    · rcases List.mem_cons.mp h with rfl | h
      · exact ⟨fp, by rw [hp]; exact fun z => nomatch z⟩
      · obtain rfl : a = c := by simpa using h
        exact ⟨fc, by rw [hc]; exact fun z => nomatch z⟩
    · rcases startG_at h with h | h
      · cases i with
        | zero =>
          cases h
          exact ⟨rfl, start_at rfl, hd⟩
        | succ i =>
          rw [List.getElem?_cons_succ, List.getElem?_map] at h
          cases e2 : ds[i]? with
          | none => rw [e2] at h; cases h
          | some d =>
            rw [e2] at h
            cases h
            obtain ⟨v, hv, rv⟩ := r.getD e2
            exact ⟨rfl, v, start_at hv, rv⟩
      · subst h
        cases i with
        | zero =>
          unfold startG at h
          cases h
        | succ i => rfl
    · dsimp only at h
      split at h
      · rcases List.mem_cons.mp h with rfl | h
        · exact ⟨fp, by rw [hp]; exact (fun z => nomatch z), .inl (by simp)⟩
        · obtain rfl : a = c := by simpa using h
          exact ⟨fc, by rw [hc]; exact (fun z => nomatch z), .inl (by simp)⟩
      · cases h
    · dsimp only at h1 h2
      split at h1
      · split at h2
        · omega
        · cases h2
      · cases h1
  have fin : ∀ {G' σ' F' H'}, As ⟨K, F, H, [p, c], []⟩ G' σ' F' H' → G'[0]? = some (.dr p c) → (∀ b o, b ≠ p → b ≠ c → H b = some o → H' b = some o) ∧ Dr H' p c ∧ Same F' (ext F H H') := fun {G' σ' F' H'} A e0 => by
    refine ⟨fun b o h1 h2 e => A.base.keep b o (by simp [h1, h2]) e, (A.drw e0).2.1, fun b o e => ?_⟩
    have e' := A.base.fh b o e
    rcases A.base.src b o e with z | z
    · rw [ext_some (fh b o z)]; exact z
    · rw [ext_none z]; exact e'
  refine b F H p c ds pr _ F H _ A0 (fun G' σ' F' H' s A z => ?_) fun G' σ' v d F' H' s A rv z => ?_
  · obtain ⟨h1, h2, h3⟩ := fin A z.1
    exact q _ _ _ h1 h2 .non z.2
  · obtain ⟨h1, h2, h3⟩ := fin A z.1
    exact q _ _ _ h1 h2 (rv.mono h3) z.2
/-- a thing of one's own whose value is its address -/
def AtRef {S : Type} (own : Addr → S → OwnP) : Prop := ∀ a s F H v qs, (own a s).ok F H v qs → v = .ref a
theorem spO_body {S : Type} {own : Addr → S → OwnP} (at_ : AtRef own) {pre : S → List D → Prop} {post : S → List D → D → S → Prop} {K : PySem.W.Frag} {N : List Str} {t : TS} {vs : List V} {H : Hp} {Q : VK} {E : XK}
    (b : ∀ (F0 H0 : Hp) (O : List Addr) (a : Addr) (s : S) (ds : List D), pre s ds → wps ⟨K, F0, H0, O, []⟩ t (startG N.length (.o (own a s) :: ds.map .d)) (fun G => ∃ s', G[0]? = some (.o (own a s')) ∧ post s ds .non s') (fun G d => ∃ s', G[0]? = some (.o (own a s')) ∧ post s ds d s'))
    (h : spO K own pre post vs H Q E) : t { nx := fun _ H' => Q .non H', rt := Q } (start N vs) H := by
  obtain ⟨a, ws, F, ds, s, qs, rfl, fh, fq, ok, r, pr, q⟩ := h
  have A0 : As ⟨K, F, H, qs, []⟩ (startG N.length (.o (own a s) :: ds.map .d)) (start N (.ref a :: ws)) F H := by
    refine ⟨?_, ⟨Same.refl _, fh, fun a o h => .inl h, fun a o _ h => h, fq, fun a o h => (nomatch h)⟩, fun i => if i = 0 then qs else [], fun i e h => ?_, fun i b _ h => ?_, fun i j b _ _ h1 h2 => ?_, fun i a _ _ o h => (nomatch h)⟩
    · unfold startG L2.start
      simp [r.length]
    · rcases startG_at h with h | h
      · cases i with
        | zero =>
          cases h
          exact ⟨.ref a, start_at rfl, ok⟩
        | succ i =>
          rw [List.getElem?_cons_succ, List.getElem?_map] at h
          cases e2 : ds[i]? with
          | none => rw [e2] at h; cases h
          | some d =>
            rw [e2] at h
            cases h
            obtain ⟨v, hv, rv⟩ := r.getD e2
            exact ⟨rfl, v, start_at hv, rv⟩
      · subst h
        cases i with
        | zero =>
          unfold startG at h
          cases h
        | succ i => rfl
    · dsimp only at h
      split at h
      · exact ⟨(fq b h).1, (fq b h).2, .inl h⟩
      · cases h
    · dsimp only at h1 h2
      split at h1
      · split at h2
        · omega
        · cases h2
      · cases h1
  have fin : ∀ {G' σ' F' H' s'}, As ⟨K, F, H, qs, []⟩ G' σ' F' H' → G'[0]? = some (.o (own a s')) → ∃ qs', (∀ b u, b ∉ qs → H b = some u → H' b = some u) ∧ (∀ b, b ∈ qs → H' b ≠ none) ∧ (∀ a, a ∈ qs' → (a ∈ qs ∨ H a = none) ∧ H' a ≠ none) ∧ (own a s').ok (extBut F H H' qs') H' (.ref a) qs' ∧ Same F' (extBut F H H' qs') := fun {G' σ' F' H' s'} A e0 => by
    obtain ⟨q', O⟩ := A.get
    have hi := (List.getElem?_eq_some_iff.mp e0).1
    obtain ⟨v, _, hok⟩ := O.ok 0 _ e0
    obtain rfl := at_ _ _ _ _ _ _ hok
    have sm : Same F' (extBut F H H' (q' 0)) := fun b o e => by
      have e' := A.base.fh b o e
      unfold extBut
      rw [if_neg (fun z => by rw [(O.at_ 0 b hi z).1] at e; cases e)]
      rcases A.base.src b o e with z | z
      · rw [ext_some (fh b o z)]; exact z
      · rw [ext_none z]; exact e'
    exact ⟨q' 0, fun b u hb e => A.base.keep b u hb e, fun b hb => (A.base.own b hb).2, fun b hb => ⟨(O.at_ 0 b hi hb).2.2, (O.at_ 0 b hi hb).2.1⟩, (own a s').step sm (fun _ _ _ e => e) hok, sm⟩
  refine b F H qs a s ds pr _ F H _ A0 (fun G' σ' F' H' s A z => ?_) fun G' σ' v d F' H' s A rv z => ?_
  · obtain ⟨s', e0, ps⟩ := z
    obtain ⟨qs', k1, k2, k3, k4, _⟩ := fin A e0
    exact q _ _ s' _ qs' k1 k2 k3 k4 .non ps
  · obtain ⟨s', e0, ps⟩ := z
    obtain ⟨qs', k1, k2, k3, k4, sm⟩ := fin A e0
    exact q _ _ s' _ qs' k1 k2 k3 k4 (rv.mono sm) ps

/-! ### fields of known instances -/
theorem look_zip {K : PySem.W.Frag} {F : Hp} {f : Str} : ∀ {ns : List Str} {vs : List V} {ds : List D} {d : D}, RpL K F vs ds → (ns.zip ds).lookup f = some d → ∃ v, (ns.zip vs).lookup f = some v ∧ Rp K F v d
  | [], _, _, _, _, h => by simp at h
  | n :: ns, _, _, _, .nil, h => by simp at h
  | n :: ns, v :: vs, e :: ds, d, .cons r t, h => by
    rw [List.zip_cons_cons, List.lookup_cons] at h ⊢
    cases z : f == n with
    | true =>
      rw [z] at h
      cases h
      exact ⟨v, rfl, r⟩
    | false =>
      rw [z] at h
      exact look_zip t h
theorem look_none {f : Str} : ∀ {ns : List Str} {vs : List V}, f ∉ ns → (ns.zip vs).lookup f = none
  | [], _, _ => by simp
  | n :: ns, [], _ => by simp
  | n :: ns, v :: vs, h => by
    rw [List.zip_cons_cons, List.lookup_cons]
    have : (f == n) = false := beq_eq_false_iff_ne.mpr (fun e => h (by simp [e]))
    rw [this]
    exact look_none fun z => h (by simp [z])
theorem wp_fld {f : Str} {C : Addr} (c : Cls w.K C) (n : NoAttr w.K C f) (h : wp w te G fun x => ∃ ns xs d, x = .obj C ns xs ∧ (ns.zip xs).lookup f = some d ∧ Q d) : wp w (tFld w.K te f) G Q := fun σ F H A k z =>
  h σ F H A _ fun v x F1 H1 s1 A1 r1 q => by
    obtain ⟨ns, xs, d, rfl, hl, q⟩ := q
    cases r1 with
    | obj e hz r =>
      obtain ⟨v, hv, rv⟩ := look_zip r hl
      exact ⟨_, C, _, _, v, rfl, A1.fh _ _ e, c, n, hv, z v d F1 H1 s1 A1 rv q⟩
/-- x.m(..) of a known instance -/
theorem wp_methP {C : Addr} {m : Str} (h : wp w te G fun x => ∃ ns xs, x = .obj C ns xs ∧ m ∉ ns ∧ wpa w tas G fun ds => pre (x :: ds) ∧ ∀ d, post (x :: ds) d → Q d) : wp w (tMeth C m (spP w.K pre post) [] E te tas) G Q := fun σ F H A k z =>
  h σ F H A _ fun v x F1 H1 s1 A1 r1 q => by
    obtain ⟨ns, xs, rfl, hm, q⟩ := q
    cases id r1 with
    | obj e hz r =>
      rename_i a dx vs
      refine ⟨a, dx, _, rfl, A1.fh _ _ e, look_none hm, q σ F1 H1 A1 _ fun us ds F2 H2 s2 A2 r2 q2 => ?_⟩
      rw [List.append_nil]
      exact ⟨F2, _, A2.fh, .cons (r1.mono s2) r2, q2.1, fun v d H' s r p => z v d _ H' ((s1.trans s2).trans A2.same) (A2.step s) r (q2.2 d p)⟩
/-- x.p, a property of a known instance -/
theorem wp_propP {C : Addr} (h : wp w te G fun x => ∃ ns xs, x = .obj C ns xs ∧ pre [x] ∧ ∀ d, post [x] d → Q d) : wp w (tProp C (spP w.K pre post) [] E te) G Q := fun σ F H A k z =>
  h σ F H A _ fun v x F1 H1 s1 A1 r1 q => by
    obtain ⟨ns, xs, rfl, q⟩ := q
    cases id r1 with
    | obj e hz r =>
      rename_i a dx vs
      exact ⟨a, dx, _, rfl, A1.fh _ _ e, F1, _, A1.fh, .one r1, q.1, fun v d H' s r p => z v d _ H' (s1.trans A1.same) (A1.step s) r (q.2 d p)⟩

/-! ### instances that are being made -/
/-- an instance of the class at C, at a, with these fields -/
def obP (K : PySem.W.Frag) (C : Addr) (a : Addr) (s : List Str × List D) : OwnP where
  ok := fun F H v qs => v = .ref a ∧ ∃ dx vs, qs = [a] ∧ H a = some (.ins C dx (s.1.zip vs)) ∧ s.1.length = vs.length ∧ RpL K F vs s.2
  step := fun {F F' H H' v qs} f k h => by
    obtain ⟨rfl, dx, vs, rfl, h1, h2, h3⟩ := h
    exact ⟨rfl, dx, vs, rfl, k _ _ (by simp) h1, h2, h3.mono f⟩
theorem obP_at {K : PySem.W.Frag} {C : Addr} : AtRef (obP K C) := fun a s F H v qs h => h.1
theorem putF_new {f : Str} {y : V} : ∀ {ns : List Str} {vs : List V}, ns.length = vs.length → f ∉ ns → putF f y (ns.zip vs) = (ns ++ [f]).zip (vs ++ [y])
  | [], [], _, _ => rfl
  | [], v :: vs, h, _ => by simp at h
  | n :: ns, [], h, _ => by simp at h
  | n :: ns, v :: vs, h, hf => by
    have ih := putF_new (f := f) (y := y) (ns := ns) (vs := vs) (by simpa using h) (fun z => hf (by simp [z]))
    show (if n = f then (n, y) :: ns.zip vs else (n, v) :: putF f y (ns.zip vs)) = (n, v) :: (ns ++ [f]).zip (vs ++ [y])
    rw [if_neg (fun e => hf (by simp [e])), ih]
theorem putF_set {f : Str} {y : V} : ∀ {ns : List Str} {vs : List V} {j : Nat}, ns.Nodup → ns[j]? = some f → putF f y (ns.zip vs) = if j < vs.length then ns.zip (vs.set j y) else putF f y (ns.zip vs)
  | [], _, _, _, h => by simp at h
  | n :: ns, [], j, _, _ => by simp
  | n :: ns, v :: vs, 0, _, h => by
    simp at h
    subst h
    rw [if_pos (by simp)]
    show (if n = n then (n, y) :: ns.zip vs else _) = _
    rw [if_pos rfl]
    rfl
  | n :: ns, v :: vs, j + 1, hn, h => by
    simp at h
    have ne : n ≠ f := fun e => by
      subst e
      exact (List.nodup_cons.mp hn).1 (List.mem_of_getElem? h)
    have ih := putF_set (y := y) (vs := vs) (List.nodup_cons.mp hn).2 h
    by_cases hj : j < vs.length
    · rw [if_pos hj] at ih
      rw [if_pos (by simpa using hj)]
      show (if n = f then _ else (n, v) :: putF f y (ns.zip vs)) = (n, v) :: ns.zip (vs.set j y)
      rw [if_neg ne, ih]
    · rw [if_neg (by simpa using hj)]
theorem extBut_self {F H : Hp} {a : Addr} {o : HO} (fh : Same F H) (fa : F a = none) (ha : H a ≠ none) : extBut F H (upd H a o) [a] = F := by
  funext b
  unfold extBut
  by_cases e : b = a
  · subst e
    rw [if_pos (by simp)]
    exact fa.symm
  · rw [if_neg (by simpa using e)]
    cases q : H b with
    | none =>
      rw [ext_none q, upd_ne e, q]
      cases z : F b with
      | none => rfl
      | some u => rw [fh b u z] at q; cases q
    | some u => rw [ext_some q]
variable {N : List Ent → Prop} {R : List Ent → D → Prop} {tv : TE}
/-- self.f = e, a new field -/
theorem wps_fldN {i : Nat} {C a : Addr} {ns : List Str} {xs : List D} {f : Str} (c : Cls w.K C) (na : NoAttr w.K C f) (e : G[i]? = some (.o (obP w.K C a (ns, xs)))) (hn : f ∉ ns) (hz : ns.length < 1000)
    (h : wp w tv G fun d => N (G.set i (.o (obP w.K C a (ns ++ [f], xs ++ [d]))))) : wps w (sFld w.K (tVar i) tv f) G N R := fun σ F H E A n r =>
  h σ F H A _ fun y d F1 H1 s1 A1 r1 q => by
    obtain ⟨v, qs, h1, ⟨rfl, dx, vs, rfl, h2, h3, h4⟩, h5, up⟩ := A1.own1 e
    refine ⟨.ref a, h1, a, C, dx, _, rfl, h2, c, na, by rw [List.length_zip]; show min ns.length vs.length < 1000; omega, ?_⟩
    have ha := (h5 a (by simp)).2
    have fa := (h5 a (by simp)).1
    have eF : extBut F1 H1 (upd H1 a (.ins C dx (putF f y (ns.zip vs)))) [a] = F1 := extBut_self A1.fh fa ha
    obtain ⟨A2, s2⟩ := up (obP w.K C a (ns ++ [f], xs ++ [d])) (upd H1 a (.ins C dx (putF f y (ns.zip vs)))) [a] (fun b u hb e => by rw [upd_ne (by simpa using hb)]; exact e)
      (fun b hb => by obtain rfl : b = a := by simpa using hb
                      rw [upd_same]; exact fun z => nomatch z)
      (fun b hb => by obtain rfl : b = a := by simpa using hb
                      exact ⟨.inl (by simp), by rw [upd_same]; exact fun z => nomatch z⟩)
      ⟨rfl, dx, vs ++ [y], rfl, by rw [putF_new h3 hn]; exact upd_same, by simp [h3], by rw [eF]; exact h4.append (.one r1)⟩
    exact n _ _ _ _ (s1.trans s2) A2 q
/-- self.f = e, a field that is there -/
theorem wps_fldS {i j : Nat} {C a : Addr} {ns : List Str} {xs : List D} {f : Str} (c : Cls w.K C) (na : NoAttr w.K C f) (e : G[i]? = some (.o (obP w.K C a (ns, xs)))) (hn : ns.Nodup) (hj : ns[j]? = some f) (hz : ns.length < 1000)
    (h : wp w tv G fun d => N (G.set i (.o (obP w.K C a (ns, xs.set j d))))) : wps w (sFld w.K (tVar i) tv f) G N R := fun σ F H E A n r =>
  h σ F H A _ fun y d F1 H1 s1 A1 r1 q => by
    obtain ⟨v, qs, h1, ⟨rfl, dx, vs, rfl, h2, h3, h4⟩, h5, up⟩ := A1.own1 e
    refine ⟨.ref a, h1, a, C, dx, _, rfl, h2, c, na, by rw [List.length_zip]; show min ns.length vs.length < 1000; omega, ?_⟩
    have ha := (h5 a (by simp)).2
    have fa := (h5 a (by simp)).1
    have eF : extBut F1 H1 (upd H1 a (.ins C dx (putF f y (ns.zip vs)))) [a] = F1 := extBut_self A1.fh fa ha
    have hjl : j < vs.length := by
      have h3' : ns.length = vs.length := h3
      rw [← h3']; exact (List.getElem?_eq_some_iff.mp hj).1
    have ep : putF f y (ns.zip vs) = ns.zip (vs.set j y) := by
      have := putF_set (y := y) (vs := vs) hn hj
      rw [if_pos hjl] at this
      exact this
    obtain ⟨A2, s2⟩ := up (obP w.K C a (ns, xs.set j d)) (upd H1 a (.ins C dx (putF f y (ns.zip vs)))) [a] (fun b u hb e => by rw [upd_ne (by simpa using hb)]; exact e)
      (fun b hb => by obtain rfl : b = a := by simpa using hb
                      rw [upd_same]; exact fun z => nomatch z)
      (fun b hb => by obtain rfl : b = a := by simpa using hb
                      exact ⟨.inl (by simp), by rw [upd_same]; exact fun z => nomatch z⟩)
      ⟨rfl, dx, vs.set j y, rfl, by rw [ep]; exact upd_same, by rw [List.length_set]; exact h3, by rw [eF]; exact h4.set r1 j⟩
    exact n _ _ _ _ (s1.trans s2) A2 q
/-- C(..): an instance that is known from then on -/
theorem wp_make {C : Addr} {pre : List Str × List D → List D → Prop} {post : List Str × List D → List D → D → List Str × List D → Prop} (h : wpa w tas G fun ds => pre ([], []) ds ∧ ∀ d s', post ([], []) ds d s' → d = .non ∧ Q (.obj C s'.1 s'.2)) :
    wp w (tMake C (spO w.K (obP w.K C) pre post) [] E tas) G Q := fun σ F H A k z =>
  h σ F H A _ fun vs ds F1 H1 s1 A1 r1 q x dx hx hd hne => by
    have nx : upd H1 dx (.own x) x = none := by rw [upd_ne (Ne.symm hne)]; exact hx
    have fx : F1 x = none := A1.fh.free hx
    have fd : F1 dx = none := A1.fh.free hd
    have s2 : Same H1 (upd (upd H1 dx (.own x)) x (.ins C dx [])) := (same_new hd).trans (same_new nx)
    refine ⟨x, vs, F1, ds, ([], []), [x], by rw [List.append_nil], A1.fh.trans s2, fun a ha => ?_, ⟨rfl, dx, [], rfl, upd_same, rfl, .nil⟩, r1, q.1, fun r d s' H' qs' k1 k2 k3 ok rr ps => ?_⟩
    · obtain rfl : a = x := by simpa using ha
      exact ⟨fx, by rw [upd_same]; exact fun z => nomatch z⟩
    · obtain ⟨rfl, hq⟩ := q.2 d s' ps
      cases rr
      obtain ⟨_, dx', us, rfl, e1, e2, e3⟩ := ok
      have s3 : Same H1 H' := fun b o e => k1 b o (fun z => by
        obtain rfl : b = x := by simpa using z
        rw [hx] at e; cases e) (s2 b o e)
      have sE : Same (extBut F1 (upd (upd H1 dx (.own x)) x (.ins C dx [])) H' [x]) (ext F1 H1 H') := fun b o e => by
        unfold extBut at e
        split at e
        · cases e
        · cases z : H1 b with
          | none =>
            rw [ext_none z]
            cases y : (upd (upd H1 dx (.own x)) x (.ins C dx [])) b with
            | none => rwa [ext_none y] at e
            | some u =>
              rw [ext_some y] at e
              rw [A1.fh b o e] at z; cases z
          | some u =>
            rw [ext_some (s2 b u z)] at e
            rw [ext_some z]; exact e
      refine ⟨rfl, z _ _ _ H' (s1.trans A1.same) (A1.step s3) (.obj (dx := dx') (vs := us) ?_ e2 (e3.mono sE)) hq⟩
      rw [ext_none hx]
      exact e1
end
end Sd
set_option Elab.async false
set_option linter.all false
set_option maxRecDepth 100000
set_option maxHeartbeats 4000000
/-! Sd5: the forms one uses. -/
namespace Sd
open PySem PySem.Spec L2
open PyProof.Rows (envOfC)

theorem ite_b {b : Bool} {A B : Prop} (h1 : b = true → A) (h2 : b = false → B) : if b = true then A else B := by
  cases b with
  | true => exact iteT (h1 rfl)
  | false => exact iteF (h2 rfl)
theorem ite_t {b : Bool} {A B : Prop} (hb : b = true) (h : A) : if b = true then A else B := by rw [if_pos hb]; exact h
theorem ite_f {b : Bool} {A B : Prop} (hb : b = false) (h : B) : if b = true then A else B := by rw [hb]; exact iteF h

/-! ### promises of one, two, three data -/
def pre0 : List D → Prop
  | [] => True
  | _ => False
def pre1 (p : D → Prop) : List D → Prop
  | [a] => p a
  | _ => False
def pre2 (p : D → D → Prop) : List D → Prop
  | [a, b] => p a b
  | _ => False
def pre3 (p : D → D → D → Prop) : List D → Prop
  | [a, b, c] => p a b c
  | _ => False
def pre4 (p : D → D → D → D → Prop) : List D → Prop
  | [a, b, c, d] => p a b c d
  | _ => False
def post0 (q : D → Prop) : List D → D → Prop
  | [], r => q r
  | _, _ => False
def post1 (q : D → D → Prop) : List D → D → Prop
  | [a], r => q a r
  | _, _ => False
def post2 (q : D → D → D → Prop) : List D → D → Prop
  | [a, b], r => q a b r
  | _, _ => False
def post3 (q : D → D → D → D → Prop) : List D → D → Prop
  | [a, b, c], r => q a b c r
  | _, _ => False
def post4 (q : D → D → D → D → D → Prop) : List D → D → Prop
  | [a, b, c, d], r => q a b c d r
  | _, _ => False
theorem pre1_inv {p : D → Prop} : ∀ {ds : List D}, pre1 p ds → ∃ a, ds = [a] ∧ p a
  | [a], h => ⟨a, rfl, h⟩
  | [], h => h.elim
  | _ :: _ :: _, h => h.elim
theorem pre2_inv {p : D → D → Prop} : ∀ {ds : List D}, pre2 p ds → ∃ a b, ds = [a, b] ∧ p a b
  | [a, b], h => ⟨a, b, rfl, h⟩
  | [], h => h.elim
  | [_], h => h.elim
  | _ :: _ :: _ :: _, h => h.elim
theorem pre3_inv {p : D → D → D → Prop} : ∀ {ds : List D}, pre3 p ds → ∃ a b c, ds = [a, b, c] ∧ p a b c
  | [a, b, c], h => ⟨a, b, c, rfl, h⟩
  | [], h => h.elim
  | [_], h => h.elim
  | [_, _], h => h.elim
  | _ :: _ :: _ :: _ :: _, h => h.elim
theorem pre4_inv {p : D → D → D → D → Prop} : ∀ {ds : List D}, pre4 p ds → ∃ a b c d, ds = [a, b, c, d] ∧ p a b c d
  | [a, b, c, d], h => ⟨a, b, c, d, rfl, h⟩
  | [], h => h.elim
  | [_], h => h.elim
  | [_, _], h => h.elim
  | [_, _, _], h => h.elim
  | _ :: _ :: _ :: _ :: _ :: _, h => h.elim
theorem pre0_inv : ∀ {ds : List D}, pre0 ds → ds = []
  | [], _ => rfl
  | _ :: _, h => h.elim

section
variable {P : Program} {wd : World} {K : PySem.W.Frag} {mg : Str → Option Value} {base : Heap}
/-- a def by data: its body's derivation, and what it does -/
theorem fn_P {pre : List D → Prop} {post : List D → D → Prop} {x qual : Str} {st : Stmt} {f : Addr} {fd : FuncData} {N ps : List Str} {k : Nat} (F : Fun K x qual st f fd) (S : FnScope N ps (defScope st)) (hl : ∀ ds, pre ds → ds.length = ps.length)
    (b : ∀ (cdv : Value) (A : Around) (outer : List Env) (s : Shared) (H : Hp) (E : XK), Room k (A.deeper (envOfC qual (defScope st) s.heap.objs.size f cdv)) →
      ∃ t, PSs (cxOf CX0 P wd K mg base N qual (defScope st) f cdv A outer s H E).nox (defBody st) t ∧ ∀ (F0 H0 : Hp) (ds : List D), pre ds → wps ⟨K, F0, H0, [], []⟩ t (startG N.length (ds.map .d)) (fun _ => post ds .non) (fun _ d => post ds d)) :
    FnOk P wd K mg base CX0 (k + 1) f fd ps (spP K pre post) :=
  F.ok S (fun vs H Q E ⟨_, ds, _, r, p, _⟩ => r.length.trans (hl ds p)) fun cdv A outer s H vs Q E hr h => by
    obtain ⟨t, ht, q⟩ := b cdv A outer s H E hr
    exact ⟨t, ht, spP_body q h⟩
theorem fn_R {pre : List D → Prop} {post : List D → D → Prop} {x qual : Str} {st : Stmt} {f : Addr} {fd : FuncData} {N ps : List Str} {k : Nat} (F : Fun K x qual st f fd) (S : FnScope N ps (defScope st)) (hl : ∀ ds, pre ds → ds.length + 1 = ps.length)
    (b : ∀ (cdv : Value) (A : Around) (outer : List Env) (s : Shared) (H : Hp) (E : XK), Room k (A.deeper (envOfC qual (defScope st) s.heap.objs.size f cdv)) →
      ∃ t, PSs (cxOf CX0 P wd K mg base N qual (defScope st) f cdv A outer s H E).nox (defBody st) t ∧ ∀ (F0 H0 : Hp) (p c : Addr) (ds : List D), pre ds → wps ⟨K, F0, H0, [p, c], []⟩ t (startG N.length (.dr p c :: ds.map .d)) (fun G => G[0]? = some (.dr p c) ∧ post ds .non) (fun G d => G[0]? = some (.dr p c) ∧ post ds d)) :
    FnOk P wd K mg base CX0 (k + 1) f fd ps (spR K pre post) :=
  F.ok S (fun vs H Q E ⟨_, _, ws, _, ds, e, _, _, _, _, r, p, _⟩ => by rw [e, ← hl ds p, ← r.length]; rfl) fun cdv A outer s H vs Q E hr h => by
    obtain ⟨t, ht, q⟩ := b cdv A outer s H E hr
    exact ⟨t, ht, spR_body q h⟩
theorem fn_O {S' : Type} {own : Addr → S' → OwnP} (at_ : AtRef own) {pre : S' → List D → Prop} {post : S' → List D → D → S' → Prop} {x qual : Str} {st : Stmt} {f : Addr} {fd : FuncData} {N ps : List Str} {k : Nat} (F : Fun K x qual st f fd) (S : FnScope N ps (defScope st)) (hl : ∀ s ds, pre s ds → ds.length + 1 = ps.length)
    (b : ∀ (cdv : Value) (A : Around) (outer : List Env) (s : Shared) (H : Hp) (E : XK), Room k (A.deeper (envOfC qual (defScope st) s.heap.objs.size f cdv)) →
      ∃ t, PSs (cxOf CX0 P wd K mg base N qual (defScope st) f cdv A outer s H E).nox (defBody st) t ∧ ∀ (F0 H0 : Hp) (O : List Addr) (a : Addr) (s : S') (ds : List D), pre s ds → wps ⟨K, F0, H0, O, []⟩ t (startG N.length (.o (own a s) :: ds.map .d)) (fun G => ∃ s', G[0]? = some (.o (own a s')) ∧ post s ds .non s') (fun G d => ∃ s', G[0]? = some (.o (own a s')) ∧ post s ds d s')) :
    FnOk P wd K mg base CX0 (k + 1) f fd ps (spO K own pre post) :=
  F.ok S (fun vs H Q E ⟨_, ws, _, ds, s, _, e, _, _, _, r, p, _⟩ => by rw [e, ← hl s ds p, ← r.length]; rfl) fun cdv A outer s H vs Q E hr h => by
    obtain ⟨t, ht, q⟩ := b cdv A outer s H E hr
    exact ⟨t, ht, spO_body at_ q h⟩
end

section
variable {w : Wd} {G : List Ent} {Q : D → Prop} {te ta tb : TE} {tt : TT} {tas : TA} {i j : Nat}
/-! ### constants of the module -/
theorem wp_glob {v : V} {d : D} (r : ∀ F, Rp w.K F v d) (q : Q d) : wp w (tC v) G Q := fun σ F H A k z => z _ _ F H (Same.refl _) A (r F) q

/-! ### isinstance -/
def tyD : D → Value
  | .non => .type "NoneType"
  | .bl _ => .type "bool"
  | .int _ => .type "int"
  | .str _ => .type "str"
  | .tup _ => .type "tuple"
  | .lst _ => .type "list"
  | .obj C _ _ => .ref C
  | .dic => .type "dict"
/-- what isinstance asks of an own class -/
structure IsC (K : PySem.W.Frag) (C : Addr) : Prop where
  cl : Cls K C
  ha : PySem.W.findIn K (.ref C) "__class__" = some (some (.builtin "object.__class__"))
  hn : PySem.W.specialIn K (.builtin "object.__class__") "__get__" = some (some (.builtin "getset_descriptor.__get__"))
  htk : PySem.W.takesIn K (.builtin "object.__class__") = some true
  hm : PySem.W.mroIn K C (.type "object") = some true
def noObj : D → Bool
  | .obj .. => false
  | _ => true
theorem tyX_of {K : PySem.W.Frag} {F H : Hp} {v : V} {d : D} (s : Same F H) (r : Rp K F v d) (h : ∀ C ns ds, d = .obj C ns ds → IsC K C) : TyX K H v (tyD d) := by
  cases r with
  | non => exact .base .non
  | bl b => exact .base (.bl b)
  | int i => exact .base (.int i)
  | str x => exact .base (.str x)
  | tup e r => exact .base (.tup (s _ _ e))
  | lst e r => exact .base (.lst (s _ _ e))
  | obj e hl r =>
    have c := h _ _ _ rfl
    exact .base (.ins (s _ _ e) c.cl c.ha c.hn c.htk c.hm)
  | dic e => exact .base (.dK (s _ _ e))
/-- isinstance(x, T) -/
theorem wp_isi {T : String} (h : wp w ta G fun x => (∀ C ns ds, x = .obj C ns ds → IsC w.K C) ∧ ∃ b, PySem.W.kitOne w.K (tyD x) (.type T) = some b ∧ Q (.bl b)) : wp w (tCB (rIsi w.K) (tCons ta (tCons (tC (.ty T)) tNil))) G Q := fun σ F H A k z =>
  h σ F H A _ fun v x F1 H1 s1 A1 r1 q => by
    obtain ⟨hc, b, e, q⟩ := q
    exact ⟨v, .ty T, _, _, b, rfl, .ty T, tyX_of A1.fh r1 hc, e, z _ _ F1 H1 s1 A1 (.bl b) q⟩
theorem wp_isiC {C : Addr} (h : wp w ta G fun x => (∀ C ns ds, x = .obj C ns ds → IsC w.K C) ∧ ∃ b, PySem.W.kitOne w.K (tyD x) (.ref C) = some b ∧ Q (.bl b)) : wp w (tCB (rIsi w.K) (tCons ta (tCons (tC (.ref C)) tNil))) G Q := fun σ F H A k z =>
  h σ F H A _ fun v x F1 H1 s1 A1 r1 q => by
    obtain ⟨hc, b, e, q⟩ := q
    exact ⟨v, .ref C, _, _, b, rfl, .own C, tyX_of A1.fh r1 hc, e, z _ _ F1 H1 s1 A1 (.bl b) q⟩
/-- isinstance(x, (T1, T2)) -/
theorem wp_isi2 {T1 T2 : String} (h : wp w ta G fun x => (∀ C ns ds, x = .obj C ns ds → IsC w.K C) ∧ ∃ b, PySem.W.kitAny w.K (tyD x) [.type T1, .type T2] = some b ∧ Q (.bl b)) :
    wp w (tCB (rIsiT w.K) (tCons ta (tCons (tTup (tCons (tC (.ty T1)) (tCons (tC (.ty T2)) tNil))) tNil))) G Q := fun σ F H A k z =>
  h σ F H A _ fun v x F1 H1 s1 A1 r1 q => by
    obtain ⟨hc, b, e, q⟩ := q
    refine ⟨line_ok (by simp), fun p hp => ?_⟩
    have A2 := A1.new (o := .tup [.ty T1, .ty T2]) hp
    have hf := A1.fh.free hp
    exact ⟨v, p, [.ty T1, .ty T2], _, [.type T1, .type T2], b, rfl, upd_same, .cons (.ty T1) (.cons (.ty T2) .nil), tyX_of A2.fh (r1.mono (same_new hf)) hc, e, z _ _ _ _ (s1.trans (same_new hf)) A2 (.bl b) q⟩
/-- of a type: T, by its name -/
def isT (T : String) : D → Bool
  | .non => T == "NoneType"
  | .bl _ => T == "bool" || T == "int"
  | .int _ => T == "int"
  | .str _ => T == "str"
  | .tup _ => T == "tuple"
  | .lst _ => T == "list"
  | .dic => T == "dict"
  | .obj .. => false
/-! ### chains -/
theorem wp_chain {r r' : R2} {tc : TE} (h : wp w ta G fun x => wp w tb G fun y => R2D w.K r x y fun z => ∃ b, z = .bl b ∧ if b = true then wp w tc G fun u => R2D w.K r' y u Q else Q (.bl false)) : wp w (tChain r r' ta tb tc) G Q := fun σ F H A k z =>
  h σ F H A _ fun v x F1 H1 s1 A1 r1 h1 => h1 σ F1 H1 A1 _ fun u y F2 H2 s2 A2 r2 q =>
    q F2 H2 v u A2.fh (r1.mono s2) r2 _ fun z0 d H3 s3 r3 qd => by
      obtain ⟨b, rfl, qd⟩ := qd
      cases r3
      refine ⟨b, rfl, ?_⟩
      have A3 := A2.step s3
      cases b with
      | true =>
        refine iteT (qd σ _ H3 A3 _ fun u2 y2 F4 H4 s4 A4 r4 q4 => ?_)
        exact q4 F4 H4 u u2 A4.fh ((r2.mono A2.same).mono s4) r4 _ fun z1 d1 H5 s5 r5 q5 => z _ _ _ H5 ((((s1.trans s2).trans A2.same).trans s4).trans A4.same) (A4.step s5) r5 q5
      | false => exact iteF (z _ _ _ H3 ((s1.trans s2).trans A2.same) A3 (.bl false) qd)

/-! ### comprehensions over one name -/
theorem wpi.imp {wi : TI} {Q Q' : List D → Prop} (h : wpi w wi G Q) (i : ∀ ds, Q ds → Q' ds) : wpi w wi G Q' := fun σ F H A R z => h σ F H A R fun J ds F' H' s A' wk q => z J ds F' H' s A' wk (i ds q)
theorem wpl_lcN {wi : TI} {Q : List D → Prop} (hj : G[j]? = some .no)
    (h : wpi w wi G fun ds => ds.length ≤ 1000000 ∧ ∃ I : Nat → List D → Prop, I 0 [] ∧ (∀ i d acc a o, ds[i]? = some d → I i acc → wpt (w.push a o) tt (G.set j (.d d)) fun b =>
      if b = true then wp (w.push a o) te (G.set j (.d d)) fun y => I (i + 1) (acc ++ [y]) else I (i + 1) acc) ∧ ∀ acc, I ds.length acc → Q acc) :
    wpl w (tLc wi (gName j) tt te [j]) G Q := by
  refine wpl_lc (vs := [j]) (by rw [List.all_cons, hj]; rfl) (wpi.imp h fun ds q => ?_)
  obtain ⟨hl, I, i0, turn, fin⟩ := q
  exact ⟨hl, I, i0, fun i d acc a o hd hI => wpg_name (by simp) ⟨fun m hm => List.getElem?_set_ne (fun e => hm (by simp [e])), by simp, turn i d acc a o hd hI⟩, fin⟩
theorem wpl_lcNN {wi : TI} {j2 : Nat} {Q : List D → Prop} (hj : G[j]? = some .no) (hj2 : G[j2]? = some .no)
    (h : wpi w wi G fun ds => ds.length ≤ 1000000 ∧ ∃ I : Nat → List D → Prop, I 0 [] ∧ (∀ i d acc a o, ds[i]? = some d → I i acc → ∃ x y, d = .tup [x, y] ∧ wpt (w.push a o) tt ((G.set j (.d x)).set j2 (.d y)) fun b =>
      if b = true then wp (w.push a o) te ((G.set j (.d x)).set j2 (.d y)) fun y => I (i + 1) (acc ++ [y]) else I (i + 1) acc) ∧ ∀ acc, I ds.length acc → Q acc) :
    wpl w (tLc wi (gTup w.K 2 (gCons (gName j) (gCons (gName j2) gNil))) tt te [j, j2]) G Q := by
  refine wpl_lc (vs := [j, j2]) (by rw [List.all_cons, List.all_cons, hj, hj2]; rfl) (wpi.imp h fun ds q => ?_)
  obtain ⟨hl, I, i0, turn, fin⟩ := q
  refine ⟨hl, I, i0, fun i d acc a o hd hI => ?_, fin⟩
  obtain ⟨x, y, e, t⟩ := turn i d acc a o hd hI
  refine wpg_tup e rfl (wpgs_cons (wpg_name (by simp) (wpgs_cons (wpg_name (by simp) (wpgs_nil ⟨fun m hm => ?_, by simp, t⟩)))))
  rw [List.getElem?_set_ne (fun e => hm (by simp [e])), List.getElem?_set_ne (fun e => hm (by simp [e]))]
/-- the same where each turn gives what f says -/
theorem wpl_map {wi : TI} {Q : List D → Prop} (f : D → D) (hj : G[j]? = some .no)
    (h : wpi w wi G fun ds => ds.length ≤ 1000000 ∧ (∀ d a o, d ∈ ds → wp (w.push a o) te (G.set j (.d d)) fun y => y = f d) ∧ Q (ds.map f)) : wpl w (tLc wi (gName j) tYes te [j]) G Q :=
  wpl_lcN hj (h.imp fun ds q => ⟨q.1, fun i acc => acc = (ds.take i).map f, rfl, fun i d acc a o hd hI => wpt_yes (iteT ((q.2.1 d a o (List.mem_of_getElem? hd)).imp fun y hy => by
    have hI' : acc = (ds.take i).map f := hI
    show acc ++ [y] = (ds.take (i + 1)).map f
    rw [hI', hy, List.take_add_one, hd, List.map_append]
    rfl)), fun acc hI => by
    have hI' : acc = (ds.take ds.length).map f := hI
    rw [List.take_of_length_le (Nat.le_refl _)] at hI'
    rw [hI']
    exact q.2.2⟩)
theorem wpl_map2 {wi : TI} {j2 : Nat} {Q : List D → Prop} (f : D → D) (hj : G[j]? = some .no) (hj2 : G[j2]? = some .no)
    (h : wpi w wi G fun ds => ds.length ≤ 1000000 ∧ (∀ d a o, d ∈ ds → ∃ x y, d = .tup [x, y] ∧ wp (w.push a o) te ((G.set j (.d x)).set j2 (.d y)) fun y => y = f d) ∧ Q (ds.map f)) : wpl w (tLc wi (gTup w.K 2 (gCons (gName j) (gCons (gName j2) gNil))) tYes te [j, j2]) G Q :=
  wpl_lcNN hj hj2 (h.imp fun ds q => ⟨q.1, fun i acc => acc = (ds.take i).map f, rfl, fun i d acc a o hd hI => by
    obtain ⟨x, y, e, t⟩ := q.2.1 d a o (List.mem_of_getElem? hd)
    exact ⟨x, y, e, wpt_yes (iteT (t.imp fun y hy => by
      have hI' : acc = (ds.take i).map f := hI
      show acc ++ [y] = (ds.take (i + 1)).map f
      rw [hI', hy, List.take_add_one, hd, List.map_append]
      rfl))⟩, fun acc hI => by
    have hI' : acc = (ds.take ds.length).map f := hI
    rw [List.take_of_length_le (Nat.le_refl _)] at hI'
    rw [hI']
    exact q.2.2⟩)
theorem wpl_filter {wi : TI} {Q : List D → Prop} (p : D → Bool) (f : D → D) (hj : G[j]? = some .no)
    (h : wpi w wi G fun ds => ds.length ≤ 1000000 ∧ (∀ d a o, d ∈ ds → wpt (w.push a o) tt (G.set j (.d d)) fun b => b = p d ∧ (b = true → wp (w.push a o) te (G.set j (.d d)) fun y => y = f d)) ∧ Q ((ds.filter p).map f)) : wpl w (tLc wi (gName j) tt te [j]) G Q :=
  wpl_lcN hj (h.imp fun ds q => ⟨q.1, fun i acc => acc = ((ds.take i).filter p).map f, rfl, fun i d acc a o hd hI => (q.2.1 d a o (List.mem_of_getElem? hd)).imp fun b hb => by
    have step : (ds.take (i + 1)).filter p = (ds.take i).filter p ++ if p d = true then [d] else [] := by
      rw [List.take_add_one, hd, List.filter_append]
      congr 1
      show List.filter p [d] = _
      by_cases e : p d = true
      · rw [if_pos e, List.filter_cons_of_pos e]; rfl
      · rw [if_neg e, List.filter_cons_of_neg e]; rfl
    obtain ⟨e, t⟩ := hb
    cases b with
    | true =>
      refine iteT ((t rfl).imp fun y hy => ?_)
      show acc ++ [y] = ((ds.take (i + 1)).filter p).map f
      have hI' : acc = ((ds.take i).filter p).map f := hI
      rw [step, if_pos e.symm, List.map_append, hI', hy]
      rfl
    | false =>
      refine iteF ?_
      show acc = ((ds.take (i + 1)).filter p).map f
      have hI' : acc = ((ds.take i).filter p).map f := hI
      rw [step, if_neg (by rw [← e]; decide), List.append_nil, hI'], fun acc hI => by
    have hI' : acc = ((ds.take ds.length).filter p).map f := hI
    rw [List.take_of_length_le (Nat.le_refl _)] at hI'
    rw [hI']
    exact q.2.2⟩)
/-- each turn gives something of which p holds -/
theorem wpl_each {wi : TI} {Q : List D → Prop} (p : D → Prop) (hj : G[j]? = some .no)
    (h : wpi w wi G fun ds => ds.length ≤ 1000000 ∧ (∀ d a o, d ∈ ds → wp (w.push a o) te (G.set j (.d d)) p) ∧ ∀ ys, ys.length = ds.length → (∀ y, y ∈ ys → p y) → Q ys) : wpl w (tLc wi (gName j) tYes te [j]) G Q :=
  wpl_lcN hj (h.imp fun ds q => ⟨q.1, fun i acc => acc.length = i ∧ ∀ y, y ∈ acc → p y, ⟨rfl, fun _ h => nomatch h⟩, fun i d acc a o hd hI => wpt_yes (iteT ((q.2.1 d a o (List.mem_of_getElem? hd)).imp fun y hy =>
    ⟨by rw [List.length_append, hI.1]; rfl, fun z hz => by
      rcases List.mem_append.mp hz with hz | hz
      · exact hI.2 z hz
      · obtain rfl : z = y := by simpa using hz
        exact hy⟩)), fun acc hI => q.2.2 acc hI.1 hI.2⟩)
theorem wpl_each2 {wi : TI} {j2 : Nat} {Q : List D → Prop} (p : D → Prop) (hj : G[j]? = some .no) (hj2 : G[j2]? = some .no)
    (h : wpi w wi G fun ds => ds.length ≤ 1000000 ∧ (∀ d a o, d ∈ ds → ∃ x y, d = .tup [x, y] ∧ wp (w.push a o) te ((G.set j (.d x)).set j2 (.d y)) p) ∧ ∀ ys, ys.length = ds.length → (∀ y, y ∈ ys → p y) → Q ys) : wpl w (tLc wi (gTup w.K 2 (gCons (gName j) (gCons (gName j2) gNil))) tYes te [j, j2]) G Q :=
  wpl_lcNN hj hj2 (h.imp fun ds q => ⟨q.1, fun i acc => acc.length = i ∧ ∀ y, y ∈ acc → p y, ⟨rfl, fun _ h => nomatch h⟩, fun i d acc a o hd hI => by
    obtain ⟨x, y, e, t⟩ := q.2.1 d a o (List.mem_of_getElem? hd)
    exact ⟨x, y, e, wpt_yes (iteT (t.imp fun y hy =>
      ⟨by rw [List.length_append, hI.1]; rfl, fun z hz => by
        rcases List.mem_append.mp hz with hz | hz
        · exact hI.2 z hz
        · obtain rfl : z = y := by simpa using hz
          exact hy⟩))⟩, fun acc hI => q.2.2 acc hI.1 hI.2⟩)
end
end Sd
namespace Sd
open PySem PySem.Spec L2
theorem kit_bi {K : PySem.W.Frag} {d : D} {T : String} (hT : T ∈ ["str", "int", "bool", "tuple", "list", "dict"]) (h : noObj d = true) : PySem.W.kitOne K (tyD d) (.type T) = some (isT T d) := by
  simp only [List.mem_cons, List.not_mem_nil, or_false] at hT
  cases d with
  | non => rcases hT with rfl | rfl | rfl | rfl | rfl | rfl <;> first | exact kit_ty (r := true) (by decide +kernel) | exact kit_ty (r := false) (by decide +kernel)
  | bl b => rcases hT with rfl | rfl | rfl | rfl | rfl | rfl <;> first | exact kit_ty (r := true) (by decide +kernel) | exact kit_ty (r := false) (by decide +kernel)
  | int i => rcases hT with rfl | rfl | rfl | rfl | rfl | rfl <;> first | exact kit_ty (r := true) (by decide +kernel) | exact kit_ty (r := false) (by decide +kernel)
  | str x => rcases hT with rfl | rfl | rfl | rfl | rfl | rfl <;> first | exact kit_ty (r := true) (by decide +kernel) | exact kit_ty (r := false) (by decide +kernel)
  | tup xs => rcases hT with rfl | rfl | rfl | rfl | rfl | rfl <;> first | exact kit_ty (r := true) (by decide +kernel) | exact kit_ty (r := false) (by decide +kernel)
  | lst xs => rcases hT with rfl | rfl | rfl | rfl | rfl | rfl <;> first | exact kit_ty (r := true) (by decide +kernel) | exact kit_ty (r := false) (by decide +kernel)
  | obj C ns ds => cases h
  | dic => rcases hT with rfl | rfl | rfl | rfl | rfl | rfl <;> first | exact kit_ty (r := true) (by decide +kernel) | exact kit_ty (r := false) (by decide +kernel)
section
variable {w : Wd} {G : List Ent} {Q : D → Prop} {te ta tb : TE} {tt : TT} {tas : TA} {i j : Nat}
theorem wp_isiB {T : String} (hT : T ∈ ["str", "int", "bool", "tuple", "list", "dict"]) (h : wp w ta G fun x => noObj x = true ∧ Q (.bl (isT T x))) : wp w (tCB (rIsi w.K) (tCons ta (tCons (tC (.ty T)) tNil))) G Q :=
  wp_isi (h.imp fun d q => ⟨fun C ns ds e => by rw [e] at q; exact Bool.noConfusion (show false = true from q.1), _, kit_bi hT q.1, q.2⟩)
/-- a test whose answer is known -/
theorem wps_ifD {t u : TS} {N : List Ent → Prop} {R : List Ent → D → Prop} (b : Bool) (h : wpt w tt G fun c => c = b) (h1 : b = true → wps w t G N R) (h2 : b = false → wps w u G N R) : wps w (tIfS tt t u) G N R :=
  wps_if (h.imp fun c e => by rw [e]; exact ite_b h1 h2)
theorem wp_ifD (b : Bool) (h : wpt w tt G fun c => c = b) (h1 : b = true → wp w ta G Q) (h2 : b = false → wp w tb G Q) : wp w (tIf tt ta tb) G Q :=
  wp_if (h.imp fun c e => by rw [e]; exact ite_b h1 h2)
theorem wpt_orD {tu : TT} {b c : Bool} (h : wpt w tt G fun x => x = b) (h2 : b = false → wpt w tu G fun x => x = c) : wpt w (tOr tt tu) G fun x => x = (b || c) :=
  wpt_or (h.imp fun x e => by rw [e]; cases b with | true => exact iteT rfl | false => exact iteF ((h2 rfl).imp fun y e => by rw [e]; rfl))
theorem wpt_andD {tu : TT} {b c : Bool} (h : wpt w tt G fun x => x = b) (h2 : b = true → wpt w tu G fun x => x = c) : wpt w (tAnd tt tu) G fun x => x = (b && c) :=
  wpt_and (h.imp fun x e => by rw [e]; cases b with | false => exact iteF rfl | true => exact iteT ((h2 rfl).imp fun y e => by rw [e]; rfl))
theorem wpt_notD {b : Bool} (h : wpt w tt G fun x => x = b) : wpt w (tNot tt) G fun x => x = !b := wpt_not (h.imp fun x e => by rw [e])
end
end Sd
set_option Elab.async false
set_option linter.all false
set_option maxRecDepth 100000
set_option maxHeartbeats 4000000
/-! M1: what the checks of programs.py compute, by data. -/
namespace Sd
open PySem PySem.Spec L2

mutual
/-- no objects, texts and tuples of a usual size, signs that are signs -/
def okD : D → Bool
  | .str s => decide (s.length ≤ 1000000) && PyData.strOk s
  | .tup xs => decide (xs.length ≤ 1000000) && okL xs
  | .lst xs => decide (xs.length ≤ 1000000) && okL xs
  | .obj .. => false
  | .dic => false
  | _ => true
def okL : List D → Bool
  | [] => true
  | x :: xs => okD x && okL xs
end
mutual
def dep : D → Nat
  | .tup xs => depL xs + 1
  | .lst xs => depL xs + 1
  | _ => 0
def depL : List D → Nat
  | [] => 0
  | x :: xs => max (dep x) (depL xs)
end
def Ok (d : D) : Prop := okD d = true ∧ dep d ≤ 60
theorem okL_mem : ∀ {xs : List D} {x : D}, okL xs = true → x ∈ xs → okD x = true
  | [], _, _, h => nomatch h
  | y :: ys, x, h, hx => by
    have h' : okD y = true ∧ okL ys = true := by simpa [okL] using h
    rcases List.mem_cons.mp hx with rfl | hx
    · exact h'.1
    · exact okL_mem h'.2 hx
theorem depL_mem : ∀ {xs : List D} {x : D}, x ∈ xs → dep x ≤ depL xs
  | [], _, h => nomatch h
  | y :: ys, x, hx => by
    rw [depL]
    rcases List.mem_cons.mp hx with rfl | hx
    · exact Nat.le_max_left _ _
    · exact Nat.le_trans (depL_mem hx) (Nat.le_max_right _ _)
theorem okL_of : ∀ {xs : List D}, (∀ x ∈ xs, okD x = true) → okL xs = true
  | [], _ => rfl
  | y :: ys, h => by
    rw [okL, h y (by simp), okL_of fun x hx => h x (by simp [hx])]
    rfl
theorem depL_of {n : Nat} : ∀ {xs : List D}, (∀ x ∈ xs, dep x ≤ n) → depL xs ≤ n
  | [], _ => Nat.zero_le _
  | y :: ys, h => by
    rw [depL]
    exact Nat.max_le.mpr ⟨h y (by simp), depL_of fun x hx => h x (by simp [hx])⟩
theorem Ok.tup {xs : List D} (h : Ok (.tup xs)) : xs.length ≤ 1000000 ∧ ∀ x ∈ xs, Ok x := by
  obtain ⟨h1, h2⟩ := h
  have h1' : xs.length ≤ 1000000 ∧ okL xs = true := by simpa [okD] using h1
  rw [dep] at h2
  exact ⟨h1'.1, fun x hx => ⟨okL_mem h1'.2 hx, by have := depL_mem hx; omega⟩⟩
theorem Ok.lst {xs : List D} (h : Ok (.lst xs)) : xs.length ≤ 1000000 ∧ ∀ x ∈ xs, Ok x := by
  obtain ⟨h1, h2⟩ := h
  have h1' : xs.length ≤ 1000000 ∧ okL xs = true := by simpa [okD] using h1
  rw [dep] at h2
  exact ⟨h1'.1, fun x hx => ⟨okL_mem h1'.2 hx, by have := depL_mem hx; omega⟩⟩
theorem Ok.str {s : Str} (h : Ok (.str s)) : s.length ≤ 1000000 ∧ PyData.strOk s = true := by
  have h1 : s.length ≤ 1000000 ∧ PyData.strOk s = true := by simpa [okD] using h.1
  exact h1
theorem Ok.noObj {d : D} (h : Ok d) : noObj d = true := by
  cases d <;> first | rfl | exact Bool.noConfusion (show false = true from h.1)
theorem ok_tup {xs : List D} {n : Nat} (hl : xs.length ≤ 1000000) (h : ∀ x ∈ xs, okD x = true ∧ dep x ≤ n) : okD (.tup xs) = true ∧ dep (.tup xs) ≤ n + 1 := by
  refine ⟨?_, ?_⟩
  · rw [okD, okL_of fun x hx => (h x hx).1, decide_eq_true hl]; rfl
  · rw [dep]
    have := depL_of fun x hx => (h x hx).2
    omega
mutual
theorem pl_of_ok : ∀ d : D, okD d = true → pl d = true
  | .non, _ => by simp [pl]
  | .bl _, _ => by simp [pl]
  | .int _, _ => by simp [pl]
  | .str _, _ => by simp [pl]
  | .tup xs, h => by
    have h' : xs.length ≤ 1000000 ∧ okL xs = true := by simpa [okD] using h
    rw [pl]; exact plL_of_ok xs h'.2
  | .lst xs, h => by
    have h' : xs.length ≤ 1000000 ∧ okL xs = true := by simpa [okD] using h
    rw [pl]; exact plL_of_ok xs h'.2
  | .obj .., h => by simp [okD] at h
  | .dic, h => by simp [okD] at h
theorem plL_of_ok : ∀ d : List D, okL d = true → plL d = true
  | [], _ => by simp [plL]
  | x :: xs, h => by
    have h' : okD x = true ∧ okL xs = true := by simpa [okL] using h
    rw [plL, pl_of_ok x h'.1, plL_of_ok xs h'.2]; rfl
end
mutual
theorem lay_of_ok : ∀ d : D, okD d = true → (toPy d).canLay0 = true
  | .non, _ => by simp [toPy, PyData.canLay0]
  | .bl _, _ => by simp [toPy, PyData.canLay0]
  | .int _, _ => by simp [toPy, PyData.canLay0]
  | .str s, h => by
    have h' : s.length ≤ 1000000 ∧ PyData.strOk s = true := by simpa [okD] using h
    simp [toPy, PyData.canLay0, h'.2]
  | .tup xs, h => by
    have h' : xs.length ≤ 1000000 ∧ okL xs = true := by simpa [okD] using h
    rw [toPy, PyData.canLay0]; exact layL_of_ok xs h'.2
  | .lst xs, h => by
    have h' : xs.length ≤ 1000000 ∧ okL xs = true := by simpa [okD] using h
    rw [toPy, PyData.canLay0]; exact layL_of_ok xs h'.2
  | .obj .., h => by simp [okD] at h
  | .dic, h => by simp [okD] at h
theorem layL_of_ok : ∀ d : List D, okL d = true → PyData.canLayAll0 (toPyL d) = true
  | [], _ => by simp [toPyL, PyData.canLayAll0]
  | x :: xs, h => by
    have h' : okD x = true ∧ okL xs = true := by simpa [okL] using h
    rw [toPyL, PyData.canLayAll0, lay_of_ok x h'.1, layL_of_ok xs h'.2]; rfl
end
mutual
theorem dep_py : ∀ d : D, (toPy d).depth = dep d
  | .non => by simp [toPy, PyData.depth, dep]
  | .bl _ => by simp [toPy, PyData.depth, dep]
  | .int _ => by simp [toPy, PyData.depth, dep]
  | .str _ => by simp [toPy, PyData.depth, dep]
  | .tup xs => by rw [toPy, PyData.depth, dep, depL_py xs]
  | .lst xs => by rw [toPy, PyData.depth, dep, depL_py xs]
  | .obj .. => by simp [toPy, PyData.depth, dep]
  | .dic => by simp [toPy, PyData.depth, dep]
theorem depL_py : ∀ d : List D, PyData.depthAll (toPyL d) = depL d
  | [] => by simp [toPyL, PyData.depthAll, depL]
  | x :: xs => by rw [toPyL, PyData.depthAll, depL, dep_py x, depL_py xs]
end
theorem Ok.cmp {d : D} (h : Ok d) : cmpOk d = true := by
  unfold cmpOk SeqAt.shaped
  rw [pl_of_ok d h.1, lay_of_ok d h.1, dep_py, decide_eq_true (show dep d ≤ 64 by have := h.2; omega)]
  rfl

/-! ### the checks -/
def isIntD : D → Bool
  | .int _ => true
  | _ => false
abbrev letters : Str := "abcdefghijklmnopqrstuvwxyz"
def isNameS (s : Str) : Bool := decide (1 ≤ s.length) && decide (s.length ≤ 8) && s.cps.toList.all fun c => decide (c ∈ letters.cps.toList)
def isNameD : D → Bool
  | .str s => isNameS s
  | _ => false
/-- texts that ascend -/
def ascD : List D → Bool
  | .str a :: .str b :: r => decide (a.cps.toList < b.cps.toList) && ascD (.str b :: r)
  | _ => true
def areKindsD : D → Bool
  | .tup xs => decide (1 ≤ xs.length) && decide (xs.length ≤ 4) && xs.all isNameD && ascD xs
  | _ => false
def isStateD (n : Int) : D → Bool
  | .int i => decide (0 ≤ i) && decide (i < n)
  | _ => false
def isPairD (n : Int) : D → Bool
  | .tup [a, b] => isStateD n a && isIntD b
  | _ => false
def isRowD (size : Int) (n : Int) : D → Bool
  | .tup ps => decide ((ps.length : Int) = size) && ps.all (isPairD n)
  | _ => false
def areRowsD (size : Int) : D → Bool
  | .tup rows => !rows.isEmpty && rows.all (isRowD size rows.length)
  | _ => false
def lenT : D → Nat
  | .tup xs => xs.length
  | _ => 0
def isPassD (size begins : Int) : D → Bool
  | .tup [.tup bs, r] => areRowsD size r && decide ((bs.length : Int) = begins) && bs.all (isStateD (lenT r))
  | _ => false
def rowsOf : D → D
  | .tup [_, r] => r
  | _ => .non
def arePassesD (size : Int) : D → Bool
  | .tup (p :: ps) => decide (ps.length ≤ 1) && isPassD size 1 p && ps.all (isPassD size (lenT (rowsOf p)))
  | _ => false
def isTellD : D → Bool
  | .tup [l, e] => isNameD l && isIntD e
  | _ => false
end Sd
set_option Elab.async false
set_option linter.all false
set_option maxRecDepth 100000
set_option maxHeartbeats 4000000
/-! Sd6: more forms. -/
namespace Sd
open PySem PySem.Spec L2
section
variable {w : Wd} {G : List Ent} {Q : D → Prop} {te ta tb : TE} {tt : TT} {tas : TA} {i j : Nat}
theorem all_map {xs : List D} (g : D → Bool) : (xs.map g).all id = xs.all g := by
  rw [List.all_map]; rfl
theorem any_map {xs : List D} (g : D → Bool) : (xs.map g).any id = xs.any g := by
  rw [List.any_map]; rfl
/-- all([e for x in ..]) -/
theorem wp_allLc {wi : TI} (g : D → Bool) (hj : G[j]? = some .no)
    (h : wpi w wi G fun ds => ds.length ≤ 1000000 ∧ (∀ d a o, d ∈ ds → wp (w.push a o) te (G.set j (.d d)) fun y => y = .bl (g d)) ∧ Q (.bl (ds.all g))) : wp w (tCB (rAll w.K) (tCons (tLc wi (gName j) tYes te [j]) tNil)) G Q := by
  refine wp_cb (wpa_cons (wp_l (wpl_map (fun d => .bl (g d)) hj (h.imp fun ds q => ⟨q.1, q.2.1, wpa_nil ?_⟩))))
  rw [show ds.map (fun d => D.bl (g d)) = (ds.map g).map .bl by rw [List.map_map]; rfl]
  exact rc_all (by rw [all_map]; exact q.2.2)
theorem wp_allLc2 {wi : TI} {j2 : Nat} (g : D → Bool) (hj : G[j]? = some .no) (hj2 : G[j2]? = some .no)
    (h : wpi w wi G fun ds => ds.length ≤ 1000000 ∧ (∀ d a o, d ∈ ds → ∃ x y, d = .tup [x, y] ∧ wp (w.push a o) te ((G.set j (.d x)).set j2 (.d y)) fun y => y = .bl (g d)) ∧ Q (.bl (ds.all g))) :
    wp w (tCB (rAll w.K) (tCons (tLc wi (gTup w.K 2 (gCons (gName j) (gCons (gName j2) gNil))) tYes te [j, j2]) tNil)) G Q := by
  refine wp_cb (wpa_cons (wp_l (wpl_map2 (fun d => .bl (g d)) hj hj2 (h.imp fun ds q => ⟨q.1, q.2.1, wpa_nil ?_⟩))))
  rw [show ds.map (fun d => D.bl (g d)) = (ds.map g).map .bl by rw [List.map_map]; rfl]
  exact rc_all (by rw [all_map]; exact q.2.2)
theorem wp_chainI {g g' : Int → Int → Bool} {tc : TE} (k : Int) (hc : wp w tc G fun u => u = .int k) (h : wp w ta G fun x => wp w tb G fun y => ∃ i j, x = .int i ∧ y = .int j ∧ Q (.bl (g i j && g' j k))) :
    wp w (tChain (rI0 fun i j => .bl (g i j)) (rI0 fun i j => .bl (g' i j)) ta tb tc) G Q := by
  refine wp_chain (h.imp fun x q => q.imp fun y q => ?_)
  obtain ⟨i, j, rfl, rfl, q⟩ := q
  refine r2_ib ⟨_, rfl, ?_⟩
  cases e : g i j with
  | true =>
    rw [e] at q
    exact iteT (hc.imp fun u eu => by rw [eu]; exact r2_ib q)
  | false =>
    rw [e] at q
    exact iteF q
theorem wps_asgV {N : List Ent → Prop} {R : List Ent → D → Prop} {i : Nat} (d : D) (h : wp w te G fun x => x = d) (k : N (G.set i (.d d))) : wps w (tAsg te (gName i)) G N R := wps_asg (h.imp fun x e => by rw [e]; exact k)
theorem wp_is (d : D) (h : wp w te G fun x => x = d) (k : Q d) : wp w te G Q := h.imp fun x e => by rw [e]; exact k
theorem wpa_is {Q : List D → Prop} {tr : TA} (d : D) (h : wp w te G fun x => x = d) (k : wpa w tr G fun ds => Q (d :: ds)) : wpa w (tCons te tr) G Q := wpa_cons (wp_is d h k)
theorem wp_ifV {tt : TT} (b : Bool) (h : wpt w tt G fun c => c = b) (h1 : b = true → wp w ta G Q) (h2 : b = false → wp w tb G Q) : wp w (tIf tt ta tb) G Q := wp_ifD b h h1 h2
theorem all_bl {y : D} {b : Bool} (h : y = .bl b) : ∃ c, y = .bl c ∧ c = b := ⟨b, h, rfl⟩
/-- f(..) == what is known -/
theorem wp_callB' {pre : List D → Prop} {post : List D → D → Prop} {E : XK} (h : wpa w tas G fun ds => pre ds ∧ ∀ d, post ds d → Q d) : wp w (tCall (spP w.K pre post) [] E tas) G Q := wp_callP h
end
theorem nb_t {b : Bool} (h : (!b) = true) : b = false := by cases b <;> first | rfl | cases h
theorem nb_f {b : Bool} (h : (!b) = false) : b = true := by cases b <;> first | rfl | cases h
theorem len_str {x : Str} (h : x.length ≤ 1000000) : lenD (.str x) = some x.length := if_pos h
theorem eqv_nil {xs : List D} : eqvD (.tup xs) (.tup []) = xs.isEmpty := by
  cases xs with
  | nil => simp [eqvD, toPy, toPyL, PyData.eqv, PyData.eqvAll]
  | cons x xs => simp [eqvD, toPy, toPyL, PyData.eqv, PyData.eqvAll]
theorem ok_nil : Ok (.tup []) := ⟨by rw [okD, okL]; decide, by decide +kernel⟩
theorem isT_tup {d : D} (h : isT "tuple" d = true) : ∃ xs, d = .tup xs := by
  cases d with
  | tup xs => exact ⟨xs, rfl⟩
  | _ => simp [isT] at h
theorem isT_str {d : D} (h : isT "str" d = true) : ∃ xs, d = .str xs := by
  cases d with
  | str xs => exact ⟨xs, rfl⟩
  | _ => simp [isT] at h
theorem isT_int {d : D} (h : isT "int" d = true) : (∃ i, d = .int i) ∨ ∃ b, d = .bl b := by
  cases d with
  | int i => exact .inl ⟨i, rfl⟩
  | bl b => exact .inr ⟨b, rfl⟩
  | _ => simp [isT] at h
theorem isT_lst {d : D} (h : isT "list" d = true) : ∃ xs, d = .lst xs := by
  cases d with
  | lst xs => exact ⟨xs, rfl⟩
  | _ => simp [isT] at h
theorem isT_notTup {d : D} (h : isT "tuple" d = false) : ∀ xs, d ≠ .tup xs := fun xs e => by rw [e] at h; simp [isT] at h
theorem isT_notStr {d : D} (h : isT "str" d = false) : ∀ xs, d ≠ .str xs := fun xs e => by rw [e] at h; simp [isT] at h
theorem castE {X : Cx} {e : Expr} {t t' : TE} (h : PE X e t') (q : t' = t) : PE X e t := q ▸ h
theorem castT {X : Cx} {e : List Expr} {t t' : TT} (h : PTs X e t') (q : t' = t) : PTs X e t := q ▸ h
theorem castG {X : Cx} {e : Expr} {t t' : TG} (h : PG X e t') (q : t' = t) : PG X e t := q ▸ h
end Sd
set_option Elab.async false
set_option linter.all false
set_option maxRecDepth 100000
set_option maxHeartbeats 4000000
/-! Sd7: calls by keyword, an own class's == and !=. -/
namespace Sd
open PySem PySem.Spec L2
/-- the keywords' values in the parameters' order: for each parameter left, which keyword it takes -/
def ordK {α : Type} (ix : List Nat) (zs : List α) : List α := ix.filterMap fun i => zs[i]?
theorem vals_getO : ∀ {vs : List V} {us : List Value} (i : Nat), Vals vs us → (∃ v u, vs[i]? = some v ∧ us[i]? = some u ∧ RelV v u) ∨ (vs[i]? = none ∧ us[i]? = none)
  | _, _, _, .nil => .inr ⟨rfl, rfl⟩
  | _, _, 0, .cons r t => .inl ⟨_, _, rfl, rfl, r⟩
  | _, _, i + 1, .cons r t => by
    rcases vals_getO i t with h | h
    · exact .inl h
    · exact .inr h
theorem vals_ordK {vs : List V} {us : List Value} (r : Vals vs us) : ∀ ix : List Nat, Vals (ordK ix vs) (ordK ix us)
  | [] => .nil
  | i :: ix => by
    rcases vals_getO i r with ⟨v, u, h1, h2, h3⟩ | ⟨h1, h2⟩
    · have e1 : ordK (i :: ix) vs = v :: ordK ix vs := by unfold ordK; rw [List.filterMap_cons, h1]
      have e2 : ordK (i :: ix) us = u :: ordK ix us := by unfold ordK; rw [List.filterMap_cons, h2]
      rw [e1, e2]
      exact .cons h3 (vals_ordK r ix)
    · have e1 : ordK (i :: ix) vs = ordK ix vs := by unfold ordK; rw [List.filterMap_cons, h1]
      have e2 : ordK (i :: ix) us = ordK ix us := by unfold ordK; rw [List.filterMap_cons, h2]
      rw [e1, e2]
      exact vals_ordK r ix
/-- how a call binds that writes n values and the keywords ks -/
structure KW (K : PySem.W.Frag) (fd : FuncData) (ps : List Str) (n : Nat) (ks : List Str) (ix : List Nat) : Prop where
  to : ∀ (s : Shared) (us ws : List Value), us.length = n → ws.length = ks.length → BindsTo s fd ⟨us, ks.zip ws⟩ (ps.zip (us ++ ordK ix ws))
def tCallW (n m : Nat) (ix : List Nat) (sp : Sp) (E : XK) (t tk : TA) : TE := fun σ H Q => t σ H fun vs H1 => tk σ H1 fun zs H2 => vs.length = n ∧ zs.length = m ∧ sp (vs ++ ordK ix zs) H2 Q E
section
variable {X : Cx} {CX : CXT} {k n : Nat} {f C : Addr} {fd : FuncData} {ps ks : List Str} {sp : Sp} {E : XK} {x : Str} {p pos : Pos} {e : Expr} {es : List Expr} {kws : List Keyword} {t tk : TA} {ix : List Nat}
theorem run_fnw {pins : List (Addr × Obj)} {σ : L2.St} {H : Hp} {s : Shared} {Q : VK} {us ws : List Value} {vs zs : List V} (F : FnOk X.prog X.w X.K X.mg X.base CX k f fd ps sp) (hr : Room k X.A) (hb : KW X.K fd ps n ks ix) (hx : Passes CX X E)
    (I : Inv X pins σ H s) (r : Vals vs us) (rz : Vals zs ws) (hn : vs.length = n) (hm : zs.length = ks.length) (h : sp (vs ++ ordK ix zs) H Q E) : wpAny (model X.prog X.w) X.A (call (.ref f) us (ks.zip ws)) (EP X pins σ Q) X.xe s := by
  refine wpAny_call (codeAny_mono (F.run X.A X.stack s H ⟨us, ks.zip ws⟩ (us ++ ordK ix ws) (vs ++ ordK ix zs) Q E hr I.env0 (hb.to s us ws (r.length.symm.trans hn) (rz.length.symm.trans hm)) (r.append (vals_ordK rz ix)) h) fun q s' hq => ?_)
  rcases q with er | fl
  · exact hx pins σ H s er s' I hq
  · cases fl <;> first | exact I.after hq | exact False.elim hq
theorem pe_callW0 (F : FnOk X.prog X.w X.K X.mg X.base CX k f fd ps sp) (hr : Room k X.A) (hg : Gl X x) (hm : X.mg x = some (.ref f)) (hk : PySem.W.keepIn X.K (.ref f) = true) (hb : KW X.K fd ps 0 ks ix) (hx : Passes CX X E)
    (hkw : PK X kws tk) (hall : (backToKw pos (keywordEach kws X.env)).all (·.1.isSome) = true := by rfl) (hks : (backToKw pos (keywordEach kws X.env)).filterMap (·.1) = ks := by rfl)
    (hdb : (x == ("__debug__" : Str)) = false := by decide)
    (hpl : ((backTo pos (starEach [] X.env)).any (·.1) || (backToKw pos (keywordEach kws X.env)).any (·.1.isNone)) = false := by rfl) :
    PE X (.Call (.Name x p) [] kws pos) (tCallW 0 ks.length ix sp E tNil tk) := ⟨fun pins s σ H Q I h => by
  refine wpAny_Call_Name_kw (ld_glob I hg hm (PySem.W.callWith_KW0 (h₀ := X.base) I.ok.mod.kin hk hall ?_ hpl) hdb)
  refine thn (hkw.run pos pins s σ H _ I h) fun ws s2 ⟨zs, H2, I2, rz, hn, hm, q2⟩ => ⟨I2.kIn, ?_⟩
  rw [hks]
  exact run_fnw (us := []) (vs := []) F hr hb hx I2 .nil rz hn hm q2⟩
theorem pe_callW (F : FnOk X.prog X.w X.K X.mg X.base CX k f fd ps sp) (hr : Room k X.A) (hg : Gl X x) (hm : X.mg x = some (.ref f)) (hk : PySem.W.keepIn X.K (.ref f) = true) (hb : KW X.K fd ps n ks ix) (hx : Passes CX X E)
    (ha : PA X (e :: es) t) (hkw : PK X kws tk) (hall : (backToKw pos (keywordEach kws X.env)).all (·.1.isSome) = true := by rfl) (hks : (backToKw pos (keywordEach kws X.env)).filterMap (·.1) = ks := by rfl)
    (hdb : (x == ("__debug__" : Str)) = false := by decide) (he : starEach (e :: es) X.env = (false, eval e X.env) :: starEach es X.env := by rfl)
    (hpl : ((backTo pos (starEach (e :: es) X.env)).any (·.1) || (backToKw pos (keywordEach kws X.env)).any (·.1.isNone)) = false := by rfl) :
    PE X (.Call (.Name x p) (e :: es) kws pos) (tCallW n ks.length ix sp E t tk) := ⟨fun pins s σ H Q I h => by
  refine wpAny_Call_Name_kw (ld_glob I hg hm (PySem.W.callWith_KW (h₀ := X.base) I.ok.mod.kin hk hall (thn (ha.run pos pins s σ H _ I h) fun us s1 ⟨vs, H1, I1, r, q⟩ => ?_) hpl he) hdb)
  refine thn (hkw.run pos pins s1 σ H1 _ I1 q) fun ws s2 ⟨zs, H2, I2, rz, hn, hm, q2⟩ => ⟨I2.kIn, ?_⟩
  rw [hks]
  exact run_fnw F hr hb hx I2 r rz hn hm q2⟩
end
theorem rpl_ordK {K : PySem.W.Frag} {F : Hp} {vs : List V} {ds : List D} (r : RpL K F vs ds) : ∀ ix : List Nat, RpL K F (ordK ix vs) (ordK ix ds)
  | [] => .nil
  | i :: ix => by
    cases h : ds[i]? with
    | none =>
      have h1 : vs[i]? = none := by rw [List.getElem?_eq_none_iff] at h ⊢; rw [r.length]; exact h
      have e1 : ordK (i :: ix) vs = ordK ix vs := by unfold ordK; rw [List.filterMap_cons, h1]
      have e2 : ordK (i :: ix) ds = ordK ix ds := by unfold ordK; rw [List.filterMap_cons, h]
      rw [e1, e2]; exact rpl_ordK r ix
    | some d =>
      obtain ⟨v, h1, rv⟩ := r.getD h
      have e1 : ordK (i :: ix) vs = v :: ordK ix vs := by unfold ordK; rw [List.filterMap_cons, h1]
      have e2 : ordK (i :: ix) ds = d :: ordK ix ds := by unfold ordK; rw [List.filterMap_cons, h]
      rw [e1, e2]; exact .cons rv (rpl_ordK r ix)
section
variable {w : Wd} {G : List Ent} {Q : D → Prop} {te ta tb : TE} {tas tks : TA} {pre : List D → Prop} {post : List D → D → Prop} {E : XK} {ix : List Nat} {n m : Nat}
theorem wp_callW (h : wpa w tas G fun ds => wpa w tks G fun es => ds.length = n ∧ es.length = m ∧ pre (ds ++ ordK ix es) ∧ ∀ d, post (ds ++ ordK ix es) d → Q d) : wp w (tCallW n m ix (spP w.K pre post) E tas tks) G Q := fun σ F H A k z =>
  h σ F H A _ fun vs ds F1 H1 s1 A1 r1 h1 => h1 σ F1 H1 A1 _ fun us es F2 H2 s2 A2 r2 q =>
    ⟨r1.length.trans q.1, r2.length.trans q.2.1, F2, _, A2.fh, (r1.mono s2).append (rpl_ordK r2 ix), q.2.2.1, fun v d H' s r p => z v d _ H' ((s1.trans s2).trans A2.same) (A2.step s) r (q.2.2.2 d p)⟩
end

/-! ### an own class's == and != -/
structure OwnCmp (K : PySem.W.Frag) (C f : Addr) : Prop where
  eq : PySem.W.findIn K (.ref C) "__eq__" = some (some (.ref f))
  fn : PySem.W.isFn K (.ref f) = true
  ne : PySem.W.findIn K (.ref C) "__ne__" = some (some (.builtin "object.__ne__"))
  mo : PySem.W.mroIn K C (.type "object") = some true
def rEqO (C : Addr) (sp : Sp) (E : XK) : R2 := fun x y H Q => ∃ a b dx dy fs gs, x = .ref a ∧ y = .ref b ∧ H a = some (.ins C dx fs) ∧ H b = some (.ins C dy gs) ∧ sp [x, y] H (fun v H' => ∃ k, v = .bl k ∧ Q (.bl k) H') E
def rNeO (C : Addr) (sp : Sp) (E : XK) : R2 := fun x y H Q => ∃ a b dx dy fs gs, x = .ref a ∧ y = .ref b ∧ H a = some (.ins C dx fs) ∧ H b = some (.ins C dy gs) ∧ sp [x, y] H (fun v H' => ∃ k, v = .bl k ∧ Q (.bl !k) H') E
section
variable {prog : Program} {wd : World} {A : Around} {E : Value → Shared → Prop} {s : Shared} {K : PySem.W.Frag} {x C : Addr} {ox : Obj} {od : Option Obj} {name : Str} {b : Value}
theorem ifBound_B {M : Model} {id : String} {args : List Value} {Q : Option Value → Shared → Prop} (X : K.In s.heap) (I : PySem.W.InstAt s.heap x ox C od) (hs : PySem.W.findIn K (.ref C) name = some (some (.builtin id))) (S : Slot "object" name id)
    (h : wpAny M A (call (.builtin id) (.ref x :: args)) (fun v => Q (some v)) E s) : wpAny M A (callSpecialIfBound? (.ref x) name args) Q E s := by
  simp only [callSpecialIfBound?, bindSpecialIfBound?]
  refine wpAny_holding (wpAny_bind (wpAny_bind (wpAny_bind (I.type.here ((PySem.W.looks_findIn X hs).here (wpAny_bind (wpAny_askSetting (wpAny_ite ?_))))))))
  have fin : wpAny M A (call (.builtin id) ([.ref x] ++ args) >>= fun v => pure (some v)) Q E s := wpAny_bind (wpAny_mono h (fun v s' q => wpAny_pure q) fun _ _ q => q)
  split
  · exact wpAny_bind (wpAny_of_eq (S.bind _) (wpAny_pure (by exact fin)))
  · exact wpAny_tryCatch (wpAny_bind (wpAny_of_eq (S.bind _) (wpAny_pure (by exact fin))))
/-- a rich comparison that its left side answers -/
theorem rc_left {op : CmpOp} {y : Addr} {oy : Obj} {od' : Option Obj} {Q : Value → Shared → Prop} (hu : A.units < cLine) (X : K.In s.heap) (I : PySem.W.InstAt s.heap x ox C od) (J : PySem.W.InstAt s.heap y oy C od')
    (one : wpAny (model prog wd) A (tryCompare (.ref x) (cmpInfo op).2.1 (.ref y)) (fun r s' => ∃ v, r = some v ∧ Q v s') E s) : wpAny (model prog wd) A (richCompare op (.ref x) (.ref y)) Q E s := by
  unfold richCompare
  simp only [oneThing_ref]
  refine wpAny_holding (wpAny_bind (wpAny_cRoomFor hu (wpAny_bind (I.type.here (wpAny_bind (J.type.here ?_))))))
  split
  · rename_i q
    exact absurd q (by simp)
  · refine wpAny_bind (wpAny_pure ?_)
    simp only [Bool.false_eq_true, if_false]
    exact wpAny_bind (wpAny_mono one (fun r s' ⟨v, e, q⟩ => by subst e; exact wpAny_pure q) fun _ _ q => q)
theorem try_ne {f y : Addr} {Q : Value → Shared → Prop} (hu : A.in1.units < cLine) (X : K.In s.heap) (I : PySem.W.InstAt s.heap x ox C od) (o : OwnCmp K C f)
    (h : wpAny (model prog wd) A.in1 (call (.ref f) [.ref x, .ref y]) (fun v s' => ∃ k, v = .bool k ∧ Q (.bool !k) s') E s) : wpAny (model prog wd) A (tryCompare (.ref x) "__ne__" (.ref y)) (fun r s' => ∃ v, r = some v ∧ Q v s') E s := by
  unfold tryCompare
  refine wpAny_bind (ifBound_B X I o.ne F.cmp_object.ne (wpAny_call (codeAny_call_builtin F.cmp_object.ne.plain F.cmpEntry_ne (PySem.W.check_slot F.cmpKind_ne F.cmpSplit_ne (I.type.andThen (PySem.W.looks_mroIn X o.mo)) (F.cmpArgs_ne _ _) ?_))))
  unfold Builtin.«object.__ne__»
  repeat (first | with_reducible refine wpAny_cRoomFor hu ?_ | (with_reducible refine PySem.W.ifBound_K X I o.eq o.fn (wpAny_mono h (fun v s' z => ?_) fun _ _ q => q); obtain ⟨k, rfl, q⟩ := z) | wp_step)
  exact ⟨_, rfl, q⟩
end
section
variable {X : Cx} {CX : CXT} {n : Nat} {f C : Addr} {fd : FuncData} {ps : List Str} {sp : Sp} {E : XK}
theorem op_eqO (F : FnOk X.prog X.w X.K X.mg X.base CX n f fd ps sp) (hr : Room n X.A) (o : OwnCmp X.K C f) (hb : Binds X.K fd ps []) (hx : Passes CX X E) : OpR X (compareOp .Eq) (rEqO C sp E) := by
  intro pins s σ H x y v u Q I rx ry hq
  obtain ⟨a, b, dx, dy, fs, gs, rfl, rfl, ha, hb', hq⟩ := hq
  cases rx
  cases ry
  obtain ⟨mA, J, _⟩ := ins_get I.hok ha
  obtain ⟨mB, J', _⟩ := ins_get I.hok hb'
  obtain ⟨od, J, _⟩ := J.look
  obtain ⟨od', J', _⟩ := J'.look
  refine rc_left (op := .Eq) hr.units0 I.kIn J J' ?_
  unfold tryCompare
  refine wpAny_bind (PySem.W.ifBound_K I.kIn J o.eq o.fn (thn (run_fn (us := [.ref a, .ref b]) (vs := [.ref a, .ref b]) F hr hb .nil hx I (.cons rfl (.cons rfl .nil)) hq) fun v s' z => ?_))
  obtain ⟨v, H', I', r, k, rfl, q⟩ := z
  cases r
  exact wpAny_pure ⟨_, rfl, .bl k, H', I', rfl, q⟩
theorem op_neO (F : FnOk X.prog X.w X.K X.mg X.base CX n f fd ps sp) (hr : Room (n + 1) X.A) (o : OwnCmp X.K C f) (hb : Binds X.K fd ps []) (hx : Passes CX X E) : OpR X (compareOp .NotEq) (rNeO C sp E) := by
  intro pins s σ H x y v u Q I rx ry hq
  obtain ⟨a, b, dx, dy, fs, gs, rfl, rfl, ha, hb', hq⟩ := hq
  cases rx
  cases ry
  obtain ⟨mA, J, _⟩ := ins_get I.hok ha
  obtain ⟨mB, J', _⟩ := ins_get I.hok hb'
  obtain ⟨od, J, _⟩ := J.look
  obtain ⟨od', J', _⟩ := J'.look
  refine rc_left (op := .NotEq) hr.units0 I.kIn J J' (try_ne hr.in1.units0 I.kIn J o ?_)
  have hl : [Value.ref a, Value.ref b].length = ps.length := F.len _ _ _ _ hq
  have hb2 : BindsTo s fd ⟨[.ref a, .ref b], []⟩ (ps.zip [.ref a, .ref b]) := by simpa using hb s [.ref a, .ref b] I.kIn (by simpa using hl)
  refine wpAny_call (codeAny_mono (F.run X.A.in1 X.stack s H ⟨[.ref a, .ref b], []⟩ [.ref a, .ref b] [.ref a, .ref b] _ E hr.in1 I.env0.in1 hb2 (.cons rfl (.cons rfl .nil)) hq) fun q s' hz => ?_)
  rcases q with er | fl
  · exact hx pins σ H s er s' I hz
  · cases fl with
    | ret u =>
      obtain ⟨v, H', I', r, k, rfl, q⟩ := I.after hz
      cases r
      exact ⟨k, rfl, .bl (!k), H', I', rfl, q⟩
    | _ => exact False.elim hz
end
section
variable {K : PySem.W.Frag} {Q : D → Prop} {pre : List D → Prop} {post : List D → D → Prop} {E : XK} {C : Addr} {ns ms : List Str} {xs ys : List D}
theorem r2_eqO (h : pre [.obj C ns xs, .obj C ms ys]) (q : ∀ d, post [.obj C ns xs, .obj C ms ys] d → ∃ k, d = .bl k ∧ Q (.bl k)) : R2D K (rEqO C (spP K pre post) E) (.obj C ns xs) (.obj C ms ys) Q := fun F H v u s r1 r2 k z => by
  cases id r1 with
  | obj e1 l1 t1 => cases id r2 with
    | obj e2 l2 t2 =>
      refine ⟨_, _, _, _, _, _, rfl, rfl, s _ _ e1, s _ _ e2, F, _, s, .cons r1 (.cons r2 .nil), h, fun v d H' s' r p => ?_⟩
      obtain ⟨k, rfl, qq⟩ := q d p
      cases r
      exact ⟨k, rfl, z _ _ H' s' (.bl k) qq⟩
theorem r2_neO (h : pre [.obj C ns xs, .obj C ms ys]) (q : ∀ d, post [.obj C ns xs, .obj C ms ys] d → ∃ k, d = .bl k ∧ Q (.bl !k)) : R2D K (rNeO C (spP K pre post) E) (.obj C ns xs) (.obj C ms ys) Q := fun F H v u s r1 r2 k z => by
  cases id r1 with
  | obj e1 l1 t1 => cases id r2 with
    | obj e2 l2 t2 =>
      refine ⟨_, _, _, _, _, _, rfl, rfl, s _ _ e1, s _ _ e2, F, _, s, .cons r1 (.cons r2 .nil), h, fun v d H' s' r p => ?_⟩
      obtain ⟨k, rfl, qq⟩ := q d p
      cases r
      exact ⟨k, rfl, z _ _ H' s' (.bl _) qq⟩
end
end Sd
set_option Elab.async false
set_option linter.all false
set_option maxRecDepth 100000
set_option maxHeartbeats 4000000
namespace Sd
open PySem PySem.Spec L2
theorem cut1 (xs : List D) : cutD xs (some 1) none = xs.drop 1 := by
  unfold cutD
  rw [show HT.sIx xs.length 0 (some 1) = min 1 xs.length from HT.sIx_nat _ _ 1, show HT.sIx xs.length xs.length none = xs.length from rfl]
  cases xs with
  | nil => rfl
  | cons x xs =>
    rw [show min 1 (x :: xs).length = 1 by simp, List.drop_one, List.tail_cons]
    exact List.take_of_length_le (by simp)
def zipD (xs ys : List D) : List D := (List.range (min xs.length ys.length)).map fun i => .tup [xs.getD i .non, ys.getD i .non]
theorem zipD_nil (xs : List D) : zipD xs [] = [] := by unfold zipD; simp
theorem zipD_cons (x y : D) (xs ys : List D) : zipD (x :: xs) (y :: ys) = .tup [x, y] :: zipD xs ys := by
  unfold zipD
  rw [List.length_cons, List.length_cons, Nat.succ_min_succ, List.range_succ_eq_map, List.map_cons, List.map_map]
  rfl
theorem zipD_mem {xs ys : List D} {d : D} (h : d ∈ zipD xs ys) : ∃ x y, d = .tup [x, y] ∧ x ∈ xs ∧ y ∈ ys := by
  unfold zipD at h
  obtain ⟨i, hi, rfl⟩ := List.mem_map.mp h
  have hi' := List.mem_range.mp hi
  have h1 : i < xs.length := by omega
  have h2 : i < ys.length := by omega
  refine ⟨_, _, rfl, ?_, ?_⟩
  · rw [List.getD_eq_getElem?_getD, List.getElem?_eq_getElem h1]; exact List.getElem_mem h1
  · rw [List.getD_eq_getElem?_getD, List.getElem?_eq_getElem h2]; exact List.getElem_mem h2
theorem zipD_len (xs ys : List D) : (zipD xs ys).length = min xs.length ys.length := by unfold zipD; simp
def ltP : D → Bool
  | .tup [.str a, .str b] => decide (a.cps.toList < b.cps.toList)
  | _ => false
theorem name_str {d : D} (h : isNameD d = true) : ∃ s, d = .str s := by
  cases d with
  | str s => exact ⟨s, rfl⟩
  | _ => cases h
theorem asc_zip : ∀ {xs : List D}, xs.all isNameD = true → (zipD xs (xs.drop 1)).all ltP = ascD xs
  | [], _ => rfl
  | [x], h => by
    rw [List.drop_one, List.tail_cons, zipD_nil]
    obtain ⟨s, rfl⟩ := name_str (d := x) (by simpa using h)
    rfl
  | x :: y :: r, h => by
    have h' : isNameD x = true ∧ (y :: r).all isNameD = true := by simpa using h
    have hy : isNameD y = true := by simp at h; exact h.2.1
    obtain ⟨a, rfl⟩ := name_str h'.1
    obtain ⟨b, rfl⟩ := name_str hy
    have ih := asc_zip h'.2
    rw [List.drop_one, List.tail_cons, zipD_cons, List.all_cons]
    rw [List.drop_one, List.tail_cons] at ih
    rw [ih]
    rfl
end Sd
namespace Sd
open PySem PySem.Spec L2
theorem at0 {α : Type} (x : α) (xs : List α) : L2.atI (x :: xs) 0 = some x := by
  unfold L2.atI L2.ixN
  simp
def isRow1 (size : Int) : D → Bool
  | .tup ps => decide ((ps.length : Int) = size)
  | _ => false
def isRow2 (n : Int) : D → Bool
  | .tup ps => ps.all (isPairD n)
  | _ => false
theorem isRow_split (size n : Int) (d : D) : isRowD size n d = (isRow1 size d && isRow2 n d) := by
  cases d <;> rfl
theorem all_and {α : Type} {p q : α → Bool} : ∀ xs : List α, (xs.all fun x => p x && q x) = (xs.all p && xs.all q)
  | [] => rfl
  | x :: xs => by
    rw [List.all_cons, List.all_cons, List.all_cons, all_and xs]
    cases p x <;> cases q x <;> cases xs.all p <;> cases xs.all q <;> rfl
theorem areRows_tup (size : Int) (rows : List D) : areRowsD size (.tup rows) = (!rows.isEmpty && (rows.all (isRow1 size) && rows.all (isRow2 rows.length))) := by
  show (!rows.isEmpty && rows.all (isRowD size rows.length)) = _
  rw [← all_and]
  congr 1
  congr 1
  funext d
  exact isRow_split _ _ _
theorem rows_tup {size : Int} {d : D} (h : areRowsD size d = true) : ∃ rows, d = .tup rows := by
  cases d with
  | tup rows => exact ⟨rows, rfl⟩
  | _ => cases h
def lastD : D → D
  | .tup xs => xs.getLast?.getD .non
  | _ => .non
def tellsD (p : D) : D → Bool
  | .tup ts => decide (ts.length = lenT (rowsOf (lastD p))) && ts.all isTellD
  | _ => false
/-- the parts of a program -/
structure ProgOk (k p t : D) : Prop where
  ok : Ok k
  op : Ok p
  ot : Ok t
  hk : areKindsD k = true
  hp : arePassesD (lenT k) p = true
  ht : tellsD p t = true
theorem ProgOk.cmp {k p t : D} (h : ProgOk k p t) : cmpOk (.tup [k, p, t]) = true := by
  have okk : Ok (.tup [k, p, t]) ∨ True := .inr trivial
  unfold cmpOk SeqAt.shaped
  have e1 := pl_of_ok _ h.ok.1
  have e2 := pl_of_ok _ h.op.1
  have e3 := pl_of_ok _ h.ot.1
  have l1 := lay_of_ok _ h.ok.1
  have l2 := lay_of_ok _ h.op.1
  have l3 := lay_of_ok _ h.ot.1
  have d1 := h.ok.2
  have d2 := h.op.2
  have d3 := h.ot.2
  have ep : pl (.tup [k, p, t]) = true := by rw [pl, plL, plL, plL, plL, e1, e2, e3]; rfl
  have el : (toPy (.tup [k, p, t])).canLay0 = true := by
    rw [toPy, toPyL, toPyL, toPyL, toPyL, PyData.canLay0, PyData.canLayAll0, PyData.canLayAll0, PyData.canLayAll0, PyData.canLayAll0, l1, l2, l3]; rfl
  rw [ep, el, dep_py, dep, depL, depL, depL, depL, decide_eq_true (by omega)]
  rfl
def pf : List Str := ["p_kinds", "p_passes", "p_tells"]
abbrev pgD (C : Addr) (k p t : D) : D := .obj C ["p_kinds", "p_passes", "p_tells"] [k, p, t]
theorem pass_short {n k : Int} {xs : List D} (h : xs.length ≠ 2) : isPassD n k (.tup xs) = false := by
  cases e : isPassD n k (.tup xs) with
  | false => rfl
  | true => match xs, h, e with
    | [.tup _, _], h, _ => exact absurd rfl h
theorem pass_form {size b : Int} {d : D} (h : isPassD size b d = true) : ∃ bs rows, d = .tup [.tup bs, .tup rows] ∧ areRowsD size (.tup rows) = true ∧ (bs.length : Int) = b ∧ bs.all (isStateD rows.length) = true := by
  cases d with
  | tup l =>
    match l, h with
    | [.tup bs, r], h =>
      have h' : (areRowsD size r && decide ((bs.length : Int) = b) && bs.all (isStateD (lenT r))) = true := h
      rw [Bool.and_eq_true, Bool.and_eq_true, decide_eq_true_eq] at h'
      obtain ⟨rows, rfl⟩ := rows_tup h'.1.1
      exact ⟨bs, rows, rfl, h'.1.1, h'.1.2, h'.2⟩
  | _ => cases h
theorem passes_form {size : Int} {d : D} (h : arePassesD size d = true) : ∃ bs rows ps, d = .tup (.tup [.tup bs, .tup rows] :: ps) ∧ ps.length ≤ 1 ∧ isPassD size 1 (.tup [.tup bs, .tup rows]) = true ∧ ps.all (isPassD size rows.length) = true := by
  cases d with
  | tup l =>
    match l, h with
    | p :: ps, h =>
      have h' : (decide (ps.length ≤ 1) && isPassD size 1 p && ps.all (isPassD size (lenT (rowsOf p)))) = true := h
      rw [Bool.and_eq_true, Bool.and_eq_true, decide_eq_true_eq] at h'
      obtain ⟨bs, rows, rfl, _⟩ := pass_form h'.1.2
      exact ⟨bs, rows, ps, rfl, h'.1.1, h'.1.2, h'.2⟩
  | _ => cases h
/-- the last pass -/
theorem passes_last {size : Int} {d : D} (h : arePassesD size d = true) : ∃ xs bs rows, d = .tup xs ∧ L2.atI xs (-1) = some (.tup [.tup bs, .tup rows]) ∧ lastD d = .tup [.tup bs, .tup rows] ∧ ∃ b, isPassD size b (.tup [.tup bs, .tup rows]) = true := by
  obtain ⟨bs, rows, ps, rfl, hl, h1, h2⟩ := passes_form h
  match ps, hl, h2 with
  | [], _, _ => exact ⟨_, bs, rows, rfl, rfl, rfl, _, h1⟩
  | [q], _, h2 =>
    have hq : isPassD size rows.length q = true := by simpa using h2
    obtain ⟨bs2, rows2, rfl, _⟩ := pass_form hq
    exact ⟨_, bs2, rows2, rfl, rfl, rfl, _, hq⟩
end Sd
set_option Elab.async false
set_option linter.all false
set_option maxRecDepth 100000
set_option maxHeartbeats 4000000
/-! M3: texts of programs, by signs. -/
namespace Sd
open PySem PySem.Spec L2
open SX (S S_len S_cat S_inj)
open TL (numL joinL spl)
/-- a whole number's signs -/
def intL : Int → List Nat
  | .ofNat n => numL n
  | .negSucc n => 45 :: numL (n + 1)
theorem int_S (i : Int) : (Str.ofString (toString i)) = S (intL i) := by
  cases i with
  | ofNat n => exact SX.num_S n
  | negSucc n =>
    refine TL.ext_tl ?_
    rw [TL.tl_ofString]
    have e : toString (Int.negSucc n) = "-" ++ toString ((n + 1 : Nat) : Int) := rfl
    have h := TL.tl_num (n + 1)
    rw [TL.tl_ofString] at h
    rw [e, String.toList_append, List.map_append, h]
    rfl
def smI (i : Int) : Prop := i.natAbs < 1000000
theorem intL_len {i : Int} (h : smI i) : (intL i).length ≤ 7 := by
  cases i with
  | ofNat n => exact Nat.le_trans (TL.numL_len (k := 6) (by decide) h) (by decide)
  | negSucc n =>
    have : (numL (n + 1)).length ≤ 6 := TL.numL_len (k := 6) (by decide) h
    show (numL (n + 1)).length + 1 ≤ 7
    omega
theorem log_small {i : Int} (h : smI i) : i.natAbs.log2 < 1920 := by
  have h' : i.natAbs < 1000000 := h
  by_cases z : i.natAbs = 0
  · rw [z]; decide
  · have h2 : i.natAbs < 2 ^ 20 := by omega
    have := (Nat.log2_lt z).mpr h2
    omega
theorem intL_free {i : Int} {s : Nat} (h : s < 45 ∨ 57 < s) : s ∉ intL i := fun hm => by
  cases i with
  | ofNat n => exact TL.numL_free (by omega) hm
  | negSucc n =>
    rcases List.mem_cons.mp hm with e | hm
    · omega
    · exact TL.numL_free (by omega) hm
theorem intL_ne (i : Int) : intL i ≠ [] := by
  cases i with
  | ofNat n => exact TL.numL_ne n
  | negSucc n => exact List.cons_ne_nil _ _
theorem joinL_len (s : List Nat) {m : Nat} : ∀ {ps : List (List Nat)}, (∀ p ∈ ps, p.length ≤ m) → (joinL s ps).length ≤ ps.length * (m + s.length)
  | [], _ => by rw [joinL]; simp
  | [p], h => by
    have := h p (by simp)
    rw [joinL]
    simp only [List.length_cons, List.length_nil]
    omega
  | p :: q :: r, h => by
    have ih := joinL_len s (ps := q :: r) fun x hx => h x (by simp [hx])
    have := h p (by simp)
    rw [joinL, List.length_append, List.length_append, List.length_cons (a := p), Nat.succ_mul]
    omega
theorem sum_len {m : Nat} : ∀ {ps : List (List Nat)}, (∀ p ∈ ps, p.length ≤ m) → ((ps.map S).map (·.length)).sum ≤ ps.length * m
  | [], _ => by simp
  | p :: r, h => by
    have ih := sum_len (ps := r) fun x hx => h x (by simp [hx])
    have := h p (by simp)
    rw [List.map_cons, List.map_cons, List.sum_cons, List.length_cons, Nat.succ_mul, S_len]
    omega
end Sd
set_option Elab.async false
set_option linter.all false
set_option maxRecDepth 100000
set_option maxHeartbeats 4000000
/-! M4: programs as plain data, their lines. -/
namespace Sd
open PySem PySem.Spec L2
open SX (S S_len S_cat S_inj)
open TL (numL joinL spl)
abbrev Row := List (Int × Int)
abbrev Pas := List Int × List Row
abbrev Tel := List Nat × Int
structure Pg where
  ks : List (List Nat)
  ps : List Pas
  ts : List Tel
abbrev strD (l : List Nat) : D := .str (S l)
def pairD (p : Int × Int) : D := .tup [.int p.1, .int p.2]
def rowD (r : Row) : D := .tup (r.map pairD)
def intsD (l : List Int) : D := .tup (l.map .int)
def rowsD (l : List Row) : D := .tup (l.map rowD)
def pasD (p : Pas) : D := .tup [intsD p.1, rowsD p.2]
def telD (t : Tel) : D := .tup [strD t.1, .int t.2]
def Pg.kD (g : Pg) : D := .tup (g.ks.map strD)
def Pg.pD (g : Pg) : D := .tup (g.ps.map pasD)
def Pg.tD (g : Pg) : D := .tup (g.ts.map telD)
def Pg.D (g : Pg) : D := .tup [g.kD, g.pD, g.tD]
def nameC (k : List Nat) : Bool := decide (1 ≤ k.length) && decide (k.length ≤ 8) && k.all fun c => decide (97 ≤ c ∧ c ≤ 122)
def ascC : List (List Nat) → Bool
  | a :: b :: r => decide (a < b) && ascC (b :: r)
  | _ => true
/-- sizes -/
structure PasS (p : Pas) : Prop where
  b : p.1.length ≤ 100
  r : p.2.length ≤ 100
  w : ∀ x ∈ p.2, x.length ≤ 4 ∧ ∀ q ∈ x, smI q.1 ∧ smI q.2
  s : ∀ i ∈ p.1, smI i
structure PgS (g : Pg) : Prop where
  k : g.ks.length ≤ 4
  kw : ∀ x ∈ g.ks, x.length ≤ 8
  p : g.ps.length ≤ 2
  pw : ∀ x ∈ g.ps, PasS x
  t : g.ts.length ≤ 100
  tw : ∀ x ∈ g.ts, x.1.length ≤ 8 ∧ smI x.2

/-! ### lines -/
def pairC (p : Int × Int) : List Nat := intL p.1 ++ ([32] ++ intL p.2)
def rowC (r : Row) : List Nat := [32, 32] ++ joinL [32] (r.map pairC)
def wPass : List Nat := [112, 97, 115, 115]
def wKinds : List Nat := [107, 105, 110, 100, 115]
def wTell : List Nat := [116, 101, 108, 108]
def begC (l : List Int) : List Nat := joinL [32] (wPass :: l.map intL)
def pasC (p : Pas) : List (List Nat) := begC p.1 :: p.2.map rowC
def telC (t : Tel) : List Nat := wTell ++ ([32] ++ (t.1 ++ ([32] ++ intL t.2)))
def kindsC (ks : List (List Nat)) : List Nat := joinL [32] (wKinds :: ks)
def Pg.lines (g : Pg) : List (List Nat) := kindsC g.ks :: (g.ps.flatMap pasC ++ g.ts.map telC)
def pageC (ls : List (List Nat)) : List Nat := joinL [] (ls.map (· ++ [10]))
theorem joinL_nil : ∀ ls : List (List Nat), joinL [] ls = ls.flatten
  | [] => rfl
  | [p] => by rw [joinL]; simp
  | p :: q :: r => by rw [joinL, joinL_nil (q :: r)]; simp
theorem pairC_len {p : Int × Int} (h : smI p.1 ∧ smI p.2) : (pairC p).length ≤ 15 := by
  have h1 := intL_len h.1
  have h2 := intL_len h.2
  unfold pairC
  rw [List.length_append, List.length_append]
  simp only [List.length_cons, List.length_nil]
  omega
theorem rowC_len {r : Row} (h : r.length ≤ 4 ∧ ∀ q ∈ r, smI q.1 ∧ smI q.2) : (rowC r).length ≤ 66 := by
  unfold rowC
  have := joinL_len [32] (m := 15) (ps := r.map pairC) fun p hp => by
    obtain ⟨q, hq, rfl⟩ := List.mem_map.mp hp
    exact pairC_len (h.2 q hq)
  rw [List.length_map] at this
  rw [List.length_append]
  have e : r.length * (15 + [32].length) ≤ 4 * 16 := Nat.mul_le_mul h.1 (Nat.le_refl _)
  simp only [List.length_cons, List.length_nil] at this e ⊢
  omega
theorem begC_len {l : List Int} (hl : l.length ≤ 100) (h : ∀ i ∈ l, smI i) : (begC l).length ≤ 808 := by
  unfold begC
  have := joinL_len [32] (m := 7) (ps := wPass :: l.map intL) fun p hp => by
    rcases List.mem_cons.mp hp with rfl | hp
    · decide
    · obtain ⟨q, hq, rfl⟩ := List.mem_map.mp hp
      exact intL_len (h q hq)
  simp only [List.length_cons, List.length_nil, List.length_map] at this
  have e : (l.length + 1) * 8 ≤ 101 * 8 := Nat.mul_le_mul (by omega) (Nat.le_refl _)
  omega
theorem telC_len {t : Tel} (h : t.1.length ≤ 8 ∧ smI t.2) : (telC t).length ≤ 21 := by
  have h2 := intL_len h.2
  unfold telC
  simp only [List.length_append, List.length_cons, List.length_nil, show wTell.length = 4 from rfl]
  omega
theorem kindsC_len {ks : List (List Nat)} (h : ks.length ≤ 4) (h2 : ∀ x ∈ ks, x.length ≤ 8) : (kindsC ks).length ≤ 45 := by
  unfold kindsC
  have := joinL_len [32] (m := 8) (ps := wKinds :: ks) fun p hp => by
    rcases List.mem_cons.mp hp with rfl | hp
    · decide
    · exact h2 p hp
  simp only [List.length_cons, List.length_nil] at this
  have e : (ks.length + 1) * 9 ≤ 5 * 9 := Nat.mul_le_mul (by omega) (Nat.le_refl _)
  omega
theorem pasC_len {p : Pas} (h : PasS p) : (pasC p).length ≤ 101 ∧ ∀ l ∈ pasC p, l.length ≤ 808 := by
  refine ⟨by unfold pasC; rw [List.length_cons, List.length_map]; have := h.r; omega, fun l hl => ?_⟩
  rcases List.mem_cons.mp hl with rfl | hl
  · exact begC_len h.b h.s
  · obtain ⟨r, hr, rfl⟩ := List.mem_map.mp hl
    have := rowC_len (h.w r hr)
    omega
theorem flat_len : ∀ {ps : List Pas}, (∀ p ∈ ps, PasS p) → (ps.flatMap pasC).length ≤ ps.length * 101 ∧ ∀ l ∈ ps.flatMap pasC, l.length ≤ 808
  | [], _ => ⟨by simp, by simp⟩
  | p :: ps, h => by
    obtain ⟨h1, h2⟩ := flat_len (ps := ps) fun x hx => h x (by simp [hx])
    obtain ⟨h3, h4⟩ := pasC_len (h p (by simp))
    rw [List.flatMap_cons, List.length_append, List.length_cons, Nat.succ_mul]
    exact ⟨by omega, fun l hl => (List.mem_append.mp hl).elim (h4 l) (h2 l)⟩
theorem lines_len {g : Pg} (h : PgS g) : g.lines.length ≤ 303 ∧ ∀ l ∈ g.lines, l.length ≤ 808 := by
  obtain ⟨h1, h2⟩ := flat_len h.pw
  have e : g.ps.length * 101 ≤ 2 * 101 := Nat.mul_le_mul h.p (Nat.le_refl _)
  have ht := h.t
  unfold Pg.lines
  rw [List.length_cons, List.length_append, List.length_map]
  refine ⟨by omega, fun l hl => ?_⟩
  rcases List.mem_cons.mp hl with rfl | hl
  · have := kindsC_len h.k h.kw; omega
  · rcases List.mem_append.mp hl with hl | hl
    · exact h2 l hl
    · obtain ⟨t, ht, rfl⟩ := List.mem_map.mp hl
      have := telC_len (h.tw t ht); omega
theorem page_len {ls : List (List Nat)} (h1 : ls.length ≤ 303) (h2 : ∀ l ∈ ls, l.length ≤ 808) : (pageC ls).length ≤ 245127 := by
  unfold pageC
  have := joinL_len [] (m := 809) (ps := ls.map (· ++ [10])) fun p hp => by
    obtain ⟨q, hq, rfl⟩ := List.mem_map.mp hp
    have := h2 q hq
    rw [List.length_append, List.length_singleton]
    omega
  rw [List.length_map] at this
  simp only [List.length_nil] at this
  have e : ls.length * 809 ≤ 303 * 809 := Nat.mul_le_mul h1 (Nat.le_refl _)
  omega

/-! ### reading -/
def digC (c : Nat) : Bool := decide (48 ≤ c ∧ c ≤ 57)
def absC (l : List Nat) : List Nat := if l.take 1 = [45] then l.drop 1 else l
def numC (l : List Nat) : Bool := decide (1 ≤ (absC l).length) && decide ((absC l).length ≤ 6) && (absC l).all digC && (decide (l = [48]) || !decide ((absC l).head? = some 48))
def valC (l : List Nat) : Int := if l.take 1 = [45] then -(NumText.digitsVal (l.drop 1) : Int) else (NumText.digitsVal l : Int)
def numsC (ws : List (List Nat)) : Option (List Int) := if ws.all numC then some (ws.map valC) else none
def numsD : Option (List Int) → D
  | none => .non
  | some l => intsD l
def splitC (l : List Nat) (c : Nat) : List (List Nat) := spl [c] 0 [] l
def pairsC (n : Nat) (l : List Int) : Row := (List.range n).map fun i => (l.getD (2 * i) 0, l.getD (2 * i + 1) 0)
def rowOf (n : Nat) (l : List Nat) : Option Row := match numsC (splitC (l.drop 2) 32) with
  | none => none
  | some ns => if l.take 2 = [32, 32] ∧ ns.length = 2 * n then some (pairsC n ns) else none
def rowOD : Option Row → D
  | none => .non
  | some r => rowD r
theorem dig_in (c : Nat) : decide (c ∈ ("0123456789" : Str).cps.toList) = digC c := by
  have e : ("0123456789" : Str).cps.toList = [48, 49, 50, 51, 52, 53, 54, 55, 56, 57] := by decide +kernel
  rw [e]
  unfold digC
  refine decide_eq_decide.mpr ⟨fun h => ?_, fun h => ?_⟩
  · simp only [List.mem_cons, List.not_mem_nil, or_false] at h
    omega
  · simp only [List.mem_cons, List.not_mem_nil, or_false]
    omega
theorem numC_val {l : List Nat} (h : numC l = true) : PySem.intText? (S l) = some (valC l) ∧ l.length ≤ 7 := by
  unfold numC at h
  simp only [Bool.and_eq_true, decide_eq_true_eq] at h
  obtain ⟨⟨⟨h1, h2⟩, h3⟩, _⟩ := h
  have hd : NumText.AllDigits (absC l) := fun c hc => by
    have := List.all_eq_true.mp h3 c hc
    simpa [digC] using this
  have hne : absC l ≠ [] := fun e => by rw [e] at h1; exact absurd h1 (by decide)
  unfold valC
  unfold absC at h1 h2 hd hne
  by_cases hm : l.take 1 = [45]
  · rw [if_pos hm] at h1 h2 hd hne
    rw [if_pos hm]
    obtain ⟨r, rfl⟩ : ∃ r, l = 45 :: r := by
      cases l with
      | nil => cases hm
      | cons c r => exact ⟨r, by simp at hm; rw [hm]⟩
    refine ⟨intText_neg rfl hd hne ?_, ?_⟩
    · rw [S_len, List.length_cons]; simp at h2; omega
    · simp at h2 ⊢; omega
  · rw [if_neg hm] at h1 h2 hd hne
    rw [if_neg hm]
    exact ⟨intText_digits (x := S l) hd hne (by rw [S_len]; omega), by omega⟩
end Sd
namespace Sd
open PySem PySem.Spec L2
open SX (S S_len S_cat S_inj)
open TL (numL joinL spl)
theorem cut_from (l : List Nat) (n : Nat) : cutS (S l) (some (n : Int)) none = S (l.drop n) := by
  rw [C8.cutS_slice, SX.slice_from (by omega), Int.toNat_natCast]
theorem cut_to (l : List Nat) (n : Nat) : cutS (S l) none (some (n : Int)) = S (l.take n) := by
  rw [C8.cutS_slice, SX.slice_to (by omega), Int.toNat_natCast]
theorem str_S (x : Str) : x = S (TL.tl x) := (SX.S_tl x).symm
theorem S_eq {a b : List Nat} : decide (S a = S b) = decide (a = b) := decide_eq_decide.mpr ⟨fun h => S_inj h, fun h => by rw [h]⟩
theorem join_SS (a : List Nat) (ys : List (List Nat)) : Txt.join (S a) (ys.map S) = S (joinL a ys) := SX.join_S a ys
theorem split_C (l : List Nat) (c : Nat) (hc : c < 256) : Txt.split (S l) (S [c]) = (splitC l c).map S := SX.split_S (by simp) (by simpa using hc)
theorem strs_map (ws : List (List Nat)) : ws.map strD = (ws.map S).map .str := by rw [List.map_map]; rfl
theorem spl_len {c : Nat} : ∀ {l acc w : List Nat}, w ∈ spl [c] 0 acc l → w.length ≤ acc.length + l.length
  | [], acc, w, h => by
    rw [TL.spl_nil] at h
    rw [List.mem_singleton.mp h]
    omega
  | x :: l, acc, w, h => by
    by_cases hx : TL.pre [c] (x :: l) = true
    · rw [TL.spl_hit hx] at h
      rcases List.mem_cons.mp h with rfl | h
      · omega
      · have := spl_len (acc := []) h
        simp only [List.length_cons, List.length_nil] at this ⊢
        omega
    · rw [TL.spl_miss (by simpa using hx)] at h
      have := spl_len h
      simp only [List.length_append, List.length_cons, List.length_nil] at this ⊢
      omega
theorem spl_cnt {c : Nat} : ∀ {l acc : List Nat}, (spl [c] 0 acc l).length ≤ l.length + 1
  | [], acc => by rw [TL.spl_nil]; simp
  | x :: l, acc => by
    by_cases hx : TL.pre [c] (x :: l) = true
    · rw [TL.spl_hit hx]
      have := spl_cnt (l := l) (acc := []) (c := c)
      show (spl [c] 0 [] l).length + 1 ≤ _
      simp only [List.length_cons]
      omega
    · rw [TL.spl_miss (by simpa using hx)]
      have := spl_cnt (l := l) (acc := acc ++ [x]) (c := c)
      simp only [List.length_cons]
      omega
theorem atN {α : Type} {xs : List α} {i : Nat} (h : i < xs.length) : L2.atI xs (i : Int) = xs[i]? := by
  unfold L2.atI L2.ixN
  rw [if_pos (by omega), if_pos (by omega)]
  simp
end Sd
set_option Elab.async false
set_option linter.all false
set_option maxRecDepth 100000
set_option maxHeartbeats 4000000
/-! M5: the plain data are told by their D. -/
namespace Sd
open PySem PySem.Spec L2
open SX (S S_len S_cat S_inj)
open TL (numL joinL spl)
theorem map_inj {α β : Type} {f : α → β} (hf : ∀ a b, f a = f b → a = b) {l m : List α} (h : l.map f = m.map f) : l = m := (List.map_inj_right (f := f) hf).mp h
theorem strD_inj {a b : List Nat} (h : strD a = strD b) : a = b := S_inj (D.str.inj h)
theorem pairD_inj {a b : Int × Int} (h : pairD a = pairD b) : a = b := by
  have := D.tup.inj h
  simp only [List.cons.injEq, D.int.injEq, and_true] at this
  exact Prod.ext this.1 this.2
theorem rowD_inj {a b : Row} (h : rowD a = rowD b) : a = b := map_inj (fun _ _ => pairD_inj) (D.tup.inj h)
theorem intsD_inj {a b : List Int} (h : intsD a = intsD b) : a = b := map_inj (fun _ _ => D.int.inj) (D.tup.inj h)
theorem rowsD_inj {a b : List Row} (h : rowsD a = rowsD b) : a = b := map_inj (fun _ _ => rowD_inj) (D.tup.inj h)
theorem pasD_inj {a b : Pas} (h : pasD a = pasD b) : a = b := by
  have := D.tup.inj h
  simp only [List.cons.injEq, and_true] at this
  exact Prod.ext (intsD_inj this.1) (rowsD_inj this.2)
theorem telD_inj {a b : Tel} (h : telD a = telD b) : a = b := by
  have := D.tup.inj h
  simp only [List.cons.injEq, and_true] at this
  exact Prod.ext (strD_inj this.1) (D.int.inj this.2)
theorem kD_inj {a b : List (List Nat)} (h : a.map strD = b.map strD) : a = b := map_inj (fun _ _ => strD_inj) h
theorem pD_inj {a b : List Pas} (h : a.map pasD = b.map pasD) : a = b := map_inj (fun _ _ => pasD_inj) h
theorem tD_inj {a b : List Tel} (h : a.map telD = b.map telD) : a = b := map_inj (fun _ _ => telD_inj) h
theorem Pg_inj {a b : Pg} (h1 : a.kD = b.kD) (h2 : a.pD = b.pD) (h3 : a.tD = b.tD) : a = b := by
  cases a
  cases b
  have e1 := kD_inj (D.tup.inj h1)
  have e2 := pD_inj (D.tup.inj h2)
  have e3 := tD_inj (D.tup.inj h3)
  simp only at e1 e2 e3
  rw [e1, e2, e3]
theorem Pg.D_inj {a b : Pg} (h : a.D = b.D) : a = b := by
  have := D.tup.inj h
  simp only [List.cons.injEq, and_true] at this
  exact Pg_inj this.1 this.2.1 this.2.2
theorem map_at {α β : Type} {f : α → β} {l : List α} {i : Nat} {d : β} (h : (l.map f)[i]? = some d) : ∃ a, l[i]? = some a ∧ d = f a := by
  rw [List.getElem?_map] at h
  cases e : l[i]? with
  | none => rw [e] at h; cases h
  | some a => rw [e] at h; exact ⟨a, rfl, (Option.some.inj h).symm⟩
end Sd
set_option Elab.async false
set_option linter.all false
set_option maxRecDepth 100000
set_option maxHeartbeats 4000000
/-! Sd8: looking at one's own things, picks, the script. -/
namespace Sd
open PySem PySem.Spec L2
section
variable {w : Wd} {G G' : List Ent} {σ : L2.St} {F H : Hp}
/-- e, seen as e' while nothing is changed -/
def PkOk (K : PySem.W.Frag) (e e' : Ent) : Prop := ∀ (w w' : Wd) (F H F2 : Hp) (s : Option (Option V)) (qs : List Addr), w.K = K → w'.K = K → EntOk w F H e s qs → Same F F2 → (∀ b, b ∈ qs → F2 b = H b) → EntOk w' F2 H e' s []
theorem pk_no {K : PySem.W.Frag} {e : Ent} : PkOk K e .no := fun w w' F H F2 s qs _ _ h f q => rfl
theorem pk_d {K : PySem.W.Frag} {d : D} : PkOk K (.d d) (.d d) := fun w w' F H F2 s qs hw hw' h f q => by
  obtain ⟨_, v, h1, h2⟩ := h
  exact ⟨rfl, v, h1, by rw [hw']; rw [hw] at h2; exact h2.mono f⟩
theorem pk_v {K : PySem.W.Frag} {d : V} : PkOk K (.v d) (.v d) := fun w w' F H F2 s qs hw hw' h f q => ⟨rfl, h.2⟩
theorem pk_l {K : PySem.W.Frag} {xs : List D} : PkOk K (.l xs) (.d (.lst xs)) := fun w w' F H F2 s qs hw hw' h f q => by
  obtain ⟨a, vs, rfl, _, h1, h2, h3⟩ := h
  refine ⟨rfl, .ref a, h1, .lst ((q a (by simp)).trans h2) ?_⟩
  rw [hw']; rw [hw] at h3; exact h3.mono f
def pk1 : Ent → Ent
  | .d x => .d x
  | .v x => .v x
  | .l xs => .d (.lst xs)
  | _ => .no
theorem pk1_ok {K : PySem.W.Frag} : ∀ e : Ent, PkOk K e (pk1 e)
  | .d x => pk_d
  | .v x => pk_v
  | .l x => pk_l
  | .no => pk_no
  | .dr _ _ => pk_no
  | .o _ => pk_no
open Classical in
theorem As.peek (A : As w G σ F H) (hl : G'.length = G.length) (h : ∀ (i : Nat) (e e' : Ent), G[i]? = some e → G'[i]? = some e' → PkOk w.K e e') : ∃ F2, Same F F2 ∧ As ⟨w.K, F2, H, [], []⟩ G' σ F2 H := by
  obtain ⟨q, O⟩ := A.get
  let F2 : Hp := fun b => if ∃ i, i < G.length ∧ b ∈ q i then H b else F b
  have own : ∀ i b, i < G.length → b ∈ q i → F2 b = H b := fun i b hi hb => if_pos ⟨i, hi, hb⟩
  have sm : Same F F2 := fun b o e => by
    show (if ∃ i, i < G.length ∧ b ∈ q i then H b else F b) = some o
    rw [if_neg fun ⟨i, hi, hb⟩ => by rw [(O.at_ i b hi hb).1] at e; cases e]
    exact e
  refine ⟨F2, sm, .mk' (q := fun _ => []) (A.len.trans hl.symm) ⟨Same.refl _, fun b o e => ?_, fun b o e => .inl e, fun b o _ e => e, (fun b hb => nomatch hb), fun b o hb => nomatch hb⟩ ⟨fun i e' he => ?_, (fun i a _ ha => nomatch ha), (fun i j a _ _ ha => nomatch ha), fun i a _ ha => nomatch ha⟩⟩
  · change (if ∃ i, i < G.length ∧ b ∈ q i then H b else F b) = some o at e
    split at e
    · exact e
    · exact A.base.fh b o e
  · have hi : i < G.length := by rw [← hl]; exact (List.getElem?_eq_some_iff.mp he).1
    have eo := O.ok i _ (List.getElem?_eq_getElem hi)
    exact h i _ e' (List.getElem?_eq_getElem hi) he w ⟨w.K, F2, H, [], []⟩ F H F2 _ _ rfl rfl eo sm fun b hb => own i b hi hb
theorem As.back {F2 F' H' : Hp} (A : As w G σ F H) (A' : As ⟨w.K, F2, H, [], []⟩ G' σ F' H') : As w G σ (ext F H H') H' := A.step fun b o e => A'.base.keep b o (by simp) e
variable {te : TE} {tt : TT}
theorem wpt_pk {Q : Bool → Prop} (hl : G'.length = G.length) (hk : ∀ (i : Nat) (e e' : Ent), G[i]? = some e → G'[i]? = some e' → PkOk w.K e e') (h : ∀ F0 H0, wpt ⟨w.K, F0, H0, [], []⟩ tt G' Q) : wpt w tt G Q := fun σ F H A k z => by
  obtain ⟨F2, sm, A2⟩ := A.peek hl hk
  exact h F2 H σ F2 H A2 _ fun b F' H' s' A' q => z b _ H' A.same (A.back A') q
theorem flat_rp {K : PySem.W.Frag} {F F' : Hp} {v : V} {d : D} (h : flatD d = true) (r : Rp K F v d) : Rp K F' v d := by
  cases r with
  | non => exact .non
  | bl b => exact .bl b
  | int i => exact .int i
  | str x => exact .str x
  | _ => cases h
theorem wp_pk {Q : D → Prop} (hl : G'.length = G.length) (hk : ∀ (i : Nat) (e e' : Ent), G[i]? = some e → G'[i]? = some e' → PkOk w.K e e') (h : ∀ F0 H0, wp ⟨w.K, F0, H0, [], []⟩ te G' fun d => flatD d = true ∧ Q d) : wp w te G Q := fun σ F H A k z => by
  obtain ⟨F2, sm, A2⟩ := A.peek hl hk
  exact h F2 H σ F2 H A2 _ fun v d F' H' s' A' r q => z v d _ H' A.same (A.back A') (flat_rp q.1 r) q.2
theorem pkMap (K : PySem.W.Frag) (G : List Ent) : ∀ (i : Nat) (e e' : Ent), G[i]? = some e → (G.map pk1)[i]? = some e' → PkOk K e e' := fun i e e' h h' => by
  rw [List.getElem?_map, h] at h'
  cases h'
  exact pk1_ok e
/-- own lists as data -/
theorem wpt_peek {Q : Bool → Prop} (h : ∀ F0 H0, wpt ⟨w.K, F0, H0, [], []⟩ tt (G.map pk1) Q) : wpt w tt G Q := wpt_pk (List.length_map _) (pkMap _ G) h
theorem wp_peek {Q : D → Prop} (h : ∀ F0 H0, wp ⟨w.K, F0, H0, [], []⟩ te (G.map pk1) fun d => flatD d = true ∧ Q d) : wp w te G Q := wp_pk (List.length_map _) (pkMap _ G) h
end

/-! ### x[i] of whatever sequence -/
def itemsP : D → List D
  | .lst xs => xs
  | .tup xs => xs
  | .str s => s.cps.toList.map fun c => .str ⟨#[c]⟩
  | _ => []
theorem rp_at {K : PySem.W.Frag} {F : Hp} {vs : List V} {xs : List D} {i : Nat} {d : D} (r : RpL K F vs xs) (h : xs[i]? = some d) : ∃ v, L2.atI vs (i : Int) = some v ∧ Rp K F v d := by
  obtain ⟨v, hv, rv⟩ := r.getD h
  exact ⟨v, by rw [atN (List.getElem?_eq_some_iff.mp hv).1]; exact hv, rv⟩
theorem r2_ixA {K : PySem.W.Frag} {x d : D} {i : Nat} {Q : D → Prop} (h : (itemsP x)[i]? = some d) (hl : (itemsP x).length ≤ 1000000) (q : Q d) : R2D K (rIx K) x (.int i) Q := fun F H v u s r1 r2 k z => by
  cases r2
  cases r1 with
  | lst e r =>
    obtain ⟨v, hv, rv⟩ := rp_at r h
    exact .inl ⟨_, _, _, v, rfl, rfl, .inl (.inl (s _ _ e)), hv, z _ _ H (Same.refl _) (by rw [ext_self s]; exact rv) q⟩
  | tup e r =>
    obtain ⟨v, hv, rv⟩ := rp_at r h
    exact .inr (.inl ⟨_, _, _, v, rfl, rfl, .inl (.inl (s _ _ e)), hv, z _ _ H (Same.refl _) (by rw [ext_self s]; exact rv) q⟩)
  | str y =>
    change (y.cps.toList.map fun c => D.str ⟨#[c]⟩)[i]? = some d at h
    obtain ⟨c, hc, rfl⟩ := map_at h
    have hi := (List.getElem?_eq_some_iff.mp hc).1
    refine .inr (.inr ⟨y, _, c, rfl, rfl, ?_, (atN hi).trans hc, z _ _ H (Same.refl _) (.str _) q⟩)
    change (y.cps.toList.map fun c => D.str ⟨#[c]⟩).length ≤ 1000000 at hl
    rw [List.length_map] at hl
    exact line_ok (by simpa [Str.length] using hl)
  | _ => simp [itemsP] at h
theorem len_itemsP {x : D} (h : itemsP x ≠ []) (hl : (itemsP x).length ≤ 1000000) : lenD x = some (itemsP x).length := by
  cases x with
  | lst xs => rfl
  | tup xs => rfl
  | str y =>
    show (if y.length ≤ 1000000 then some y.length else none) = some (y.cps.toList.map fun c => D.str ⟨#[c]⟩).length
    change (y.cps.toList.map fun c => D.str ⟨#[c]⟩).length ≤ 1000000 at hl
    rw [List.length_map] at hl ⊢
    rw [if_pos (by simpa [Str.length] using hl)]
    simp [Str.length]
  | _ => exact absurd rfl h

/-! ### promises by a number that is drawn -/
def intIn (n : Int) (d : D) : Prop := ∃ k, d = .int k ∧ 0 ≤ k ∧ k < n

/-! ### the script: a list of the module, or one that nobody changes -/
section
variable {w : Wd} {G : List Ent} {Q : D → Prop} {tt : TT} {i : Nat}
theorem sq_at {a : Addr} {xs : List V} {σ : L2.St} {F H : Hp} (A : As w G σ F H) (hO : a ∉ w.O) (h : SqL w.K w.H0 a xs) : SqL w.K H a xs := by
  rcases h with h | h
  · refine .inl ?_
    rcases h with h | ⟨o, h⟩
    · exact .inl (A.base.keep _ _ hO h)
    · exact .inr ⟨o, A.base.keep _ _ hO h⟩
  · exact .inr h
theorem wp_lenV {a : Addr} {xs : List V} (e : G[i]? = some (.v (.ref a))) (hO : a ∉ w.O) (h : SqL w.K w.H0 a xs) (q : Q (.int xs.length)) : wp w (tCB (fun xs H Q => ∃ x n, xs = [x] ∧ LenV w.K x H n ∧ Q (.int n) H) (tCons (tVar i) tNil)) G Q := fun σ F H A k z =>
  ⟨_, A.val e, _, xs.length, rfl, .inl ⟨xs, sq_at A hO h, rfl⟩, z _ _ F H (Same.refl _) A (.int _) q⟩
end
end Sd
set_option Elab.async false
set_option linter.all false
set_option maxRecDepth 100000
set_option maxHeartbeats 4000000
/-! Sd9: new things of one's own; the law's source of draws. -/
namespace Sd
open PySem PySem.Spec L2
section
variable {w : Wd} {G : List Ent} {σ : L2.St} {F H H' : Hp} {i : Nat}
/-- an entry told otherwise -/
theorem As.conv (A : As w G σ F H) {e e' : Ent} (h : G[i]? = some e) (c : ∀ s qs, EntOk w F H e s qs → EntOk w F H e' s qs) : As w (G.set i e') σ F H := by
  obtain ⟨q, O⟩ := A.get
  have hi := (List.getElem?_eq_some_iff.mp h).1
  refine .mk' (q := q) (by simp [A.len]) A.base ⟨fun j u hj => ?_, fun j a hj ha => ?_, fun j m a hj hm => ?_, fun j a hj ha => ?_⟩
  · by_cases z : j = i
    · subst z
      rw [List.getElem?_set_self hi] at hj
      cases hj
      exact c _ _ (O.ok j _ h)
    · rw [List.getElem?_set_ne (Ne.symm z)] at hj
      exact O.ok j u hj
  · rw [List.length_set] at hj; exact O.at_ j a hj ha
  · rw [List.length_set] at hj hm; exact O.dis j m a hj hm
  · rw [List.length_set] at hj; exact O.pd j a hj ha
/-- nothing -/
def o0 (v0 : V) : OwnP where
  ok := fun F H v qs => v = v0 ∧ qs = []
  step := fun _ _ h => h
theorem As.putNew (A : As w G σ F H) (hi : i < G.length) (x : OwnP) {v : V} {qs : List Addr} (s : Same H H') (hq : ∀ a, a ∈ qs → H a = none ∧ H' a ≠ none) (hx : x.ok (extBut F H H' qs) H' v qs) :
    As w (G.set i (.o x)) (σ.set i (some v)) (extBut F H H' qs) H' ∧ Same F (extBut F H H' qs) := by
  have A0 := A.put i (s := some v) (e := .o (o0 v)) ⟨v, rfl, rfl, rfl⟩
  have h0 : (G.set i (.o (o0 v)))[i]? = some (.o (o0 v)) := List.getElem?_set_self hi
  obtain ⟨v', qs', h1, ⟨rfl, rfl⟩, h3, up⟩ := A0.own1 h0
  have := up x H' qs (fun b u _ e => s b u e) (fun b hb => nomatch hb) (fun a ha => ⟨.inr (hq a ha).1, (hq a ha).2⟩) hx
  rw [List.set_set] at this
  exact this
def drP (p c : Addr) : OwnP where
  ok := fun F H v qs => v = .ref p ∧ qs = [p, c] ∧ Dr H p c
  step := fun {F F' H H' v qs} f k h => by
    obtain ⟨rfl, rfl, h1, i, m, ns, h2, h3, r⟩ := h
    exact ⟨rfl, rfl, h1, i, m, ns, k _ _ (by simp) h2, k _ _ (by simp) h3, r⟩
end

/-! ### what a script gives -/
/-- a def of the script alone -/
def startV (n : Nat) (a : Addr) : List Ent := .v (.ref a) :: List.replicate (n - 1) .no
theorem as_script {K : PySem.W.Frag} {N : List Str} {H : Hp} {a : Addr} (hN : 1 ≤ N.length) : As ⟨K, fun _ => none, H, [], []⟩ (startV N.length a) (start N [.ref a]) (fun _ => none) H := by
  refine ⟨?_, ⟨Same.refl _, (fun b o h => nomatch h), (fun b o h => nomatch h), fun b o _ h => h, (fun b h => nomatch h), fun b o h => nomatch h⟩, fun _ => [], fun j e h => ?_, fun j b _ h => (nomatch h), fun i j b _ _ h => (nomatch h), fun i b _ h => (nomatch h)⟩
  · unfold startV L2.start
    simp <;> omega
  · cases j with
    | zero =>
      cases h
      exact ⟨rfl, start_at rfl⟩
    | succ j =>
      change (List.replicate (N.length - 1) Ent.no)[j]? = some e at h
      rw [List.getElem?_replicate] at h
      split at h
      · cases h; rfl
      · cases h
def spState (K : PySem.W.Frag) : Sp := fun vs H Q _ => ∃ (a : Addr) (ns : List Int), vs = [.ref a] ∧ SqL K H a (ns.map V.int) ∧ ns.length ≤ 63 ∧ ∀ (H' : Hp) (p c : Addr), Same H H' → H p = none → H c = none → Dr H' p c → Q (.ref p) H'
def drD (d : D) : Prop := ∃ ns : List Int, d = .lst [.lst (ns.map .int), .int 0, .int 1] ∧ ns ≠ [] ∧ ns.length ≤ 63 ∧ ∀ n ∈ ns, 0 ≤ n
theorem rpl_ints {K : PySem.W.Frag} {F : Hp} : ∀ {ns : List Int} {vs : List V}, RpL K F vs (ns.map .int) → vs = ns.map V.int
  | [], _, .nil => rfl
  | n :: ns, _, .cons r t => by
    cases r
    rw [List.map_cons, rpl_ints t]
theorem spState_body {K : PySem.W.Frag} {N : List Str} (hN : 1 ≤ N.length) {t : TS} {vs : List V} {H : Hp} {Q : VK} {E : XK}
    (b : ∀ (H0 : Hp) (a : Addr) (ns : List Int), SqL K H0 a (ns.map V.int) → ns.length ≤ 63 → wps ⟨K, fun _ => none, H0, [], []⟩ t (startV N.length a) (fun _ => False) (fun _ d => drD d)) (h : spState K vs H Q E) :
    t { nx := fun _ H' => Q .non H', rt := Q } (start N vs) H := by
  obtain ⟨a, ns, rfl, hs, hl, q⟩ := h
  refine b H a ns hs hl _ _ _ _ (as_script hN) (fun _ _ _ _ _ _ z => z.elim) fun G' σ' v d F' H' s A r z => ?_
  obtain ⟨ms, rfl, h1, h2, h3⟩ := z
  have new : ∀ b o, F' b = some o → H b = none := fun b o e => by
    rcases A.base.src b o e with z | z
    · cases z
    · exact z
  cases r with
  | lst e r =>
    rename_i p us
    cases r with
    | cons r1 r =>
      cases r with
      | cons r2 r =>
        cases r with
        | cons r3 r =>
          cases r
          cases r2
          cases r3
          cases r1 with
          | lst e1 r1 =>
            rename_i c ws
            cases rpl_ints r1
            refine q H' p c (fun b o e => A.base.keep b o (by simp) e) (new _ _ e) (new _ _ e1) ⟨fun z => ?_, 0, 1, ms, A.fh _ _ e, A.fh _ _ e1, h1, h2, h3, by omega, by omega, by omega⟩
            subst z
            rw [e] at e1
            cases ms with
            | nil => exact h1 rfl
            | cons m ms => cases e1
section
variable {w : Wd} {G : List Ent} {i j : Nat} {N : List Ent → Prop} {R : List Ent → D → Prop} {E : XK}
/-- draws = state(script) -/
theorem wps_state {a : Addr} {ns : List Int} (e : G[j]? = some (.v (.ref a))) (hi : i < G.length) (hO : a ∉ w.O) (hs : SqL w.K w.H0 a (ns.map V.int)) (hl : ns.length ≤ 63) (h : ∀ p c, N (G.set i (.dr p c))) :
    wps w (tAsg (tCall (spState w.K) [] E (tCons (tVar j) tNil)) (gName i)) G N R := fun σ F H En A n r => by
  refine ⟨.ref a, A.val e, a, ns, rfl, sq_at A hO hs, hl, fun H' p c s hp hc hd => ?_⟩
  have hq : ∀ b, b ∈ [p, c] → H b = none ∧ H' b ≠ none := fun b hb => by
    obtain ⟨h1, i, m, ms, h2, h3, _⟩ := hd
    rcases List.mem_cons.mp hb with rfl | hb
    · exact ⟨hp, by rw [h2]; exact fun z => nomatch z⟩
    · obtain rfl : b = c := by simpa using hb
      exact ⟨hc, by rw [h3]; exact fun z => nomatch z⟩
  obtain ⟨A1, s1⟩ := A.putNew hi (drP p c) s hq ⟨rfl, rfl, hd⟩
  have A2 := A1.conv (i := i) (e' := .dr p c) (List.getElem?_set_self hi) fun s qs ⟨v, h1, h2, h3, h4⟩ => ⟨h3, by rw [h1, h2], h4⟩
  rw [List.set_set] at A2
  exact n _ _ _ _ s1 A2 (h p c)
/-- script[lo:hi] -/
theorem wpl_slV {a : Addr} {ns : List Int} {Q : List D → Prop} {tl th : TO} (e : G[j]? = some (.v (.ref a))) (hO : a ∉ w.O) (hs : SqL w.K w.H0 a (ns.map V.int)) (h : wpo w tl G fun lo => wpo w th G fun hi => Q (cutD (ns.map .int) lo hi)) :
    wpl w (tSl (rSlL w.K) (tVar j) tl th) G Q := fun σ F H A k z => by
  refine ⟨.ref a, A.val e, h σ F H A _ fun lo F1 H1 s1 A1 q => q σ F1 H1 A1 _ fun hi F2 H2 s2 A2 q2 => ⟨a, _, rfl, sq_at A2 hO hs, fun p hp => ?_⟩⟩
  have r : RpL w.K F2 (ns.map V.int) (ns.map D.int) := by
    clear hs q2 q h z
    induction ns with
    | nil => exact .nil
    | cons n ns ih => exact .cons (.int n) ih
  have := z p _ _ F2 (upd H2 p (.lst (cutV (ns.map V.int) lo hi))) (s1.trans s2) (A2.pend hp) (fun u hu => A2.fresh hp u hu) (r.cut lo hi) q2
  exact this
end
end Sd
set_option Elab.async false
set_option linter.all false
set_option maxRecDepth 100000
set_option maxHeartbeats 4000000
namespace Sd
open PySem PySem.Spec L2
section
variable {w : Wd} {G : List Ent} {i j : Nat} {N : List Ent → Prop} {R : List Ent → D → Prop} {te : TE}
/-- a, b = e, [] by a tuple -/
theorem wps_asgT2 (h : wp w te G fun d => N ((G.set i (.d d)).set j (.l []))) : wps w (tAsg (tTup (tCons te (tCons (tLst tNil) tNil))) (gTup w.K 2 (gCons (gName i) (gCons (gName j) gNil)))) G N R := fun σ F H E A n r =>
  h σ F H A _ fun v d F1 H1 s1 A1 r1 q => by
    refine ⟨line_ok (by simp), fun p hp => ⟨line_ok (by simp), fun t ht => ⟨t, _, rfl, .inl (.inl upd_same), rfl, v, _, rfl, .ref p, _, rfl, rfl, ?_⟩⟩⟩
    have A2 := (A1.pend (o := .lst []) hp).new (o := .tup [v, .ref p]) ht
    have ft : F1 t = none := (A1.pend (o := .lst []) hp).fh.free ht
    have s2 : Same F1 (upd F1 t (.tup [v, .ref p])) := same_new ft
    have A3 := A2.putD i (r1.mono s2)
    have A4 := A3.putL j (fun u hu => A1.fresh hp u hu) .nil
    exact n _ _ _ _ (s1.trans s2) A4 q
end
end Sd
set_option Elab.async false
set_option linter.all false
set_option maxRecDepth 100000
set_option maxHeartbeats 4000000
namespace Sd
open PySem PySem.Spec L2
open SX (S S_len S_cat S_inj)
open TL (numL joinL spl)
structure LapOk (size starts most : Nat) (p : Pas) : Prop where
  b : p.1.length = starts
  r0 : 1 ≤ p.2.length
  r1 : p.2.length ≤ most
  s : ∀ i ∈ p.1, 0 ≤ i ∧ i < p.2.length
  w : ∀ x ∈ p.2, x.length = size ∧ ∀ q ∈ x, (0 ≤ q.1 ∧ q.1 < p.2.length) ∧ -999 ≤ q.2 ∧ q.2 ≤ 999
theorem ints_of {P : Int → Prop} : ∀ {ys : List D}, (∀ y ∈ ys, ∃ k, y = .int k ∧ P k) → ∃ ks : List Int, ys = ks.map .int ∧ ks.length = ys.length ∧ ∀ k ∈ ks, P k
  | [], _ => ⟨[], rfl, rfl, by simp⟩
  | y :: ys, h => by
    obtain ⟨ks, h1, h2, h3⟩ := ints_of (ys := ys) fun z hz => h z (by simp [hz])
    obtain ⟨k, rfl, hk⟩ := h y (by simp)
    exact ⟨k :: ks, by rw [h1]; rfl, by simp [h2], fun z hz => by
      rcases List.mem_cons.mp hz with rfl | hz
      · exact hk
      · exact h3 z hz⟩
theorem strs_of {P : List Nat → Prop} : ∀ {ys : List D}, (∀ y ∈ ys, ∃ k, y = strD k ∧ P k) → ∃ ks : List (List Nat), ys = ks.map strD ∧ ks.length = ys.length ∧ ∀ k ∈ ks, P k
  | [], _ => ⟨[], rfl, rfl, by simp⟩
  | y :: ys, h => by
    obtain ⟨ks, h1, h2, h3⟩ := strs_of (ys := ys) fun z hz => h z (by simp [hz])
    obtain ⟨k, rfl, hk⟩ := h y (by simp)
    exact ⟨k :: ks, by rw [h1]; rfl, by simp [h2], fun z hz => by
      rcases List.mem_cons.mp hz with rfl | hz
      · exact hk
      · exact h3 z hz⟩
theorem tels_of {P : Tel → Prop} : ∀ {ys : List D}, (∀ y ∈ ys, ∃ k, y = telD k ∧ P k) → ∃ ks : List Tel, ys = ks.map telD ∧ ks.length = ys.length ∧ ∀ k ∈ ks, P k
  | [], _ => ⟨[], rfl, rfl, by simp⟩
  | y :: ys, h => by
    obtain ⟨ks, h1, h2, h3⟩ := tels_of (ys := ys) fun z hz => h z (by simp [hz])
    obtain ⟨k, rfl, hk⟩ := h y (by simp)
    exact ⟨k :: ks, by rw [h1]; rfl, by simp [h2], fun z hz => by
      rcases List.mem_cons.mp hz with rfl | hz
      · exact hk
      · exact h3 z hz⟩
end Sd
set_option Elab.async false
set_option linter.all false
set_option maxRecDepth 100000
set_option maxHeartbeats 4000000
namespace Sd
open PySem PySem.Spec L2
open SX (S S_len S_cat S_inj)
open TL (numL joinL spl)
theorem nodup_sub {α : Type} [DecidableEq α] : ∀ {l m : List α}, l.Nodup → (∀ x ∈ l, x ∈ m) → l.length ≤ m.length
  | [], _, _, _ => Nat.zero_le _
  | x :: l, m, nd, h => by
    have hx := h x (by simp)
    have nd' := List.nodup_cons.mp nd
    have ih := nodup_sub (l := l) (m := m.erase x) nd'.2 fun y hy => (List.mem_erase_of_ne fun e => nd'.1 (by rw [← e]; exact hy)).mpr (h y (by simp [hy]))
    have hl := List.length_erase_of_mem hx
    have hp : 0 < m.length := List.length_pos_iff.mpr fun e => by rw [e] at hx; cases hx
    rw [List.length_cons]
    omega
theorem pigeon {fs : List (List Nat)} {cs : List Nat} (p : List Nat) (nd : cs.Nodup) (h : fs.length < cs.length) : ∃ c ∈ cs, p ++ [c] ∉ fs := by
  by_cases z : ∃ c ∈ cs, p ++ [c] ∉ fs
  · exact z
  · have all : ∀ x ∈ cs.map (fun c => p ++ [c]), x ∈ fs := fun x hx => by
      obtain ⟨c, hc, rfl⟩ := List.mem_map.mp hx
      by_cases y : p ++ [c] ∈ fs
      · exact y
      · exact absurd ⟨c, hc, y⟩ z
    have nd2 : (cs.map (fun c => p ++ [c])).Nodup := List.Pairwise.map _ (fun a b hab e => hab (by simpa using e)) nd
    have := nodup_sub nd2 all
    rw [List.length_map] at this
    omega
def letL : List Nat := [97, 98, 99, 100, 101, 102, 103, 104, 105, 106, 107, 108, 109, 110, 111, 112, 113, 114, 115, 116, 117, 118, 119, 120, 121, 122]
theorem tl_letters : TL.tl letters = letL := by decide +kernel
theorem letL_nd : letL.Nodup := by decide
theorem letL_in {c : Nat} (h : c ∈ letL) : 97 ≤ c ∧ c ≤ 122 := by
  have : letL.all (fun c => decide (97 ≤ c ∧ c ≤ 122)) = true := by decide
  exact of_decide_eq_true (List.all_eq_true.mp this c h)
theorem in_letL {c : Nat} (h : 97 ≤ c ∧ c ≤ 122) : c ∈ letL := by
  have : ∀ k : Nat, k < 26 → 97 + k ∈ letL := by decide
  have := this (c - 97) (by omega)
  rwa [show 97 + (c - 97) = c by omega] at this
theorem nameC_iff {l : List Nat} : nameC l = true ↔ (1 ≤ l.length ∧ l.length ≤ 8) ∧ ∀ c ∈ l, 97 ≤ c ∧ c ≤ 122 := by
  unfold nameC
  rw [Bool.and_eq_true, Bool.and_eq_true, decide_eq_true_eq, decide_eq_true_eq, List.all_eq_true]
  simp
theorem nameC_app {l : List Nat} {c : Nat} (h : nameC l = true) (hc : 97 ≤ c ∧ c ≤ 122) : nameC (l.take 7 ++ [c]) = true := by
  obtain ⟨⟨h1, h2⟩, h3⟩ := nameC_iff.mp h
  refine nameC_iff.mpr ⟨⟨by simp, by rw [List.length_append, List.length_take]; simp; omega⟩, fun x hx => ?_⟩
  rcases List.mem_append.mp hx with hx | hx
  · exact h3 x (List.mem_of_mem_take hx)
  · obtain rfl : x = c := by simpa using hx
    exact hc
def ownL : List Str := ["a", "b", "kinds", "pass", "tell", "run", "swap", "none", "same", "undo", "text", "zzzzzzzz"]
theorem own_names : ∀ y ∈ ownL, nameC (TL.tl y) = true := by
  have h : (ownL.all fun y => nameC (TL.tl y)) = true := by decide +kernel
  exact fun y hy => List.all_eq_true.mp h y hy
theorem flat_ones : ∀ {ws : List (List Nat)}, (∀ w ∈ ws, ∃ c ∈ letL, w = [c]) → ws.flatten.length = ws.length ∧ ∀ c ∈ ws.flatten, c ∈ letL
  | [], _ => ⟨rfl, by simp⟩
  | w :: ws, h => by
    obtain ⟨h1, h2⟩ := flat_ones (ws := ws) fun x hx => h x (by simp [hx])
    obtain ⟨c, hc, rfl⟩ := h w (by simp)
    rw [List.flatten_cons, List.length_append, h1]
    refine ⟨by simp; omega, fun x hx => ?_⟩
    rcases List.mem_append.mp hx with hx | hx
    · obtain rfl : x = c := by simpa using hx
      exact hc
    · exact h2 x hx
end Sd
set_option Elab.async false
set_option linter.all false
set_option maxRecDepth 100000
set_option maxHeartbeats 4000000
namespace Sd
open PySem PySem.Spec L2
open SX (S S_len S_cat S_inj)
open TL (numL joinL spl)
open PyProof.Rows (sortedS risingS ltCps_eq)
theorem ltc_eq : ∀ {a b : List Nat}, ltCps a b = false → ltCps b a = false → a = b
  | [], [], _, _ => rfl
  | [], _ :: _, h, _ => by simp [ltCps] at h
  | _ :: _, [], _, h => by simp [ltCps] at h
  | x :: a, y :: b, h1, h2 => by
    simp only [ltCps, Bool.or_eq_false_iff, decide_eq_false_iff_not, Bool.and_eq_false_iff, beq_eq_false_iff_ne] at h1 h2
    have e : x = y := by omega
    subst e
    rw [ltc_eq (h1.2.resolve_left (by simp)) (h2.2.resolve_left (by simp))]
theorem asc_rising : ∀ {r : List Str} {x : Str}, risingS x r = true → (x :: r).Nodup → ascD ((x :: r).map .str) = true
  | [], x, _, _ => rfl
  | y :: r, x, h, nd => by
    have h' : (!ltCps y.cps.toList x.cps.toList) = true ∧ risingS y r = true := by
      have : ((!ltCps y.cps.toList x.cps.toList) && risingS y r) = true := h
      rwa [Bool.and_eq_true] at this
    have nd' := List.nodup_cons.mp nd
    have ih := asc_rising h'.2 nd'.2
    show (decide (x.cps.toList < y.cps.toList) && ascD ((y :: r).map .str)) = true
    rw [ih, Bool.and_true, ← ltCps_eq]
    cases e : ltCps x.cps.toList y.cps.toList with
    | true => rfl
    | false =>
      have := ltc_eq e (nb_t h'.1)
      exact absurd (TL.ext_tl this) fun z => nd'.1 (by rw [z]; simp)
theorem asc_sorted {ys : List Str} (h : sortedS ys = true) (nd : ys.Nodup) : ascD (ys.map .str) = true := by
  cases ys with
  | nil => rfl
  | cons x r => exact asc_rising h nd
/-- what the law's programs are -/
structure PgOk (g : Pg) : Prop where
  k1 : 1 ≤ g.ks.length
  k4 : g.ks.length ≤ 4
  kn : ∀ x ∈ g.ks, nameC x = true
  ka : ascD (g.ks.map strD) = true
  ps : (∃ p, g.ps = [p] ∧ LapOk g.ks.length 1 6 p ∧ g.ts.length = p.2.length) ∨ ∃ p q, g.ps = [p, q] ∧ LapOk g.ks.length 1 6 p ∧ LapOk g.ks.length p.2.length 6 q ∧ g.ts.length = q.2.length
  ts : ∀ t ∈ g.ts, nameC t.1 = true ∧ -999 ≤ t.2 ∧ t.2 ≤ 999
theorem LapOk.size {a b c : Nat} {p : Pas} (h : LapOk a b c p) (ha : a ≤ 4) (hb : b ≤ 100) (hc : c ≤ 100) : PasS p where
  b := by rw [h.b]; exact hb
  r := by have := h.r1; omega
  w := fun x hx => ⟨by have := (h.w x hx).1; omega, fun q hq => by
    have := (h.w x hx).2 q hq
    have hr := h.r1
    constructor <;> show _ < 1000000 <;> omega⟩
  s := fun i hi => by
    have := h.s i hi
    have hr := h.r1
    show _ < 1000000
    omega
theorem PgOk.size {g : Pg} (h : PgOk g) : PgS g where
  k := h.k4
  kw := fun x hx => (nameC_iff.mp (h.kn x hx)).1.2
  p := by rcases h.ps with ⟨p, e, _⟩ | ⟨p, q, e, _⟩ <;> rw [e] <;> simp
  pw := fun x hx => by
    have h4 := h.k4
    rcases h.ps with ⟨p, e, h1, _⟩ | ⟨p, q, e, h1, h2, _⟩
    · rw [e] at hx
      obtain rfl : x = p := by simpa using hx
      exact h1.size h4 (by omega) (by omega)
    · have := h1.r1
      rw [e] at hx
      rcases List.mem_cons.mp hx with rfl | hx
      · exact h1.size h4 (by omega) (by omega)
      · obtain rfl : x = q := by simpa using hx
        exact h2.size h4 (by omega) (by omega)
  t := by rcases h.ps with ⟨p, e, h1, h2⟩ | ⟨p, q, e, h1, h2, h3⟩
          · have := h1.r1; omega
          · have := h2.r1; omega
  tw := fun x hx => ⟨(nameC_iff.mp (h.ts x hx).1).1.2, by have := (h.ts x hx).2; show _ < 1000000; omega⟩

/-! ### as data -/
abbrev Fd (n : Nat) (d : D) : Prop := okD d = true ∧ dep d ≤ n
theorem fd_ok {n : Nat} {d : D} (h : Fd n d) (hn : n ≤ 60) : Ok d := ⟨h.1, by have := h.2; omega⟩
theorem fd_int (i : Int) {n : Nat} : Fd n (.int i) := ⟨by simp [okD], by simp [dep]⟩
theorem fd_str {l : List Nat} {n : Nat} (h : l.length ≤ 1000000) (hc : ∀ c ∈ l, c < 1114112) : Fd n (strD l) := by
  refine ⟨?_, by simp [dep]⟩
  have e : PyData.strOk (S l) = true := by
    unfold PyData.strOk
    simpa using hc
  simp only [okD, S_len, decide_eq_true h, e, Bool.and_self]
theorem fd_tup {xs : List D} {n : Nat} (hl : xs.length ≤ 1000000) (h : ∀ x ∈ xs, Fd n x) : Fd (n + 1) (.tup xs) := ok_tup hl h
theorem fd_name {l : List Nat} {n : Nat} (h : nameC l = true) : Fd n (strD l) := by
  obtain ⟨h1, h2⟩ := nameC_iff.mp h
  exact fd_str (by omega) fun c hc => by have := h2 c hc; omega
theorem fd_ints {l : List Int} (h : l.length ≤ 1000000) : Fd 1 (intsD l) := fd_tup (by rw [List.length_map]; exact h) fun x hx => by
  obtain ⟨i, _, rfl⟩ := List.mem_map.mp hx
  exact fd_int i
theorem fd_row {r : Row} (h : r.length ≤ 1000000) : Fd 2 (rowD r) := fd_tup (by rw [List.length_map]; exact h) fun x hx => by
  obtain ⟨p, _, rfl⟩ := List.mem_map.mp hx
  exact fd_tup (by simp) fun y hy => by
    simp only [List.mem_cons, List.not_mem_nil, or_false] at hy
    rcases hy with rfl | rfl <;> exact fd_int _
theorem Fd.mono {n m : Nat} {d : D} (h : Fd n d) (hm : n ≤ m) : Fd m d := ⟨h.1, Nat.le_trans h.2 hm⟩
theorem fd_pas {p : Pas} (h : PasS p) : Fd 4 (pasD p) := fd_tup (by simp) fun x hx => by
  simp only [List.mem_cons, List.not_mem_nil, or_false] at hx
  rcases hx with rfl | rfl
  · exact (fd_ints (by have := h.b; omega)).mono (by omega)
  · exact fd_tup (n := 2) (by rw [List.length_map]; have := h.r; omega) fun x hx => by
      obtain ⟨r, hr, rfl⟩ := List.mem_map.mp hx
      exact fd_row (by have := (h.w r hr).1; omega)
theorem fd_tel {t : Tel} (h : nameC t.1 = true) : Fd 1 (telD t) := fd_tup (by simp) fun x hx => by
  simp only [List.mem_cons, List.not_mem_nil, or_false] at hx
  rcases hx with rfl | rfl
  · exact fd_name h
  · exact fd_int _
theorem name_is {l : List Nat} : isNameD (strD l) = nameC l := by
  show isNameS (S l) = nameC l
  unfold isNameS nameC
  rw [S_len]
  congr 1
  show l.all _ = l.all _
  congr 1
  funext c
  have e : letters.cps.toList = letL := tl_letters
  rw [e]
  exact decide_eq_decide.mpr ⟨letL_in, in_letL⟩
theorem lap_pass {a b c : Nat} {p : Pas} (h : LapOk a b c p) : isPassD a b (pasD p) = true := by
  show (areRowsD a (rowsD p.2) && decide (((p.1.map D.int).length : Int) = b) && (p.1.map D.int).all (isStateD (lenT (rowsD p.2)))) = true
  have e : lenT (rowsD p.2) = p.2.length := List.length_map _
  have h1 : areRowsD a (rowsD p.2) = true := by
    show (!(p.2.map rowD).isEmpty && (p.2.map rowD).all (isRowD a (p.2.map rowD).length)) = true
    have hne : (p.2.map rowD).isEmpty = false := by
      cases e : p.2 with
      | nil => have := h.r0; rw [e] at this; cases this
      | cons x r => rfl
    rw [hne, List.length_map]
    refine List.all_eq_true.mpr fun x hx => ?_
    obtain ⟨r, hr, rfl⟩ := List.mem_map.mp hx
    obtain ⟨hw, hq⟩ := h.w r hr
    show (decide (((r.map pairD).length : Int) = a) && (r.map pairD).all (isPairD p.2.length)) = true
    rw [List.length_map, decide_eq_true (by omega), Bool.true_and]
    refine List.all_eq_true.mpr fun y hy => ?_
    obtain ⟨q, hq2, rfl⟩ := List.mem_map.mp hy
    show (decide (0 ≤ q.1) && decide (q.1 < (p.2.length : Int)) && true) = true
    have := (hq q hq2).1
    rw [decide_eq_true this.1, decide_eq_true this.2]
    rfl
  rw [h1, e, List.length_map, h.b, decide_eq_true rfl]
  refine List.all_eq_true.mpr fun x hx => ?_
  obtain ⟨i, hi, rfl⟩ := List.mem_map.mp hx
  have := h.s i hi
  show (decide (0 ≤ i) && decide (i < (p.2.length : Int))) = true
  rw [decide_eq_true this.1, decide_eq_true this.2]
  rfl
theorem PgOk.ok {g : Pg} (h : PgOk g) : ProgOk g.kD g.pD g.tD where
  ok := fd_ok (n := 1) (fd_tup (by rw [List.length_map]; have := h.k4; omega) fun x hx => by
    obtain ⟨l, hl, rfl⟩ := List.mem_map.mp hx
    exact fd_name (h.kn l hl)) (by omega)
  op := fd_ok (n := 5) (fd_tup (by rw [List.length_map]; have := h.size.p; omega) fun x hx => by
    obtain ⟨l, hl, rfl⟩ := List.mem_map.mp hx
    exact fd_pas (h.size.pw l hl)) (by omega)
  ot := fd_ok (n := 2) (fd_tup (by rw [List.length_map]; have := h.size.t; omega) fun x hx => by
    obtain ⟨l, hl, rfl⟩ := List.mem_map.mp hx
    exact fd_tel (h.ts l hl).1) (by omega)
  hk := by
    show (decide (1 ≤ (g.ks.map strD).length) && decide ((g.ks.map strD).length ≤ 4) && (g.ks.map strD).all isNameD && ascD (g.ks.map strD)) = true
    rw [List.length_map, decide_eq_true h.k1, decide_eq_true h.k4, h.ka, show (g.ks.map strD).all isNameD = true from List.all_eq_true.mpr fun x hx => by
      obtain ⟨l, hl, rfl⟩ := List.mem_map.mp hx
      rw [name_is]; exact h.kn l hl]
    rfl
  hp := by
    have e : lenT g.kD = g.ks.length := List.length_map _
    rw [e]
    rcases h.ps with ⟨p, e, h1, _⟩ | ⟨p, q, e, h1, h2, _⟩
    · show arePassesD _ (.tup (g.ps.map pasD)) = true
      rw [e]
      show (decide (([] : List D).length ≤ 1) && isPassD g.ks.length 1 (pasD p) && true) = true
      rw [show isPassD g.ks.length 1 (pasD p) = true from lap_pass h1]
      rfl
    · show arePassesD _ (.tup (g.ps.map pasD)) = true
      rw [e]
      show (decide (([pasD q] : List D).length ≤ 1) && isPassD g.ks.length 1 (pasD p) && (isPassD g.ks.length (lenT (rowsOf (pasD p))) (pasD q) && true)) = true
      have e2 : lenT (rowsOf (pasD p)) = p.2.length := List.length_map _
      rw [e2, show isPassD g.ks.length 1 (pasD p) = true from lap_pass h1, lap_pass h2]
      rfl
  ht := by
    have hts : (g.ts.map telD).all isTellD = true := List.all_eq_true.mpr fun x hx => by
      obtain ⟨t, ht, rfl⟩ := List.mem_map.mp hx
      show (isNameD (strD t.1) && true) = true
      rw [name_is, (h.ts t ht).1]
      rfl
    show (decide ((g.ts.map telD).length = lenT (rowsOf (lastD g.pD))) && (g.ts.map telD).all isTellD) = true
    rw [hts, List.length_map, Bool.and_true]
    refine decide_eq_true ?_
    rcases h.ps with ⟨p, e, h1, h2⟩ | ⟨p, q, e, h1, h2, h3⟩
    · have : lenT (rowsOf (lastD g.pD)) = p.2.length := by
        show lenT (rowsOf (lastD (.tup (g.ps.map pasD)))) = _
        rw [e]
        exact List.length_map _
      rw [this, h2]
    · have : lenT (rowsOf (lastD g.pD)) = q.2.length := by
        show lenT (rowsOf (lastD (.tup (g.ps.map pasD)))) = _
        rw [e]
        exact List.length_map _
      rw [this, h3]
end Sd
set_option Elab.async false
set_option linter.all false
set_option maxRecDepth 100000
set_option maxHeartbeats 4000000
/-! Sd11: expressions that change a thing of one's own. -/
namespace Sd
open PySem PySem.Spec L2
/-- an expression, and what the slots tell behind it -/
def wpx (w : Wd) (te : TE) (G : List Ent) (Q : List Ent → D → Prop) : Prop := ∀ σ F H, As w G σ F H → ∀ k : VK, (∀ G' v d F' H', Same F F' → As w G' σ F' H' → Rp w.K F' v d → Q G' d → k v H') → te σ H k
section
variable {w : Wd} {G : List Ent} {Q : List Ent → D → Prop} {te ta tb : TE} {tas : TA} {t u : TS} {N : List Ent → Prop} {R : List Ent → D → Prop} {E : XK} {i : Nat}
theorem wpx_wp (h : wp w te G fun d => Q G d) : wpx w te G Q := fun σ F H A k z => h σ F H A k fun v d F' H' s A' r q => z G v d F' H' s A' r q
theorem wpx.imp {Q' : List Ent → D → Prop} (h : wpx w te G Q) (i : ∀ G d, Q G d → Q' G d) : wpx w te G Q' := fun σ F H A k z => h σ F H A k fun G' v d F' H' s A' r q => z G' v d F' H' s A' r (i _ _ q)
theorem wps_retX (h : wpx w te G R) : wps w (tRet te) G N R := fun σ F H E A n r => h σ F H A _ fun G' v d F' H' s A' rp q => r G' σ v d F' H' s A' rp q
theorem wps_dropX (h : wpx w te G fun G' _ => N G') : wps w (tDrop te) G N R := fun σ F H E A n r => h σ F H A _ fun G' v d F' H' s A' rp q => n G' σ F' H' s A' q
theorem wps_asgX (h : wpx w te G fun G' d => N (G'.set i (.d d))) : wps w (tAsg te (gName i)) G N R := fun σ F H E A n r => h σ F H A _ fun G' v d F' H' s A' rp q => n _ _ F' H' s (A'.putD i rp) q
theorem wps_ifNX (h : wpx w te G fun G' x => ∃ b, x = .bl b ∧ if b = true then wps w u G' N R else wps w t G' N R) : wps w (tIfS (tNot (tB te)) t u) G N R := fun σ F H E A n r =>
  h σ F H A _ fun G' v d F' H' s A' rp q => by
    obtain ⟨b, rfl, q⟩ := q
    cases rp
    refine ⟨b, rfl, ?_⟩
    cases b with
    | true => exact iteF (q σ F' H' E A' (fun G2 σ2 F2 H2 s2 => n G2 σ2 F2 H2 (s.trans s2)) fun G2 σ2 v d F2 H2 s2 => r G2 σ2 v d F2 H2 (s.trans s2))
    | false => exact iteT (q σ F' H' E A' (fun G2 σ2 F2 H2 s2 => n G2 σ2 F2 H2 (s.trans s2)) fun G2 σ2 v d F2 H2 s2 => r G2 σ2 v d F2 H2 (s.trans s2))
theorem wpx_orV (h : wpx w ta G fun G' x => ∃ b, x = .bl b ∧ if b = true then Q G' (.bl true) else wpx w tb G' Q) : wpx w (tOrV ta tb) G Q := fun σ F H A k z =>
  h σ F H A _ fun G1 v x F1 H1 s1 A1 r1 q => by
    obtain ⟨b, rfl, q⟩ := q
    cases r1
    refine ⟨b, rfl, ?_⟩
    cases b with
    | true => exact iteT (z G1 _ _ F1 H1 s1 A1 (.bl true) q)
    | false => exact iteF (q σ F1 H1 A1 _ fun G2 v d F2 H2 s2 A2 r2 q2 => z G2 v d F2 H2 (s1.trans s2) A2 r2 q2)
/-- own(a, s) is an instance of the class at C without an attribute m of its own -/
def InsO {S : Type} (own : Addr → S → OwnP) (C : Addr) (m : Str) : Prop := ∀ a s F H v qs, (own a s).ok F H v qs → v = .ref a ∧ ∃ dx fs, H a = some (.ins C dx fs) ∧ fs.lookup m = none
/-- x.m(..), x a thing of one's own -/
theorem wpx_methO {S : Type} {own : Addr → S → OwnP} {C a : Addr} {m : Str} {s : S} {pre : S → List D → Prop} {post : S → List D → D → S → Prop} (I : InsO own C m) (e : G[i]? = some (.o (own a s)))
    (h : wpa w tas G fun ds => pre s ds ∧ ∀ d s', post s ds d s' → Q (G.set i (.o (own a s'))) d) : wpx w (tMeth C m (spO w.K own pre post) [] E (tVar i) tas) G Q := fun σ F H A k z => by
  obtain ⟨v, qs, h1, hok, h5, _⟩ := A.own1 e
  obtain ⟨rfl, dx, fs, h2, h3⟩ := I _ _ _ _ _ _ hok
  refine ⟨.ref a, h1, a, dx, fs, rfl, h2, h3, h σ F H A _ fun vs ds F1 H1 s1 A1 r1 q => ?_⟩
  obtain ⟨v', qs', g1, gok, g5, up⟩ := A1.own1 e
  rw [h1] at g1
  cases g1
  rw [List.append_nil]
  refine ⟨a, vs, F1, ds, s, qs', rfl, A1.fh, fun b hb => g5 b hb, gok, r1, q.1, fun r d s' H' qs2 k1 k2 k3 ok' rr ps => ?_⟩
  obtain ⟨A2, s2⟩ := up (own a s') H' qs2 k1 k2 k3 ok'
  exact z _ r d _ H' (s1.trans s2) A2 rr (q.2 d s' ps)
end

/-! ### the reader of a text -/
structure RSt where
  k : D
  ps : List (D × List D)
  ts : List D
def PassAt (K : PySem.W.Frag) (F H : Hp) : List (Addr × Addr) → List (D × List D) → Prop
  | [], [] => True
  | x :: tr, p :: ps => (∃ bv rvs, H x.1 = some (.tup [bv, .ref x.2]) ∧ Rp K F bv p.1 ∧ H x.2 = some (.lst rvs) ∧ RpL K F rvs p.2) ∧ PassAt K F H tr ps
  | _, _ => False
def qsT (tr : List (Addr × Addr)) : List Addr := tr.flatMap fun x => [x.1, x.2]
theorem qsT_cons (x : Addr × Addr) (tr : List (Addr × Addr)) : qsT (x :: tr) = x.1 :: x.2 :: qsT tr := by simp [qsT]
theorem qsT_app (tr tr2 : List (Addr × Addr)) : qsT (tr ++ tr2) = qsT tr ++ qsT tr2 := by simp [qsT]
theorem PassAt.step {K : PySem.W.Frag} {F F' H H' : Hp} (f : Same F F') : ∀ {tr : List (Addr × Addr)} {ps : List (D × List D)}, (∀ a o, a ∈ qsT tr → H a = some o → H' a = some o) → PassAt K F H tr ps → PassAt K F' H' tr ps
  | [], [], _, h => h
  | x :: tr, p :: ps, k, ⟨⟨bv, rvs, h1, h2, h3, h4⟩, t⟩ => ⟨⟨bv, rvs, k _ _ (by rw [qsT_cons]; simp) h1, h2.mono f, k _ _ (by rw [qsT_cons]; simp) h3, h4.mono f⟩, PassAt.step f (fun a o ha => k a o (by rw [qsT_cons]; simp [ha])) t⟩
  | [], _ :: _, _, h => h.elim
  | _ :: _, [], _, h => h.elim
theorem PassAt.len {K : PySem.W.Frag} {F H : Hp} : ∀ {tr : List (Addr × Addr)} {ps : List (D × List D)}, PassAt K F H tr ps → tr.length = ps.length
  | [], [], _ => rfl
  | _ :: _, _ :: _, ⟨_, t⟩ => by rw [List.length_cons, List.length_cons, PassAt.len t]
  | [], _ :: _, h => h.elim
  | _ :: _, [], h => h.elim
theorem PassAt.snoc {K : PySem.W.Frag} {F H : Hp} {x : Addr × Addr} {p : D × List D} (hx : ∃ bv rvs, H x.1 = some (.tup [bv, .ref x.2]) ∧ Rp K F bv p.1 ∧ H x.2 = some (.lst rvs) ∧ RpL K F rvs p.2) : ∀ {tr : List (Addr × Addr)} {ps : List (D × List D)}, PassAt K F H tr ps → PassAt K F H (tr ++ [x]) (ps ++ [p])
  | [], [], _ => ⟨hx, trivial⟩
  | _ :: _, _ :: _, ⟨h, t⟩ => ⟨h, PassAt.snoc hx t⟩
  | [], _ :: _, h => h.elim
  | _ :: _, [], h => h.elim
theorem PassAt.unsnoc {K : PySem.W.Frag} {F H : Hp} {p : D × List D} : ∀ {tr : List (Addr × Addr)} {ps : List (D × List D)}, PassAt K F H tr (ps ++ [p]) → ∃ tr' x, tr = tr' ++ [x] ∧ PassAt K F H tr' ps ∧ ∃ bv rvs, H x.1 = some (.tup [bv, .ref x.2]) ∧ Rp K F bv p.1 ∧ H x.2 = some (.lst rvs) ∧ RpL K F rvs p.2
  | [], [], h => h.elim
  | [], _ :: _, h => h.elim
  | x :: [], [], ⟨h, _⟩ => ⟨[], x, rfl, trivial, h⟩
  | _ :: _ :: _, [], ⟨_, h⟩ => h.elim
  | x :: tr, q :: ps, ⟨h, t⟩ => by
    obtain ⟨tr', y, rfl, h2, h3⟩ := PassAt.unsnoc t
    exact ⟨x :: tr', y, rfl, ⟨h, h2⟩, h3⟩
def rdF (kv : V) (lp lt : Addr) : List (Str × V) := [("r_kinds", kv), ("r_passes", .ref lp), ("r_tells", .ref lt)]
structure RdAt (K : PySem.W.Frag) (C a : Addr) (st : RSt) (F H : Hp) (qs : List Addr) (dx lp lt : Addr) (kv : V) (tvs : List V) (tr : List (Addr × Addr)) : Prop where
  q : qs = a :: lp :: lt :: qsT tr
  nd : qs.Nodup
  ha : H a = some (.ins C dx (rdF kv lp lt))
  k : Rp K F kv st.k
  hp : H lp = some (.lst (tr.map fun x => .ref x.1))
  ht : H lt = some (.lst tvs)
  t : RpL K F tvs st.ts
  p : PassAt K F H tr st.ps
def readerP (K : PySem.W.Frag) (C : Addr) (a : Addr) (st : RSt) : OwnP where
  ok := fun F H v qs => v = .ref a ∧ ∃ dx lp lt kv tvs tr, RdAt K C a st F H qs dx lp lt kv tvs tr
  step := fun {F F' H H' v qs} f k h => by
    obtain ⟨rfl, dx, lp, lt, kv, tvs, tr, R⟩ := h
    have q := R.q
    exact ⟨rfl, dx, lp, lt, kv, tvs, tr, R.q, R.nd, k _ _ (by rw [q]; simp) R.ha, R.k.mono f, k _ _ (by rw [q]; simp) R.hp, k _ _ (by rw [q]; simp) R.ht, R.t.mono f, R.p.step f fun a o ha => k a o (by rw [q]; simp [ha])⟩
theorem readerP_at {K : PySem.W.Frag} {C : Addr} : AtRef (readerP K C) := fun a s F H v qs h => h.1
abbrev rdD (C : Addr) (st : RSt) : D := .obj C ["r_kinds", "r_passes", "r_tells"] [st.k, .lst (st.ps.map fun p => .tup [p.1, .lst p.2]), .lst st.ts]
theorem PassAt.rp {K : PySem.W.Frag} {F F2 H : Hp} (f : Same F F2) : ∀ {tr : List (Addr × Addr)} {ps : List (D × List D)}, (∀ a, a ∈ qsT tr → F2 a = H a) → PassAt K F H tr ps → RpL K F2 (tr.map fun x => .ref x.1) (ps.map fun p => .tup [p.1, .lst p.2])
  | [], [], _, _ => .nil
  | x :: tr, p :: ps, k, ⟨⟨bv, rvs, h1, h2, h3, h4⟩, t⟩ => .cons (.tup ((k _ (by rw [qsT_cons]; simp)).trans h1) (.cons (h2.mono f) (.one (.lst ((k _ (by rw [qsT_cons]; simp)).trans h3) (h4.mono f))))) (PassAt.rp f (fun a ha => k a (by rw [qsT_cons]; simp [ha])) t)
  | [], _ :: _, _, h => h.elim
  | _ :: _, [], _, h => h.elim
theorem rd_rp {K : PySem.W.Frag} {C a : Addr} {st : RSt} {F F2 H : Hp} {qs : List Addr} {dx lp lt : Addr} {kv : V} {tvs : List V} {tr : List (Addr × Addr)} (R : RdAt K C a st F H qs dx lp lt kv tvs tr) (f : Same F F2) (k : ∀ b, b ∈ qs → F2 b = H b) : Rp K F2 (.ref a) (rdD C st) := by
  have q := R.q
  refine .obj (dx := dx) (vs := [kv, .ref lp, .ref lt]) ((k a (by rw [q]; simp)).trans R.ha) rfl (.cons (R.k.mono f) (.cons (.lst ((k lp (by rw [q]; simp)).trans R.hp) (R.p.rp f fun b hb => k b (by rw [q]; simp [hb]))) (.one (.lst ((k lt (by rw [q]; simp)).trans R.ht) (R.t.mono f)))))
theorem pk_rd {K : PySem.W.Frag} {C a : Addr} {st : RSt} : PkOk K (.o (readerP K C a st)) (.d (rdD C st)) := fun w w' F H F2 s qs hw hw' h f q => by
  obtain ⟨v, h1, rfl, dx, lp, lt, kv, tvs, tr, R⟩ := h
  exact ⟨rfl, .ref a, h1, by rw [hw']; exact rd_rp R f q⟩
theorem rdF_no {kv : V} {lp lt : Addr} {m : Str} (h1 : m ≠ "r_kinds") (h2 : m ≠ "r_passes") (h3 : m ≠ "r_tells") : (rdF kv lp lt).lookup m = none := by
  unfold rdF
  rw [List.lookup_cons, beq_eq_false_iff_ne.mpr h1, List.lookup_cons, beq_eq_false_iff_ne.mpr h2, List.lookup_cons, beq_eq_false_iff_ne.mpr h3]
  rfl
theorem rd_ins {K : PySem.W.Frag} {C : Addr} {m : Str} (h1 : m ≠ "r_kinds") (h2 : m ≠ "r_passes") (h3 : m ≠ "r_tells") : InsO (readerP K C) C m := fun a s F H v qs h => by
  obtain ⟨rfl, dx, lp, lt, kv, tvs, tr, R⟩ := h
  exact ⟨rfl, dx, _, R.ha, rdF_no h1 h2 h3⟩
/-! ### peeking with the reader -/
inductive PkL (K : PySem.W.Frag) : List Ent → List Ent → Prop
  | nil : PkL K [] []
  | cons {e e' : Ent} {G G' : List Ent} : PkOk K e e' → PkL K G G' → PkL K (e :: G) (e' :: G')
theorem PkL.len {K : PySem.W.Frag} {G G' : List Ent} (h : PkL K G G') : G'.length = G.length := by
  induction h with
  | nil => rfl
  | cons _ _ ih => rw [List.length_cons, List.length_cons, ih]
theorem PkL.ok {K : PySem.W.Frag} {G G' : List Ent} (h : PkL K G G') : ∀ (i : Nat) (e e' : Ent), G[i]? = some e → G'[i]? = some e' → PkOk K e e' := by
  induction h with
  | nil => intro i e e' h; simp at h
  | cons hp _ ih =>
    intro i e e' h h'
    cases i with
    | zero =>
      cases h
      cases h'
      exact hp
    | succ i => exact ih i e e' h h'
section
variable {w : Wd} {G G' : List Ent} {te : TE} {tt : TT} {tas : TA}
theorem wpt_pkL {Q : Bool → Prop} (hk : PkL w.K G G') (h : ∀ F0 H0, wpt ⟨w.K, F0, H0, [], []⟩ tt G' Q) : wpt w tt G Q := wpt_pk hk.len hk.ok h
theorem wp_pkL {Q : D → Prop} (hk : PkL w.K G G') (h : ∀ F0 H0, wp ⟨w.K, F0, H0, [], []⟩ te G' fun d => flatD d = true ∧ Q d) : wp w te G Q := wp_pk hk.len hk.ok h
theorem flat_rpl {K : PySem.W.Frag} {F F' : Hp} : ∀ {vs : List V} {ds : List D}, ds.all flatD = true → RpL K F vs ds → RpL K F' vs ds
  | _, _, _, .nil => .nil
  | _, _, h, .cons r t => by
    rw [List.all_cons, Bool.and_eq_true] at h
    exact .cons (flat_rp h.1 r) (flat_rpl h.2 t)
theorem wpa_pkL {Q : List D → Prop} (hk : PkL w.K G G') (h : ∀ F0 H0, wpa ⟨w.K, F0, H0, [], []⟩ tas G' fun ds => ds.all flatD = true ∧ Q ds) : ∀ σ F H, As w G σ F H → ∀ k : List V → Hp → Prop, (∀ vs ds H', Same H H' → As w G σ (ext F H H') H' → RpL w.K (ext F H H') vs ds → Q ds → k vs H') → tas σ H k := fun σ F H A k z => by
  obtain ⟨F2, sm, A2⟩ := A.peek hk.len hk.ok
  exact h F2 H σ F2 H A2 _ fun vs ds F' H' s' A' r q => z vs ds H' (fun b o e => A'.base.keep b o (by simp) e) (A.back A') (flat_rpl q.1 r) q.2
end

/-! ### the reader is changed -/
theorem same_extBut {F H H' : Hp} {qs : List Addr} (fh : Same F H) (hq : ∀ a, a ∈ qs → F a = none) : Same F (extBut F H H' qs) := fun b o e => by
  unfold extBut
  rw [if_neg fun z => by rw [hq b z] at e; cases e]
  exact ext_same fh b o e
theorem putF_k {kv y : V} {lp lt : Addr} : putF "r_kinds" y (rdF kv lp lt) = rdF y lp lt := by
  show (if ("r_kinds" : Str) = "r_kinds" then _ else _) = _
  rw [if_pos rfl]
  rfl
theorem rdF_k {kv : V} {lp lt : Addr} : (rdF kv lp lt).lookup ("r_kinds" : Str) = some kv := by
  unfold rdF
  rw [List.lookup_cons, beq_self_eq_true]
theorem rdF_p {kv : V} {lp lt : Addr} : (rdF kv lp lt).lookup ("r_passes" : Str) = some (V.ref lp) := by
  unfold rdF
  rw [List.lookup_cons, show (("r_passes" : Str) == "r_kinds") = false by decide +kernel, List.lookup_cons, beq_self_eq_true]
theorem rdF_t {kv : V} {lp lt : Addr} : (rdF kv lp lt).lookup ("r_tells" : Str) = some (V.ref lt) := by
  unfold rdF
  rw [List.lookup_cons, show (("r_tells" : Str) == "r_kinds") = false by decide +kernel, List.lookup_cons, show (("r_tells" : Str) == "r_passes") = false by decide +kernel, List.lookup_cons, beq_self_eq_true]
section
variable {w : Wd} {G : List Ent} {N : List Ent → Prop} {R : List Ent → D → Prop} {te tv : TE} {tas : TA} {i j : Nat} {C a : Addr} {st : RSt}
/-- self.r_kinds = e -/
theorem wps_rdK (e : G[i]? = some (.o (readerP w.K C a st))) (c : Cls w.K C) (na : NoAttr w.K C "r_kinds") (h : wp w tv G fun d => N (G.set i (.o (readerP w.K C a { st with k := d })))) : wps w (sFld w.K (tVar i) tv "r_kinds") G N R := fun σ F H E A n r =>
  h σ F H A _ fun y d F1 H1 s1 A1 r1 q => by
    obtain ⟨v, qs, h1, ⟨rfl, dx, lp, lt, kv, tvs, tr, X⟩, h5, up⟩ := A1.own1 e
    refine ⟨.ref a, h1, a, C, dx, _, rfl, X.ha, c, na, (by show 3 < 1000; omega), ?_⟩
    rw [putF_k]
    have hq := X.q
    have nd := X.nd
    rw [hq] at nd
    have nd1 := List.nodup_cons.mp nd
    have nea : ∀ b, b ∈ lp :: lt :: qsT tr → b ≠ a := fun b hb z => nd1.1 (by rw [← z]; exact hb)
    have keep : ∀ b u, b ≠ a → H1 b = some u → upd H1 a (.ins C dx (rdF y lp lt)) b = some u := fun b u z e => by rw [upd_ne z]; exact e
    have sm : Same F1 (extBut F1 H1 (upd H1 a (.ins C dx (rdF y lp lt))) qs) := same_extBut A1.fh fun b hb => (h5 b hb).1
    obtain ⟨A2, s2⟩ := up (readerP w.K C a { st with k := d }) (upd H1 a (.ins C dx (rdF y lp lt))) qs (fun b u hb e => keep b u (fun z => hb (by rw [z, hq]; simp)) e) (fun b hb => by
        by_cases z : b = a
        · rw [z, upd_same]; exact fun z => nomatch z
        · rw [upd_ne z]; exact (h5 b hb).2)
      (fun b hb => ⟨.inl hb, by
        by_cases z : b = a
        · rw [z, upd_same]; exact fun z => nomatch z
        · rw [upd_ne z]; exact (h5 b hb).2⟩)
      ⟨rfl, dx, lp, lt, y, tvs, tr, hq, X.nd, upd_same, r1.mono sm, keep _ _ (nea _ (by simp)) X.hp, keep _ _ (nea _ (by simp)) X.ht, X.t.mono sm, X.p.step sm fun b o hb e => keep _ _ (nea _ (by simp [hb])) e⟩
    exact n _ _ _ _ (s1.trans s2) A2 q
/-- self.r_passes.append((e, [])) -/
theorem wps_rdPass {b : D} (e : G[i]? = some (.o (readerP w.K C a st))) (ej : G[j]? = some (.d b)) (c : Cls w.K C) (na : NoAttr w.K C "r_passes") (hz : st.ps.length < 1000000) (h : N (G.set i (.o (readerP w.K C a { st with ps := st.ps ++ [(b, [])] })))) :
    wps w (tDrop (tBM w.K "list" rAppend (tFld w.K (tVar i) "r_passes") (tCons (tTup (tCons (tVar j) (tCons (tLst tNil) tNil))) tNil))) G N R := fun σ F H E A n r => by
  obtain ⟨v, qs, h1, ⟨rfl, dx, lp, lt, kv, tvs, tr, X⟩, h5, up⟩ := A.own1 e
  obtain ⟨bv, hbv, rb⟩ := A.dat ej
  refine ⟨.ref a, h1, a, C, dx, _, _, rfl, X.ha, c, na, rdF_p, .inl ⟨rfl, _, .inl (.inl X.hp)⟩, bv, hbv, line_ok (by simp), fun rl hrl => ⟨line_ok (by simp), fun tp htp => ?_⟩⟩
  have hq := X.q
  have nd := X.nd
  have ntl : tp ≠ rl := fun z => by rw [z, upd_same] at htp; cases htp
  have htp0 : H tp = none := by rwa [upd_ne ntl] at htp
  have hlp : lp ∈ qs := by rw [hq]; simp
  have old : ∀ x, x ∈ qs → x ≠ rl ∧ x ≠ tp := fun x hx => ⟨fun z => (h5 x hx).2 (by rw [z]; exact hrl), fun z => (h5 x hx).2 (by rw [z]; exact htp0)⟩
  have k2 : ∀ x u, H x = some u → upd (upd H rl (.lst [])) tp (.tup [bv, .ref rl]) x = some u := fun x u e => by
    rw [upd_ne (fun z => by rw [z, htp0] at e; cases e), upd_ne (fun z => by rw [z, hrl] at e; cases e)]; exact e
  refine ⟨lp, _, .ref tp, rfl, rfl, k2 _ _ X.hp, line_lt (by rw [List.length_map, X.p.len]; omega), ?_⟩
  let H' := upd (upd (upd H rl (.lst [])) tp (.tup [bv, .ref rl])) lp (.lst (tr.map (fun x => V.ref x.1) ++ [.ref tp]))
  have k3 : ∀ x u, x ≠ lp → H x = some u → H' x = some u := fun x u z e => by
    show upd _ lp _ x = some u
    rw [upd_ne z]; exact k2 x u e
  let qs' := a :: lp :: lt :: qsT (tr ++ [(tp, rl)])
  have hqs' : ∀ x, x ∈ qs' ↔ x ∈ qs ∨ x = tp ∨ x = rl := fun x => by
    show x ∈ a :: lp :: lt :: qsT (tr ++ [(tp, rl)]) ↔ _
    rw [hq, qsT_app]
    simp [qsT]
    constructor
    · rintro (h | h | h | h | h | h)
      · exact .inl (.inl h)
      · exact .inl (.inr (.inl h))
      · exact .inl (.inr (.inr (.inl h)))
      · exact .inl (.inr (.inr (.inr h)))
      · exact .inr (.inl h)
      · exact .inr (.inr h)
    · rintro ((h | h | h | h) | h | h)
      · exact .inl h
      · exact .inr (.inl h)
      · exact .inr (.inr (.inl h))
      · exact .inr (.inr (.inr (.inl h)))
      · exact .inr (.inr (.inr (.inr (.inl h))))
      · exact .inr (.inr (.inr (.inr (.inr h))))
  have frl : F rl = none := A.fh.free hrl
  have ftp : F tp = none := A.fh.free htp0
  have fq : ∀ x, x ∈ qs' → F x = none := fun x hx => by
    rcases (hqs' x).mp hx with h | rfl | rfl
    · exact (h5 x h).1
    · exact ftp
    · exact frl
  have sm : Same F (extBut F H H' qs') := same_extBut A.fh fq
  have hn : ∀ x, x ∈ qs' → H' x ≠ none := fun x hx => by
    show upd _ lp _ x ≠ none
    by_cases z : x = lp
    · rw [z, upd_same]; exact fun z => nomatch z
    · rw [upd_ne z]
      by_cases z2 : x = tp
      · rw [z2, upd_same]; exact fun z => nomatch z
      · rw [upd_ne z2]
        by_cases z3 : x = rl
        · rw [z3, upd_same]; exact fun z => nomatch z
        · rw [upd_ne z3]
          rcases (hqs' x).mp hx with h | h | h
          · exact (h5 x h).2
          · exact absurd h z2
          · exact absurd h z3
  have nelp : ∀ x, x ∈ a :: lt :: qsT tr → x ≠ lp := fun x hx z => by
    rw [hq] at nd
    subst z
    have n1 := List.nodup_cons.mp nd
    have n2 := List.nodup_cons.mp n1.2
    rcases List.mem_cons.mp hx with rfl | hx
    · exact n1.1 (by simp)
    · exact n2.1 hx
  have nd' : qs'.Nodup := by
    show (a :: lp :: lt :: qsT (tr ++ [(tp, rl)])).Nodup
    have e : a :: lp :: lt :: qsT (tr ++ [(tp, rl)]) = qs ++ [tp, rl] := by rw [hq, qsT_app]; simp [qsT]
    rw [e]
    refine List.nodup_append.mpr ⟨nd, by simpa using ntl, fun x hx y hy z => ?_⟩
    subst z
    simp only [List.mem_cons, List.not_mem_nil, or_false] at hy
    rcases hy with h | h
    · exact (old x hx).2 h
    · exact (old x hx).1 h
  have nlp2 : tp ≠ lp := fun z => (old lp hlp).2 z.symm
  have nlp3 : rl ≠ lp := fun z => (old lp hlp).1 z.symm
  obtain ⟨A2, s2⟩ := up (readerP w.K C a { st with ps := st.ps ++ [(b, [])] }) H' qs' (fun x u hx e => k3 x u (fun z => hx (by rw [z]; exact hlp)) e) (fun x hx => hn x ((hqs' x).mpr (.inl hx)))
    (fun x hx => ⟨by
      rcases (hqs' x).mp hx with h | rfl | rfl
      · exact .inl h
      · exact .inr htp0
      · exact .inr hrl, hn x hx⟩)
    ⟨rfl, dx, lp, lt, kv, tvs, tr ++ [(tp, rl)], rfl, nd', k3 _ _ (nelp a (by simp)) X.ha, X.k.mono sm, (by show upd _ lp _ lp = _; rw [upd_same, List.map_append]; rfl), k3 _ _ (nelp lt (by simp)) X.ht, X.t.mono sm,
      (X.p.step sm fun x o hx e => k3 x o (nelp x (by simp [hx])) e).snoc ⟨bv, [], (by show upd _ lp _ tp = _; rw [upd_ne nlp2, upd_same]), rb.mono sm, (by show upd _ lp _ rl = _; rw [upd_ne nlp3, upd_ne (Ne.symm ntl), upd_same]), .nil⟩⟩
  exact n _ _ _ _ s2 A2 h
end
end Sd
set_option Elab.async false
set_option linter.all false
set_option maxRecDepth 100000
set_option maxHeartbeats 4000000
/-! Sd12: the reader: rows, tells, its making, its end. -/
namespace Sd
open PySem PySem.Spec L2
theorem qsT_mem1 {tr : List (Addr × Addr)} {x : Addr × Addr} (h : x ∈ tr) : x.1 ∈ qsT tr ∧ x.2 ∈ qsT tr := by
  unfold qsT
  exact ⟨List.mem_flatMap.mpr ⟨x, h, by simp⟩, List.mem_flatMap.mpr ⟨x, h, by simp⟩⟩
theorem HT_last {α : Type} (xs : List α) (x : α) : L2.atI (xs ++ [x]) (-1) = some x := by
  unfold L2.atI L2.ixN
  rw [List.length_append, List.length_singleton, if_neg (by omega), if_pos (by omega)]
  have e : ((-1 : Int) + ((xs.length + 1 : Nat) : Int)).toNat = xs.length := by omega
  rw [e, Option.bind_some]
  simp
theorem rd_nd {C a : Addr} {qs : List Addr} {lp lt : Addr} {tr : List (Addr × Addr)} (q : qs = a :: lp :: lt :: qsT tr) (nd : qs.Nodup) : a ≠ lp ∧ a ≠ lt ∧ lp ≠ lt ∧ a ∉ qsT tr ∧ lp ∉ qsT tr ∧ lt ∉ qsT tr ∧ (qsT tr).Nodup := by
  rw [q] at nd
  have n1 := List.nodup_cons.mp nd
  have n2 := List.nodup_cons.mp n1.2
  have n3 := List.nodup_cons.mp n2.2
  refine ⟨fun z => n1.1 (by simp [z]), fun z => n1.1 (by simp [z]), fun z => n2.1 (by simp [z]), fun z => n1.1 (by simp [z]), fun z => n2.1 (by simp [z]), n3.1, n3.2⟩
section
variable {w : Wd} {G : List Ent} {N : List Ent → Prop} {R : List Ent → D → Prop} {te tv : TE} {tas : TA} {i j : Nat} {C a : Addr} {st : RSt}
/-- self.r_passes[-1][1].append(row) -/
theorem wps_rdRow {d : D} {p : D × List D} {ps : List (D × List D)} (e : G[i]? = some (.o (readerP w.K C a st))) (ej : G[j]? = some (.d d)) (c : Cls w.K C) (na : NoAttr w.K C "r_passes") (hps : st.ps = ps ++ [p]) (hz : p.2.length < 1000000)
    (h : N (G.set i (.o (readerP w.K C a { st with ps := ps ++ [(p.1, p.2 ++ [d])] })))) :
    wps w (tDrop (tBM w.K "list" rAppend (tOp (rIxT w.K) (tOp (rIxL w.K) (tFld w.K (tVar i) "r_passes") (tUn (rU fun i => .int (-i)) (tC (.int 1)))) (tC (.int 1))) (tCons (tVar j) tNil))) G N R := fun σ F H E A n r => by
  obtain ⟨v, qs, h1, ⟨rfl, dx, lp, lt, kv, tvs, tr, X⟩, h5, up⟩ := A.own1 e
  obtain ⟨bv, hbv, rb⟩ := A.dat ej
  have hp0 := X.p
  rw [hps] at hp0
  obtain ⟨tr', x, rfl, hp1, bv', rvs, e1, e2, e3, e4⟩ := hp0.unsnoc
  obtain ⟨n1, n2, n3, n4, n5, n6, n7⟩ := rd_nd (C := C) X.q X.nd
  have hx := qsT_mem1 (tr := tr' ++ [x]) (x := x) (by simp)
  have hx2q : x.2 ∈ qs := by rw [X.q]; simp [hx.2]
  have hlast : L2.atI ((tr' ++ [x]).map fun x => V.ref x.1) (-1) = some (.ref x.1) := by
    rw [List.map_append]
    exact HT_last _ _
  refine ⟨.ref a, h1, a, C, dx, _, _, rfl, X.ha, c, na, rdF_p, 1, rfl, lp, _, -1, _, rfl, rfl, .inl (.inl X.hp), hlast, x.1, _, 1, _, rfl, rfl, .inl (.inl e1), rfl, .inl ⟨rfl, _, .inl (.inl e3)⟩, bv, hbv, x.2, _, bv, rfl, rfl, e3, line_lt (by rw [e4.length]; omega), ?_⟩
  let H' := upd H x.2 (.lst (rvs ++ [bv]))
  have k3 : ∀ y u, y ≠ x.2 → H y = some u → H' y = some u := fun y u z e => by
    show upd H x.2 _ y = some u
    rw [upd_ne z]; exact e
  have ne2 : ∀ y, y ∈ qsT tr' ∨ y = x.1 → y ≠ x.2 := fun y hy z => by
    rw [qsT_app] at n7
    have := List.nodup_append.mp n7
    rcases hy with hy | rfl
    · exact this.2.2 y hy x.2 (by simp [qsT]) z
    · have h2 : (qsT [x]).Nodup := this.2.1
      rw [show qsT [x] = [x.1, x.2] by simp [qsT]] at h2
      have := (List.nodup_cons.mp h2).1
      exact this (by simp [z])
  have sm : Same F (extBut F H H' qs) := same_extBut A.fh fun b hb => (h5 b hb).1
  have hn : ∀ y, y ∈ qs → H' y ≠ none := fun y hy => by
    show upd H x.2 _ y ≠ none
    by_cases z : y = x.2
    · rw [z, upd_same]; exact fun z => nomatch z
    · rw [upd_ne z]; exact (h5 y hy).2
  obtain ⟨A2, s2⟩ := up (readerP w.K C a { st with ps := ps ++ [(p.1, p.2 ++ [d])] }) H' qs (fun y u hy e => k3 y u (fun z => hy (by rw [z]; exact hx2q)) e) hn (fun y hy => ⟨.inl hy, hn y hy⟩)
    ⟨rfl, dx, lp, lt, kv, tvs, tr' ++ [x], X.q, X.nd, k3 _ _ (fun z => n4 (by rw [z]; exact hx.2)) X.ha, X.k.mono sm, k3 _ _ (fun z => n5 (by rw [z]; exact hx.2)) X.hp, k3 _ _ (fun z => n6 (by rw [z]; exact hx.2)) X.ht, X.t.mono sm,
      (hp1.step sm fun y o hy e => k3 y o (ne2 y (.inl hy)) e).snoc (p := (p.1, p.2 ++ [d])) ⟨bv', rvs ++ [bv], k3 _ _ (ne2 _ (.inr rfl)) e1, e2.mono sm, upd_same, (e4.mono sm).append (.one (rb.mono sm))⟩⟩
  exact n _ _ _ _ s2 A2 h
/-- self.r_tells.append((.., ..)) -/
theorem wps_rdTell {G' : List Ent} (hk : PkL w.K G G') (e : G[i]? = some (.o (readerP w.K C a st))) (c : Cls w.K C) (na : NoAttr w.K C "r_tells") (hz : st.ts.length < 1000000)
    (h : ∀ F0 H0, wpa ⟨w.K, F0, H0, [], []⟩ tas G' fun ds => ds.all flatD = true ∧ ds.length ≤ 1000000 ∧ N (G.set i (.o (readerP w.K C a { st with ts := st.ts ++ [.tup ds] })))) :
    wps w (tDrop (tBM w.K "list" rAppend (tFld w.K (tVar i) "r_tells") (tCons (tTup tas) tNil))) G N R := fun σ F H E A n r => by
  obtain ⟨v, qs, h1, ⟨rfl, dx, lp, lt, kv, tvs, tr, X⟩, h5, _⟩ := A.own1 e
  refine ⟨.ref a, h1, a, C, dx, _, _, rfl, X.ha, c, na, rdF_t, .inl ⟨rfl, _, .inl (.inl X.ht)⟩, wpa_pkL hk h σ F H A _ fun vs ds H1 s1 A1 rv q => ⟨by rw [rv.length]; exact line_ok q.1, fun tp htp => ?_⟩⟩
  obtain ⟨v', qs', g1, ⟨rfl, dx', lp', lt', kv', tvs', tr', X'⟩, g5, up⟩ := A1.own1 e
  have ea := X'.ha
  rw [s1 _ _ X.ha] at ea
  cases ea
  have et := X'.ht
  rw [s1 _ _ X.ht] at et
  cases et
  have ntt : tp ≠ lt := fun z => by rw [z, X'.ht] at htp; cases htp
  have kt : upd H1 tp (.tup vs) lt = some (.lst tvs) := by rw [upd_ne (Ne.symm ntt)]; exact X'.ht
  refine ⟨lt, tvs, .ref tp, rfl, rfl, kt, line_lt (by rw [X'.t.length]; omega), ?_⟩
  obtain ⟨n1, n2, n3, n4, n5, n6, n7⟩ := rd_nd (C := C) X'.q X'.nd
  let H' := upd (upd H1 tp (.tup vs)) lt (.lst (tvs ++ [.ref tp]))
  have k3 : ∀ y u, y ≠ lt → H1 y = some u → H' y = some u := fun y u z e => by
    show upd _ lt _ y = some u
    rw [upd_ne z, upd_ne (fun z => by rw [z, htp] at e; cases e)]; exact e
  have sm : Same (ext F H H1) (extBut (ext F H H1) H1 H' qs') := same_extBut A1.fh fun b hb => (g5 b hb).1
  have hn : ∀ y, y ∈ qs' → H' y ≠ none := fun y hy => by
    by_cases z : y = lt
    · show upd _ lt _ y ≠ none
      rw [z, upd_same]; exact fun z => nomatch z
    · cases e : H1 y with
      | none => exact absurd e (g5 y hy).2
      | some u => rw [k3 y u z e]; exact fun z => nomatch z
  have ftp : extBut (ext F H H1) H1 H' qs' tp = some (.tup vs) := by
    unfold extBut
    rw [if_neg fun z => (g5 tp z).2 htp, ext_none htp]
    show upd _ lt _ tp = _
    rw [upd_ne ntt, upd_same]
  obtain ⟨A2, s2⟩ := up (readerP w.K C a { st with ts := st.ts ++ [.tup ds] }) H' qs' (fun y u hy e => k3 y u (fun z => hy (by rw [z, X'.q]; simp)) e) hn (fun y hy => ⟨.inl hy, hn y hy⟩)
    ⟨rfl, dx, lp, lt, kv, tvs ++ [.ref tp], tr', X'.q, X'.nd, k3 _ _ n2 X'.ha, X'.k.mono sm, k3 _ _ n3 X'.hp, upd_same, (X'.t.mono sm).append (.one (.tup ftp (rv.mono sm))), X'.p.step sm fun y o hy e => k3 y o (fun z => n6 (by rw [← z]; exact hy)) e⟩
  exact n _ _ _ _ (A.same.trans s2) A2 q.2
/-- a thing of one's own is known from now on -/
theorem As.knowO {σ : L2.St} {F H : Hp} {e0 : Ent} {d : D} (A : As w G σ F H) (hO : w.O = []) (e : G[i]? = some e0) (pk : PkOk w.K e0 (.d d)) : ∃ F2, Same F F2 ∧ As w (G.set i (.d d)) σ F2 H := by
  obtain ⟨q, O⟩ := A.get
  have hi := (List.getElem?_eq_some_iff.mp e).1
  let F2 : Hp := fun b => if b ∈ q i then H b else F b
  have sm : Same F F2 := fun b o eb => by
    show (if b ∈ q i then H b else F b) = some o
    rw [if_neg fun z => by rw [(O.at_ i b hi z).1] at eb; cases eb]
    exact eb
  have inq : ∀ b, b ∈ q i → F2 b = H b := fun b hb => if_pos hb
  have out : ∀ b, b ∉ q i → F2 b = F b := fun b hb => if_neg hb
  refine ⟨F2, sm, .mk' (q := qput q i []) (by simp [A.len]) ⟨A.base.f0.trans sm, fun b o eb => ?_, fun b o eb => ?_, A.base.keep, (fun b hb => by rw [hO] at hb; cases hb), fun b o hb => ?_⟩ ⟨fun k u hk => ?_, fun k b hk hb => ?_, fun k m b hk hm hb hc => ?_, fun k b hk hb => ?_⟩⟩
  · by_cases z : b ∈ q i
    · rw [inq b z] at eb; exact eb
    · rw [out b z] at eb; exact A.base.fh b o eb
  · by_cases z : b ∈ q i
    · rcases (O.at_ i b hi z).2.2 with y | y
      · rw [hO] at y; cases y
      · exact .inr y
    · rw [out b z] at eb; exact A.base.src b o eb
  · obtain ⟨h1, h2, h3⟩ := A.base.pend b o hb
    exact ⟨by rw [out b (fun z => O.pd i b hi z o hb)]; exact h1, h2, h3⟩
  · by_cases z : k = i
    · subst z
      rw [List.getElem?_set_self hi] at hk
      cases hk
      rw [qput_same]
      exact pk w w F H F2 _ _ rfl rfl (O.ok k _ e) sm inq
    · rw [List.getElem?_set_ne (Ne.symm z)] at hk
      rw [qput_ne z]
      exact (O.ok k u hk).step sm fun b o _ e => e
  · rw [List.length_set] at hk
    by_cases z : k = i
    · subst z
      rw [qput_same] at hb
      cases hb
    · rw [qput_ne z] at hb
      obtain ⟨h1, h2⟩ := O.at_ k b hk hb
      exact ⟨by rw [out b (fun y => z (O.dis k i b hk hi hb y))]; exact h1, h2⟩
  · rw [List.length_set] at hk hm
    by_cases z : k = i
    · subst z
      rw [qput_same] at hb
      cases hb
    · by_cases y : m = i
      · subst y
        rw [qput_same] at hc
        cases hc
      · rw [qput_ne z] at hb
        rw [qput_ne y] at hc
        exact O.dis k m b hk hm hb hc
  · rw [List.length_set] at hk
    by_cases z : k = i
    · subst z
      rw [qput_same] at hb
      cases hb
    · rw [qput_ne z] at hb
      exact O.pd k b hk hb
theorem wps_knowO {t : TS} {e0 : Ent} {d : D} (i : Nat) (hO : w.O = []) (e : G[i]? = some e0) (pk : PkOk w.K e0 (.d d)) (h : wps w t (G.set i (.d d)) N R) : wps w t G N R := fun σ F H E A n r => by
  obtain ⟨F2, s, A2⟩ := A.knowO hO e pk
  exact h σ F2 H E A2 (fun G' σ' F' H' s' => n G' σ' F' H' (s.trans s')) fun G' σ' v d F' H' s' => r G' σ' v d F' H' (s.trans s')
end
end Sd
set_option Elab.async false
set_option linter.all false
set_option maxRecDepth 100000
set_option maxHeartbeats 4000000
/-! M9: reading a program's lines. -/
namespace Sd
open PySem PySem.Spec L2
open SX (S S_len S_cat S_inj)
open TL (numL joinL spl)
structure RS where
  ks : List (List Nat)
  ps : List Pas
  ts : List Tel
def RS.st (s : RS) : RSt := ⟨.tup (s.ks.map strD), s.ps.map fun p => (intsD p.1, p.2.map rowD), s.ts.map telD⟩
def takesK (s : RS) (ws : List (List Nat)) : Option RS := if ws.head? = some wKinds ∧ ws.length ≠ 1 ∧ ws.tail.all nameC = true then some { s with ks := ws.tail } else none
def takesP (s : RS) (ws : List (List Nat)) : Option RS := match numsC ws.tail with
  | none => none
  | some bs => if ws.head? = some wPass ∧ ws.length ≠ 1 ∧ s.ts = [] then some { s with ps := s.ps ++ [(bs, [])] } else none
def addRow (ps : List Pas) (r : Row) : List Pas := match ps.getLast? with
  | none => ps
  | some p => ps.dropLast ++ [(p.1, p.2 ++ [r])]
def takesR (s : RS) (l : List Nat) : Option RS := match rowOf s.ks.length l with
  | none => none
  | some r => if s.ps ≠ [] ∧ s.ts = [] then some { s with ps := addRow s.ps r } else none
def takesT (s : RS) (ws : List (List Nat)) : Option RS := match ws with
  | [a, b, c] => if a = wTell ∧ nameC b = true ∧ numC c = true ∧ s.ps ≠ [] then some { s with ts := s.ts ++ [(b, valC c)] } else none
  | _ => none
def takesC (s : RS) (l : List Nat) : Option RS := if s.ks = [] then takesK s (splitC l 32) else match takesP s (splitC l 32) with
  | some s' => some s'
  | none => match takesR s l with
    | some s' => some s'
    | none => takesT s (splitC l 32)
def readC : RS → List (List Nat) → Option RS
  | s, [] => some s
  | s, l :: ls => match takesC s l with
    | some s' => readC s' ls
    | none => none
theorem readC_app : ∀ {xs ys : List (List Nat)} {s : RS}, readC s (xs ++ ys) = (readC s xs).bind fun s' => readC s' ys
  | [], ys, s => rfl
  | x :: xs, ys, s => by
    show (match takesC s x with | some s' => readC s' (xs ++ ys) | none => none) = (match takesC s x with | some s' => readC s' xs | none => none).bind fun s' => readC s' ys
    cases takesC s x with
    | none => rfl
    | some s' => exact readC_app
/-! numerals -/
theorem digits_num (n : Nat) : (numL n).all digC = true := List.all_eq_true.mpr fun c hc => decide_eq_true (TL.numL_digits n c hc)
theorem num_head {n : Nat} : (numL n).head? = some 48 → n = 0 := by
  intro h
  induction n using Nat.strongRecOn with
  | _ n ih =>
    by_cases hn : n < 10
    · rw [TL.numL_lt hn] at h
      simp at h
      exact h
    · rw [TL.numL_step (by omega)] at h
      have hne := TL.numL_ne (n / 10)
      have : (numL (n / 10)).head? = some 48 := by
        cases e : numL (n / 10) with
        | nil => exact absurd e hne
        | cons a b => rw [e] at h; exact h
      have := ih (n / 10) (by omega) this
      omega
theorem num_first {n c : Nat} (h : (numL n).head? = some c) : 48 ≤ c ∧ c ≤ 57 := by
  cases e : numL n with
  | nil => exact absurd e (TL.numL_ne n)
  | cons a b =>
    rw [e] at h
    cases h
    exact TL.numL_digits n _ (by rw [e]; simp)
theorem take1 {l : List Nat} : l.take 1 = [45] ↔ l.head? = some 45 := by
  cases l with
  | nil => simp
  | cons a b => simp
theorem num_not45 (n : Nat) : ¬ (numL n).take 1 = [45] := fun h => by
  have := num_first (take1.mp h)
  omega
theorem intL_num {i : Int} (h : smI i) : numC (intL i) = true ∧ valC (intL i) = i := by
  cases i with
  | ofNat n =>
    have hl : (numL n).length ≤ 6 := TL.numL_len (k := 6) (by decide) h
    have h1 : 1 ≤ (numL n).length := List.length_pos_iff.mpr (TL.numL_ne n)
    have ea : absC (numL n) = numL n := if_neg (num_not45 n)
    refine ⟨?_, ?_⟩
    · show (decide (1 ≤ (absC (numL n)).length) && decide ((absC (numL n)).length ≤ 6) && (absC (numL n)).all digC && (decide (numL n = [48]) || !decide ((absC (numL n)).head? = some 48))) = true
      rw [ea, decide_eq_true h1, decide_eq_true hl, digits_num]
      by_cases z : (numL n).head? = some 48
      · have := num_head z
        subst this
        decide +kernel
      · rw [decide_eq_false z]
        simp
    · show (if (numL n).take 1 = [45] then -((NumText.digitsVal ((numL n).drop 1) : Nat) : Int) else ((NumText.digitsVal (numL n) : Nat) : Int)) = _
      rw [if_neg (num_not45 n), TL.numL_val]
      rfl
  | negSucc n =>
    have hl : (numL (n + 1)).length ≤ 6 := TL.numL_len (k := 6) (by decide) h
    have h1 : 1 ≤ (numL (n + 1)).length := List.length_pos_iff.mpr (TL.numL_ne _)
    have ea : absC (45 :: numL (n + 1)) = numL (n + 1) := by unfold absC; rw [if_pos (by simp)]; rfl
    refine ⟨?_, ?_⟩
    · show (decide (1 ≤ (absC (45 :: numL (n + 1))).length) && decide ((absC (45 :: numL (n + 1))).length ≤ 6) && (absC (45 :: numL (n + 1))).all digC && (decide (45 :: numL (n + 1) = [48]) || !decide ((absC (45 :: numL (n + 1))).head? = some 48))) = true
      rw [ea, decide_eq_true h1, decide_eq_true hl, digits_num, decide_eq_false (show ¬ (numL (n + 1)).head? = some 48 from fun z => by have := num_head z; omega)]
      simp
    · show (if (45 :: numL (n + 1)).take 1 = [45] then _ else _) = _
      rw [if_pos (by simp)]
      show -((NumText.digitsVal (numL (n + 1)) : Nat) : Int) = _
      rw [TL.numL_val]
      rfl
theorem nums_ints {l : List Int} (h : ∀ i ∈ l, smI i) : numsC (l.map intL) = some l := by
  unfold numsC
  rw [if_pos (List.all_eq_true.mpr fun x hx => by
    obtain ⟨i, hi, rfl⟩ := List.mem_map.mp hx
    exact (intL_num (h i hi)).1), List.map_map]
  congr 1
  refine (List.map_congr_left fun i hi => ?_).trans (List.map_id l)
  exact (intL_num (h i hi)).2
/-! the lines split -/
theorem split_join1 {c : Nat} {ws : List (List Nat)} (hne : ws ≠ []) (h : ∀ w ∈ ws, c ∉ w) : splitC (joinL [c] ws) c = ws := TL.spl_join hne h
theorem name_free {l : List Nat} {c : Nat} (h : nameC l = true) (hc : c < 97) : c ∉ l := fun z => by have := (nameC_iff.mp h).2 c z; omega
theorem joinL_free {s c : Nat} : ∀ {ws : List (List Nat)}, c ≠ s → (∀ w ∈ ws, c ∉ w) → c ∉ joinL [s] ws
  | [], _, _ => by rw [joinL]; simp
  | [w], _, h => by rw [joinL]; exact h w (by simp)
  | w :: v :: r, hs, h => by
    rw [joinL]
    have ih := joinL_free (ws := v :: r) hs fun x hx => h x (by simp [hx])
    simp only [List.mem_append, List.mem_singleton, not_or]
    exact ⟨h w (by simp), hs, ih⟩
theorem page_join : ∀ ls : List (List Nat), pageC ls = joinL [10] (ls ++ [[]])
  | [] => rfl
  | l :: ls => by
    have ih := page_join ls
    unfold pageC at ih ⊢
    rw [joinL_nil] at ih ⊢
    rw [List.map_cons, List.flatten_cons, ih]
    cases ls with
    | nil => show (l ++ [10]) ++ joinL [10] [[]] = joinL [10] [l, []]; rw [joinL, joinL, joinL]; simp
    | cons m ms => show (l ++ [10]) ++ joinL [10] (m :: (ms ++ [[]])) = joinL [10] (l :: m :: (ms ++ [[]])); rw [List.append_assoc]; rfl
end Sd
set_option Elab.async false
set_option linter.all false
set_option maxRecDepth 100000
set_option maxHeartbeats 4000000
namespace Sd
open PySem PySem.Spec L2
open SX (S S_len S_cat S_inj)
open TL (numL joinL spl)
theorem split_kinds {ks : List (List Nat)} (h : ∀ k ∈ ks, nameC k = true) : splitC (kindsC ks) 32 = wKinds :: ks :=
  split_join1 (by simp) fun w hw => by
    rcases List.mem_cons.mp hw with rfl | hw
    · decide
    · exact name_free (h w hw) (by omega)
theorem split_beg (l : List Int) : splitC (begC l) 32 = wPass :: l.map intL :=
  split_join1 (by simp) fun w hw => by
    rcases List.mem_cons.mp hw with rfl | hw
    · decide
    · obtain ⟨i, _, rfl⟩ := List.mem_map.mp hw
      exact intL_free (by omega)
theorem joinL_cons {s : List Nat} {a : List Nat} {r : List (List Nat)} (h : r ≠ []) : joinL s (a :: r) = a ++ (s ++ joinL s r) := by
  cases r with
  | nil => exact absurd rfl h
  | cons b r => rfl
theorem tel_join (t : Tel) : telC t = joinL [32] [wTell, t.1, intL t.2] := rfl
theorem split_tel {t : Tel} (h : nameC t.1 = true) : splitC (telC t) 32 = [wTell, t.1, intL t.2] := by
  rw [tel_join]
  refine split_join1 (by simp) fun w hw => ?_
  simp only [List.mem_cons, List.not_mem_nil, or_false] at hw
  rcases hw with rfl | rfl | rfl
  · decide
  · exact name_free h (by omega)
  · exact intL_free (by omega)
def rowW (r : Row) : List (List Nat) := r.flatMap fun p => [intL p.1, intL p.2]
theorem row_join : ∀ {r : Row}, joinL [32] (r.map pairC) = joinL [32] (rowW r)
  | [] => rfl
  | [p] => rfl
  | p :: q :: r => by
    have ih := row_join (r := q :: r)
    show pairC p ++ ([32] ++ joinL [32] ((q :: r).map pairC)) = joinL [32] (intL p.1 :: intL p.2 :: rowW (q :: r))
    have hne : rowW (q :: r) ≠ [] := by simp [rowW]
    rw [ih, joinL_cons (by simp), joinL_cons hne]
    unfold pairC
    simp [List.append_assoc]
theorem split_row {r : Row} (h : r ≠ []) : splitC ((rowC r).drop 2) 32 = rowW r := by
  have e : (rowC r).drop 2 = joinL [32] (r.map pairC) := rfl
  rw [e, row_join]
  refine split_join1 ?_ fun w hw => ?_
  · cases r with
    | nil => exact absurd rfl h
    | cons p r => simp [rowW]
  · obtain ⟨p, _, hp⟩ := List.mem_flatMap.mp hw
    simp only [List.mem_cons, List.not_mem_nil, or_false] at hp
    rcases hp with rfl | rfl <;> exact intL_free (by omega)
theorem nums_row : ∀ {r : Row}, (∀ q ∈ r, smI q.1 ∧ smI q.2) → numsC (rowW r) = some (r.flatMap fun p => [p.1, p.2]) := fun {r} h => by
  have e : rowW r = (r.flatMap fun p => [p.1, p.2]).map intL := by
    unfold rowW
    rw [List.map_flatMap]
    rfl
  rw [e]
  refine nums_ints fun i hi => ?_
  obtain ⟨p, hp, hi⟩ := List.mem_flatMap.mp hi
  simp only [List.mem_cons, List.not_mem_nil, or_false] at hi
  rcases hi with rfl | rfl
  · exact (h p hp).1
  · exact (h p hp).2
theorem flat2_len : ∀ r : Row, (r.flatMap fun p => [p.1, p.2]).length = 2 * r.length
  | [] => rfl
  | p :: r => by rw [List.flatMap_cons, List.length_append, flat2_len r, List.length_cons]; simp; omega
theorem pairs_back : ∀ r : Row, pairsC r.length (r.flatMap fun p => [p.1, p.2]) = r
  | [] => rfl
  | p :: r => by
    unfold pairsC
    rw [List.length_cons, List.range_succ_eq_map, List.map_cons, List.map_map]
    have ih := pairs_back r
    unfold pairsC at ih
    rw [show p :: r = (p.1, p.2) :: r from rfl]
    congr 1
theorem row_of {r : Row} {n : Nat} (hn : r.length = n) (h1 : 1 ≤ n) (h : ∀ q ∈ r, smI q.1 ∧ smI q.2) : rowOf n (rowC r) = some r := by
  have hne : r ≠ [] := fun e => by rw [e] at hn; simp at hn; omega
  unfold rowOf
  rw [split_row hne, nums_row h]
  show (if (rowC r).take 2 = [32, 32] ∧ (r.flatMap fun p => [p.1, p.2]).length = 2 * n then some (pairsC n _) else none) = _
  rw [if_pos ⟨rfl, by rw [flat2_len, hn]⟩, ← hn, pairs_back]
theorem takes_kinds {ks : List (List Nat)} (h1 : 1 ≤ ks.length) (h : ∀ k ∈ ks, nameC k = true) : takesC ⟨[], [], []⟩ (kindsC ks) = some ⟨ks, [], []⟩ := by
  unfold takesC
  rw [if_pos rfl, split_kinds h]
  unfold takesK
  rw [if_pos ⟨rfl, by rw [List.length_cons]; omega, List.all_eq_true.mpr h⟩]
  rfl
theorem takes_beg {ks : List (List Nat)} {ps : List Pas} {l : List Int} (hk : ks ≠ []) (hl : l ≠ []) (h : ∀ i ∈ l, smI i) : takesC ⟨ks, ps, []⟩ (begC l) = some ⟨ks, ps ++ [(l, [])], []⟩ := by
  unfold takesC
  rw [if_neg hk, split_beg]
  have e : takesP ⟨ks, ps, []⟩ (wPass :: l.map intL) = some ⟨ks, ps ++ [(l, [])], []⟩ := by
    unfold takesP
    rw [List.tail_cons, nums_ints h]
    show (if _ then _ else _) = _
    rw [if_pos ⟨rfl, by
      rw [List.length_cons, List.length_map]
      have : 0 < l.length := List.length_pos_iff.mpr hl
      omega, rfl⟩]
  rw [e]
theorem add_last {ps : List Pas} {p : Pas} {r : Row} : addRow (ps ++ [p]) r = ps ++ [(p.1, p.2 ++ [r])] := by
  unfold addRow
  rw [List.getLast?_concat]
  simp
theorem takes_row {ks : List (List Nat)} {ps : List Pas} {p : Pas} {r : Row} (hk : ks ≠ []) (hn : r.length = ks.length) (h : ∀ q ∈ r, smI q.1 ∧ smI q.2) : takesC ⟨ks, ps ++ [p], []⟩ (rowC r) = some ⟨ks, ps ++ [(p.1, p.2 ++ [r])], []⟩ := by
  unfold takesC
  rw [if_neg hk]
  have h1 : 1 ≤ ks.length := List.length_pos_iff.mpr hk
  have e : takesP ⟨ks, ps ++ [p], []⟩ (splitC (rowC r) 32) = none := by
    have hh : (splitC (rowC r) 32).head? = some [] := rfl
    unfold takesP
    cases numsC (splitC (rowC r) 32).tail with
    | none => rfl
    | some bs =>
      show (if _ then _ else _) = _
      rw [if_neg fun z => by have := z.1; rw [hh] at this; cases this]
  have e2 : takesR ⟨ks, ps ++ [p], []⟩ (rowC r) = some ⟨ks, ps ++ [(p.1, p.2 ++ [r])], []⟩ := by
    unfold takesR
    rw [row_of hn h1 h]
    show (if _ then _ else _) = _
    rw [if_pos ⟨by simp, rfl⟩, add_last]
  rw [e, e2]
theorem takes_tel {ks : List (List Nat)} {ps : List Pas} {ts : List Tel} {t : Tel} (hk : ks ≠ []) (hp : ps ≠ []) (h : nameC t.1 = true ∧ smI t.2) : takesC ⟨ks, ps, ts⟩ (telC t) = some ⟨ks, ps, ts ++ [t]⟩ := by
  unfold takesC
  rw [if_neg hk, split_tel h.1]
  have e : takesP ⟨ks, ps, ts⟩ [wTell, t.1, intL t.2] = none := by
    unfold takesP
    cases numsC ([wTell, t.1, intL t.2] : List (List Nat)).tail with
    | none => rfl
    | some bs =>
      show (if _ then _ else _) = _
      rw [if_neg fun z => by have := z.1; simp [wTell, wPass] at this]
  have e2 : takesR ⟨ks, ps, ts⟩ (telC t) = none := by
    unfold takesR rowOf
    cases numsC (splitC ((telC t).drop 2) 32) with
    | none => rfl
    | some ns =>
      dsimp only
      rw [if_neg fun z => absurd z.1 (by show ¬ ([116, 101] : List Nat) = [32, 32]; decide)]
  obtain ⟨h1, h2⟩ := intL_num h.2
  have e3 : takesT ⟨ks, ps, ts⟩ [wTell, t.1, intL t.2] = some ⟨ks, ps, ts ++ [t]⟩ := by
    show (if _ then _ else _) = _
    rw [if_pos ⟨rfl, h.1, h1, hp⟩, h2]
  rw [e, e2, e3]
theorem read_rows {ks : List (List Nat)} {ps : List Pas} (hk : ks ≠ []) : ∀ {rs : List Row} {p : Pas}, (∀ r ∈ rs, r.length = ks.length ∧ ∀ q ∈ r, smI q.1 ∧ smI q.2) → readC ⟨ks, ps ++ [p], []⟩ (rs.map rowC) = some ⟨ks, ps ++ [(p.1, p.2 ++ rs)], []⟩
  | [], p, _ => by
    show some _ = some _
    rw [List.append_nil]
  | r :: rs, p, h => by
    obtain ⟨h1, h2⟩ := h r (by simp)
    show (match takesC ⟨ks, ps ++ [p], []⟩ (rowC r) with | some s' => readC s' (rs.map rowC) | none => none) = _
    rw [takes_row hk h1 h2]
    show readC ⟨ks, ps ++ [(p.1, p.2 ++ [r])], []⟩ (rs.map rowC) = _
    rw [read_rows hk (p := (p.1, p.2 ++ [r])) fun x hx => h x (by simp [hx])]
    simp
theorem read_pas {ks : List (List Nat)} {ps : List Pas} {p : Pas} (hk : ks ≠ []) (hb : p.1 ≠ []) (hs : ∀ i ∈ p.1, smI i) (h : ∀ r ∈ p.2, r.length = ks.length ∧ ∀ q ∈ r, smI q.1 ∧ smI q.2) : readC ⟨ks, ps, []⟩ (pasC p) = some ⟨ks, ps ++ [p], []⟩ := by
  show (match takesC ⟨ks, ps, []⟩ (begC p.1) with | some s' => readC s' (p.2.map rowC) | none => none) = _
  rw [takes_beg hk hb hs]
  exact read_rows hk (p := (p.1, [])) h
theorem read_tels {ks : List (List Nat)} {ps : List Pas} (hk : ks ≠ []) (hp : ps ≠ []) : ∀ {us ts : List Tel}, (∀ t ∈ us, nameC t.1 = true ∧ smI t.2) → readC ⟨ks, ps, ts⟩ (us.map telC) = some ⟨ks, ps, ts ++ us⟩
  | [], ts, _ => by
    show some _ = some _
    rw [List.append_nil]
  | t :: us, ts, h => by
    show (match takesC ⟨ks, ps, ts⟩ (telC t) with | some s' => readC s' (us.map telC) | none => none) = _
    rw [takes_tel hk hp (h t (by simp))]
    show readC ⟨ks, ps, ts ++ [t]⟩ (us.map telC) = _
    rw [read_tels hk hp fun x hx => h x (by simp [hx])]
    simp
theorem lap_ok {a b c : Nat} {p : Pas} (h : LapOk a b c p) (hb : 1 ≤ b) (hc : c ≤ 100) : p.1 ≠ [] ∧ (∀ i ∈ p.1, smI i) ∧ ∀ r ∈ p.2, r.length = a ∧ ∀ q ∈ r, smI q.1 ∧ smI q.2 := by
  have hr := h.r1
  refine ⟨fun z => by have := h.b; rw [z] at this; simp at this; omega, fun i hi => by have := h.s i hi; show _ < 1000000; omega, fun r hr2 => ⟨(h.w r hr2).1, fun q hq => by
    have := (h.w r hr2).2 q hq
    constructor <;> show _ < 1000000 <;> omega⟩⟩
theorem read_lines {g : Pg} (h : PgOk g) : readC ⟨[], [], []⟩ g.lines = some ⟨g.ks, g.ps, g.ts⟩ := by
  have hk : g.ks ≠ [] := List.length_pos_iff.mp h.k1
  have htl : ∀ t ∈ g.ts, nameC t.1 = true ∧ smI t.2 := fun t ht => ⟨(h.ts t ht).1, by have := (h.ts t ht).2; show _ < 1000000; omega⟩
  show (match takesC ⟨[], [], []⟩ (kindsC g.ks) with | some s' => readC s' (g.ps.flatMap pasC ++ g.ts.map telC) | none => none) = _
  rw [takes_kinds h.k1 h.kn]
  show readC ⟨g.ks, [], []⟩ (g.ps.flatMap pasC ++ g.ts.map telC) = _
  have hps : readC ⟨g.ks, [], []⟩ (g.ps.flatMap pasC) = some ⟨g.ks, g.ps, []⟩ ∧ g.ps ≠ [] := by
    rcases h.ps with ⟨p, e, h1, _⟩ | ⟨p, q, e, h1, h2, _⟩
    · obtain ⟨b1, b2, b3⟩ := lap_ok h1 (by omega) (by omega)
      rw [e]
      refine ⟨?_, by simp⟩
      show readC ⟨g.ks, [], []⟩ (pasC p ++ []) = _
      rw [List.append_nil]
      exact read_pas hk b1 b2 b3
    · obtain ⟨b1, b2, b3⟩ := lap_ok h1 (by omega) (by omega)
      obtain ⟨c1, c2, c3⟩ := lap_ok h2 h1.r0 (by omega)
      rw [e]
      refine ⟨?_, by simp⟩
      show readC ⟨g.ks, [], []⟩ (pasC p ++ (pasC q ++ [])) = _
      rw [List.append_nil, readC_app, read_pas hk b1 b2 b3]
      exact read_pas hk c1 c2 c3
  rw [readC_app, hps.1]
  show readC ⟨g.ks, g.ps, []⟩ (g.ts.map telC) = _
  exact read_tels hk hps.2 htl
theorem nl_free {g : Pg} (h : PgOk g) : ∀ l ∈ g.lines, 10 ∉ l := fun l hl => by
  have hs := h.size
  rcases List.mem_cons.mp hl with rfl | hl
  · refine joinL_free (by decide) fun w hw => ?_
    rcases List.mem_cons.mp hw with rfl | hw
    · decide
    · exact name_free (h.kn w hw) (by omega)
  · rcases List.mem_append.mp hl with hl | hl
    · obtain ⟨p, hp, hl⟩ := List.mem_flatMap.mp hl
      rcases List.mem_cons.mp hl with rfl | hl
      · refine joinL_free (by decide) fun w hw => ?_
        rcases List.mem_cons.mp hw with rfl | hw
        · decide
        · obtain ⟨i, _, rfl⟩ := List.mem_map.mp hw
          exact intL_free (by omega)
      · obtain ⟨r, hr, rfl⟩ := List.mem_map.mp hl
        show 10 ∉ [32, 32] ++ joinL [32] (r.map pairC)
        rw [row_join, List.mem_append, not_or]
        refine ⟨by decide, joinL_free (by decide) fun w hw => ?_⟩
        obtain ⟨p, _, hp⟩ := List.mem_flatMap.mp hw
        simp only [List.mem_cons, List.not_mem_nil, or_false] at hp
        rcases hp with rfl | rfl <;> exact intL_free (by omega)
    · obtain ⟨t, ht, rfl⟩ := List.mem_map.mp hl
      rw [tel_join]
      refine joinL_free (by decide) fun w hw => ?_
      simp only [List.mem_cons, List.not_mem_nil, or_false] at hw
      rcases hw with rfl | rfl | rfl
      · decide
      · exact name_free (h.ts t ht).1 (by omega)
      · exact intL_free (by omega)
theorem split_page {ls : List (List Nat)} (h : ∀ l ∈ ls, 10 ∉ l) : splitC (pageC ls) 10 = ls ++ [[]] := by
  rw [page_join]
  refine split_join1 (by simp) fun w hw => ?_
  rcases List.mem_append.mp hw with hw | hw
  · exact h w hw
  · obtain rfl : w = [] := by simpa using hw
    simp
theorem page_inj {g g' : Pg} (h : PgOk g) (h' : PgOk g') (e : pageC g.lines = pageC g'.lines) : g = g' := by
  have h1 := split_page (nl_free h)
  have h2 := split_page (nl_free h')
  rw [e, h2] at h1
  have e2 : g'.lines = g.lines := List.append_cancel_right h1
  have r1 := read_lines h
  have r2 := read_lines h'
  rw [e2, r1] at r2
  cases g
  cases g'
  simpa using r2
end Sd
set_option Elab.async false
set_option linter.all false
set_option maxRecDepth 100000
set_option maxHeartbeats 4000000
namespace Sd
open PySem PySem.Spec L2
open SX (S S_len S_cat S_inj)
open TL (numL joinL spl)
/-- a line, a word: of a usual size, of signs -/
def LnOk (l : List Nat) : Prop := l.length ≤ 2000 ∧ ∀ c ∈ l, c < 1114112
structure RsOk (n : Nat) (s : RS) : Prop where
  k : s.ks.length ≤ 3000 ∧ ∀ w ∈ s.ks, nameC w = true
  p : s.ps.length ≤ n ∧ ∀ p ∈ s.ps, p.1.length ≤ 3000 ∧ p.2.length ≤ n ∧ ∀ r ∈ p.2, r.length ≤ 3000
  t : s.ts.length ≤ n ∧ ∀ t ∈ s.ts, nameC t.1 = true
theorem spl_sub {c : Nat} : ∀ {l acc w : List Nat}, w ∈ spl [c] 0 acc l → ∀ x ∈ w, x ∈ acc ∨ x ∈ l
  | [], acc, w, h, x, hx => by
    rw [TL.spl_nil] at h
    rw [List.mem_singleton.mp h] at hx
    exact .inl hx
  | y :: l, acc, w, h, x, hx => by
    by_cases hy : TL.pre [c] (y :: l) = true
    · rw [TL.spl_hit hy] at h
      rcases List.mem_cons.mp h with rfl | h
      · exact .inl hx
      · rcases spl_sub (acc := []) h x hx with z | z
        · cases z
        · exact .inr (by simp [z])
    · rw [TL.spl_miss (by simpa using hy)] at h
      rcases spl_sub h x hx with z | z
      · rcases List.mem_append.mp z with z | z
        · exact .inl z
        · exact .inr (by simp at z; simp [z])
      · exact .inr (by simp [z])
theorem spl_ne {c : Nat} : ∀ {l acc : List Nat}, spl [c] 0 acc l ≠ []
  | [], acc => by rw [TL.spl_nil]; simp
  | x :: l, acc => by
    by_cases hy : TL.pre [c] (x :: l) = true
    · rw [TL.spl_hit hy]; simp
    · rw [TL.spl_miss (by simpa using hy)]
      exact spl_ne
theorem fd_lst {xs : List D} {n : Nat} (hl : xs.length ≤ 1000000) (h : ∀ x ∈ xs, Fd n x) : Fd (n + 1) (.lst xs) := by
  refine ⟨?_, ?_⟩
  · rw [okD, okL_of fun x hx => (h x hx).1, decide_eq_true hl]; rfl
  · rw [dep]
    have := depL_of fun x hx => (h x hx).2
    omega
theorem words_ok {l : List Nat} (h : LnOk l) : (splitC l 32).length ≤ 2001 ∧ splitC l 32 ≠ [] ∧ ∀ w ∈ splitC l 32, LnOk w := by
  refine ⟨by have := spl_cnt (l := l) (acc := []) (c := 32); have := h.1; unfold splitC; omega, ?_, fun w hw => ⟨?_, fun c hc => ?_⟩⟩
  · exact spl_ne
  · have := spl_len (l := l) (acc := []) hw
    have := h.1
    simp only [List.length_nil] at *
    omega
  · rcases spl_sub hw c hc with z | z
    · cases z
    · exact h.2 c z
theorem LnOk.ok {l : List Nat} (h : LnOk l) : Ok (strD l) := fd_ok (n := 0) (fd_str (by have := h.1; omega) h.2) (by omega)
theorem RsOk.okT {n : Nat} {s : RS} (h : RsOk n s) (hn : n ≤ 100000) : Ok (.lst (s.ts.map telD)) := fd_ok (n := 2) (fd_lst (by rw [List.length_map]; have := h.t.1; omega) fun x hx => by
  obtain ⟨t, ht, rfl⟩ := List.mem_map.mp hx
  exact fd_tel (h.t.2 t ht)) (by omega)
theorem RsOk.okK {n : Nat} {s : RS} (h : RsOk n s) : Ok (.tup (s.ks.map strD)) := fd_ok (n := 1) (fd_tup (by rw [List.length_map]; have := h.k.1; omega) fun x hx => by
  obtain ⟨t, ht, rfl⟩ := List.mem_map.mp hx
  exact fd_name (h.k.2 t ht)) (by omega)
theorem RsOk.okP {n : Nat} {s : RS} (h : RsOk n s) (hn : n ≤ 100000) : Ok (.lst (s.st.ps.map fun p => .tup [p.1, .lst p.2])) := fd_ok (n := 6) (fd_lst (by rw [List.length_map]; show (s.ps.map _).length ≤ _; rw [List.length_map]; have := h.p.1; omega) fun x hx => by
  obtain ⟨q, hq, rfl⟩ := List.mem_map.mp hx
  obtain ⟨p, hp, rfl⟩ := List.mem_map.mp (show q ∈ s.ps.map fun p => (intsD p.1, p.2.map rowD) from hq)
  obtain ⟨h1, h2, h3⟩ := h.p.2 p hp
  refine fd_tup (by simp) fun y hy => ?_
  simp only [List.mem_cons, List.not_mem_nil, or_false] at hy
  rcases hy with rfl | rfl
  · show Fd 4 (intsD p.1)
    exact (fd_ints (by omega)).mono (by omega)
  · show Fd 4 (.lst (p.2.map rowD))
    exact fd_lst (n := 3) (by rw [List.length_map]; omega) fun z hz => by
      obtain ⟨r, hr, rfl⟩ := List.mem_map.mp hz
      exact (fd_row (by have := h3 r hr; omega)).mono (by omega)) (by omega)
theorem rowOf_len {n : Nat} {l : List Nat} {r : Row} (h : rowOf n l = some r) : r.length = n := by
  unfold rowOf at h
  cases e : numsC (splitC (l.drop 2) 32) with
  | none => rw [e] at h; cases h
  | some ns =>
    rw [e] at h
    dsimp only at h
    split at h
    · cases h
      simp [pairsC]
    · cases h
theorem RsOk.mono {n : Nat} {s : RS} (h : RsOk n s) : RsOk (n + 1) s := ⟨h.k, ⟨by have := h.p.1; omega, fun p hp => by have := h.p.2 p hp; exact ⟨this.1, by have := this.2.1; omega, this.2.2⟩⟩, ⟨by have := h.t.1; omega, h.t.2⟩⟩
theorem takesC_ok {n : Nat} {s s' : RS} {l : List Nat} (h : RsOk n s) (hl : LnOk l) (e : takesC s l = some s') : RsOk (n + 1) s' := by
  obtain ⟨w1, w2, w3⟩ := words_ok hl
  unfold takesC at e
  split at e
  · unfold takesK at e
    split at e
    · rename_i z
      cases e
      exact ⟨⟨by show (splitC l 32).tail.length ≤ 3000; rw [List.length_tail]; omega, List.all_eq_true.mp z.2.2⟩, h.mono.p, h.mono.t⟩
    · cases e
  · cases e1 : takesP s (splitC l 32) with
    | some s2 =>
      rw [e1] at e
      cases e
      unfold takesP at e1
      cases e2 : numsC (splitC l 32).tail with
      | none => rw [e2] at e1; cases e1
      | some bs =>
        rw [e2] at e1
        dsimp only at e1
        split at e1
        · cases e1
          have hb : bs.length ≤ 3000 := by
            unfold numsC at e2
            split at e2
            · cases e2
              rw [List.length_map, List.length_tail]
              omega
            · cases e2
          refine ⟨h.k, ⟨?_, fun p hp => ?_⟩, h.mono.t⟩
          · show (s.ps ++ [(bs, [])]).length ≤ n + 1
            rw [List.length_append]
            have := h.p.1
            simp only [List.length_cons, List.length_nil]
            omega
          · rcases List.mem_append.mp (show p ∈ s.ps ++ [(bs, [])] from hp) with hp | hp
            · exact h.mono.p.2 p hp
            · obtain rfl : p = (bs, []) := by simpa using hp
              exact ⟨hb, by simp, by simp⟩
        · cases e1
    | none =>
      rw [e1] at e
      dsimp only at e
      cases e2 : takesR s l with
      | some s2 =>
        rw [e2] at e
        cases e
        unfold takesR at e2
        cases e3 : rowOf s.ks.length l with
        | none => rw [e3] at e2; cases e2
        | some r =>
          rw [e3] at e2
          dsimp only at e2
          split at e2
          · rename_i z
            cases e2
            have hr := rowOf_len e3
            have hk := h.k.1
            obtain ⟨ps, p, hps⟩ : ∃ ps p, s.ps = ps ++ [p] := ⟨_, _, (List.dropLast_concat_getLast z.1).symm⟩
            refine ⟨h.k, ?_, h.mono.t⟩
            show (addRow s.ps r).length ≤ n + 1 ∧ ∀ p ∈ addRow s.ps r, _
            rw [hps, add_last]
            have hp := h.p
            rw [hps] at hp
            refine ⟨by have := hp.1; simp at this ⊢; omega, fun q hq => ?_⟩
            rcases List.mem_append.mp hq with hq | hq
            · have := hp.2 q (by simp [hq])
              exact ⟨this.1, by have := this.2.1; omega, this.2.2⟩
            · obtain rfl : q = (p.1, p.2 ++ [r]) := by simpa using hq
              have := hp.2 p (by simp)
              refine ⟨this.1, by have := this.2.1; simp; omega, fun x hx => ?_⟩
              rcases List.mem_append.mp hx with hx | hx
              · exact this.2.2 x hx
              · obtain rfl : x = r := by simpa using hx
                omega
          · cases e2
      | none =>
        rw [e2] at e
        dsimp only at e
        unfold takesT at e
        split at e
        · split at e
          · rename_i z
            cases e
            refine ⟨h.k, h.mono.p, ⟨?_, fun t ht => ?_⟩⟩
            · show (s.ts ++ [_]).length ≤ n + 1
              have := h.t.1
              simp
              omega
            · rcases List.mem_append.mp (show t ∈ s.ts ++ [_] from ht) with ht | ht
              · exact h.t.2 t ht
              · obtain rfl : t = _ := by simpa using ht
                exact z.2.1
          · cases e
        · cases e
theorem eqv_nilL {xs : List D} : eqvD (.lst xs) (.lst []) = xs.isEmpty := by
  cases xs with
  | nil => simp [eqvD, toPy, toPyL, PyData.eqv, PyData.eqvAll]
  | cons x xs => simp [eqvD, toPy, toPyL, PyData.eqv, PyData.eqvAll]
theorem ok_nilL : Ok (.lst []) := ⟨by rw [okD, okL]; decide, by decide +kernel⟩
end Sd
set_option Elab.async false
set_option linter.all false
set_option maxRecDepth 100000
set_option maxHeartbeats 4000000
namespace Sd
open PySem PySem.Spec L2
def rdO (K : PySem.W.Frag) (C : Addr) : Addr → RS → OwnP := fun a s => readerP K C a s.st
theorem rdO_at {K : PySem.W.Frag} {C : Addr} : AtRef (rdO K C) := fun a s => readerP_at a s.st
theorem rdO_ins {K : PySem.W.Frag} {C : Addr} {m : Str} (h1 : m ≠ "r_kinds") (h2 : m ≠ "r_passes") (h3 : m ≠ "r_tells") : InsO (rdO K C) C m := fun a s => rd_ins h1 h2 h3 a s.st
theorem pk_rdO {K : PySem.W.Frag} {C a : Addr} {s : RS} : PkOk K (.o (rdO K C a s)) (.d (rdD C s.st)) := pk_rd
/-- the reader's __init__ -/
def spRd (K : PySem.W.Frag) (C : Addr) : Sp := fun vs H Q _ => ∃ a dx, vs = [.ref a] ∧ H a = some (.ins C dx []) ∧ ∀ H' lp lt t, (∀ b u, b ≠ a → H b = some u → H' b = some u) → H lp = none → H lt = none → H t = none → lp ≠ lt → lp ≠ t → lt ≠ t →
  H' a = some (.ins C dx (rdF (.ref t) lp lt)) → H' t = some (.tup []) → H' lp = some (.lst []) → H' lt = some (.lst []) → Q .non H'
theorem spRd_body {K : PySem.W.Frag} {C : Addr} {N : List Str} {vs : List V} {H : Hp} {Q : VK} {E : XK} (hN : 1 ≤ N.length) (c : Cls K C) (n1 : NoAttr K C "r_kinds") (n2 : NoAttr K C "r_passes") (n3 : NoAttr K C "r_tells") (h : spRd K C vs H Q E) :
    (tSeq (sFld K (tVar 0) (tTup tNil) "r_kinds") (tSeq (sFld K (tVar 0) (tLst tNil) "r_passes") (sFld K (tVar 0) (tLst tNil) "r_tells"))) { nx := fun _ H' => Q .non H', rt := Q } (start N vs) H := by
  obtain ⟨a, dx, rfl, ha, q⟩ := h
  have h0 : (start N [V.ref a])[0]? = some (some (.ref a)) := start_at rfl
  have e1 : ∀ t, putF "r_kinds" (V.ref t) [] = [(("r_kinds" : Str), V.ref t)] := fun t => rfl
  have e2 : ∀ t lp, putF "r_passes" (V.ref lp) [(("r_kinds" : Str), V.ref t)] = [(("r_kinds" : Str), V.ref t), ("r_passes", .ref lp)] := fun t lp => by
    show (if ("r_kinds" : Str) = "r_passes" then _ else _ :: _) = _
    rw [if_neg (by decide +kernel)]
    rfl
  have e3 : ∀ t lp lt, putF "r_tells" (V.ref lt) [(("r_kinds" : Str), V.ref t), ("r_passes", .ref lp)] = rdF (.ref t) lp lt := fun t lp lt => by
    show (if ("r_kinds" : Str) = "r_tells" then _ else _ :: (if ("r_passes" : Str) = "r_tells" then _ else _ :: _)) = _
    rw [if_neg (by decide +kernel), if_neg (by decide +kernel)]
    rfl
  refine ⟨line_ok (by simp), fun t ht => ⟨_, h0, a, C, dx, [], rfl, ?_, c, n1, by decide, ?_⟩⟩
  · rw [upd_ne fun z => by rw [← z, ha] at ht; cases ht]; exact ha
  have nat : a ≠ t := fun z => by rw [← z, ha] at ht; cases ht
  rw [e1]
  refine ⟨line_ok (by simp), fun lp hlp => ⟨_, h0, a, C, dx, [(("r_kinds" : Str), V.ref t)], rfl, ?_, c, n2, by show 1 < 1000; omega, ?_⟩⟩
  · have : a ≠ lp := fun z => by rw [← z, upd_same] at hlp; cases hlp
    rw [upd_ne this, upd_same]
  have nalp : a ≠ lp := fun z => by rw [← z, upd_same] at hlp; cases hlp
  have ntlp : t ≠ lp := fun z => by rw [← z, upd_ne (Ne.symm nat), upd_same] at hlp; cases hlp
  rw [e2]
  have hlp0 : H lp = none := by rwa [upd_ne (Ne.symm nalp), upd_ne (Ne.symm ntlp)] at hlp
  refine ⟨line_ok (by simp), fun lt hlt => ⟨_, h0, a, C, dx, [(("r_kinds" : Str), V.ref t), ("r_passes", .ref lp)], rfl, ?_, c, n3, by show 2 < 1000; omega, ?_⟩⟩
  · have : a ≠ lt := fun z => by rw [← z, upd_same] at hlt; cases hlt
    rw [upd_ne this, upd_same]
  have nalt : a ≠ lt := fun z => by rw [← z, upd_same] at hlt; cases hlt
  have nlplt : lp ≠ lt := fun z => by rw [← z, upd_ne (Ne.symm nalp), upd_same] at hlt; cases hlt
  have ntlt : t ≠ lt := fun z => by rw [← z, upd_ne (Ne.symm nat), upd_ne ntlp, upd_ne (Ne.symm nat), upd_same] at hlt; cases hlt
  rw [e3]
  have hlt0 : H lt = none := by rwa [upd_ne (Ne.symm nalt), upd_ne (Ne.symm nlplt), upd_ne (Ne.symm nalt), upd_ne (Ne.symm ntlt)] at hlt
  refine q _ lp lt t (fun b u hb e => ?_) hlp0 hlt0 ht nlplt (Ne.symm ntlp) (Ne.symm ntlt) upd_same ?_ ?_ ?_
  · rw [upd_ne hb, upd_ne (fun z => by rw [z, hlt0] at e; cases e), upd_ne hb, upd_ne (fun z => by rw [z, hlp0] at e; cases e), upd_ne hb, upd_ne (fun z => by rw [z, ht] at e; cases e)]
    exact e
  · rw [upd_ne (Ne.symm nat), upd_ne ntlt, upd_ne (Ne.symm nat), upd_ne ntlp, upd_ne (Ne.symm nat), upd_same]
  · rw [upd_ne (Ne.symm nalp), upd_ne nlplt, upd_ne (Ne.symm nalp), upd_same]
  · rw [upd_ne (Ne.symm nalt), upd_same]
section
variable {w : Wd} {G : List Ent} {N : List Ent → Prop} {R : List Ent → D → Prop} {ta : TE} {i j : Nat} {C : Addr} {E : XK}
/-- a, b = e, Reader() -/
theorem wps_parRd (hj : j < G.length) (h : wp w ta G fun d => ∀ x, N ((G.set i (.d d)).set j (.o (rdO w.K C x ⟨[], [], []⟩)))) : wps w (tPar i j (tCons ta (tCons (tMake C (spRd w.K C) [] E tNil) tNil))) G N R := fun σ F H En A n r =>
  h σ F H A _ fun v d F1 H1 s1 A1 rp q => by
    intro x dx hx hd hne
    have nx : upd H1 dx (.own x) x = none := by rw [upd_ne (Ne.symm hne)]; exact hx
    have s2 : Same H1 (upd (upd H1 dx (.own x)) x (.ins C dx [])) := (same_new hd).trans (same_new nx)
    refine ⟨x, dx, rfl, upd_same, fun H' lp lt t k hlp hlt ht n1 n2 n3 ha h1 h2 h3 => ⟨rfl, v, .ref x, rfl, ?_⟩⟩
    have back : ∀ b, upd (upd H1 dx (.own x)) x (.ins C dx []) b = none → H1 b = none := fun b hb => by
      cases e : H1 b with
      | none => rfl
      | some u => rw [s2 b u e] at hb; cases hb
    have ne : ∀ b, upd (upd H1 dx (.own x)) x (.ins C dx []) b = none → b ≠ x := fun b hb z => by rw [z, upd_same] at hb; cases hb
    have s3 : Same H1 H' := fun b u e => k b u (fun z => by rw [z, hx] at e; cases e) (s2 b u e)
    let qs : List Addr := [x, lp, lt]
    have hq : ∀ b, b ∈ qs → H1 b = none ∧ H' b ≠ none := fun b hb => by
      simp only [qs, List.mem_cons, List.not_mem_nil, or_false] at hb
      rcases hb with rfl | rfl | rfl
      · exact ⟨hx, by rw [ha]; exact fun z => nomatch z⟩
      · exact ⟨back _ hlp, by rw [h2]; exact fun z => nomatch z⟩
      · exact ⟨back _ hlt, by rw [h3]; exact fun z => nomatch z⟩
    have A2 := A1.putD i rp
    have ft : extBut F1 H1 H' qs t = some (.tup []) := by
      unfold extBut
      rw [if_neg (by simp only [qs, List.mem_cons, List.not_mem_nil, or_false]; rintro (z | z | z); exact ne t ht z; exact n2 z.symm; exact n3 z.symm), ext_none (back t ht)]
      exact h1
    obtain ⟨A3, s4⟩ := A2.putNew (i := j) (by rw [List.length_set]; exact hj) (rdO w.K C x ⟨[], [], []⟩) s3 hq
      ⟨rfl, dx, lp, lt, .ref t, [], [], rfl, by
        simp only [qs, List.nodup_cons, List.mem_cons, List.not_mem_nil, or_false, not_or, not_false_eq_true, List.nodup_nil, and_true]
        exact ⟨⟨fun z => ne lp hlp z.symm, fun z => ne lt hlt z.symm⟩, n1⟩, ha, .tup ft .nil, h2, h3, .nil, trivial⟩
    exact n _ _ _ _ (s1.trans s4) A3 (q x)
end
/-- what a takes says of the state -/
def outc (o : Option RS) (s : RS) (d : D) (s' : RS) : Prop := match o with
  | some s2 => d = .bl true ∧ s' = s2
  | none => d = .bl false ∧ s' = s
def wordsP (x : D) : Prop := ∃ ws : List (List Nat), x = .lst (ws.map strD) ∧ ws ≠ [] ∧ ws.length ≤ 2001 ∧ ∀ w ∈ ws, LnOk w
theorem st_ps {ks : List (List Nat)} {ps : List Pas} {ts : List Tel} : ((RS.st ⟨ks, ps, ts⟩).ps.map fun p => D.tup [p.1, .lst p.2]) = ps.map fun p => .tup [intsD p.1, .lst (p.2.map rowD)] := by
  show List.map _ (List.map _ _) = _
  rw [List.map_map]
  rfl
end Sd
set_option Elab.async false
set_option linter.all false
set_option maxRecDepth 100000
set_option maxHeartbeats 4000000
namespace Sd
open PySem PySem.Spec L2
open SX (S S_len S_cat S_inj)
open TL (numL joinL spl)
theorem joinL_mem {s c : Nat} : ∀ {ws : List (List Nat)}, c ∈ joinL [s] ws → c = s ∨ ∃ w ∈ ws, c ∈ w
  | [], h => by rw [joinL] at h; cases h
  | [w], h => .inr ⟨w, by simp, h⟩
  | w :: v :: r, h => by
    have h' : c ∈ w ++ ([s] ++ joinL [s] (v :: r)) := h
    simp only [List.mem_append, List.mem_singleton] at h'
    rcases h' with h | h | h
    · exact .inr ⟨w, by simp, h⟩
    · exact .inl h
    · rcases joinL_mem h with h | ⟨x, hx, h⟩
      · exact .inl h
      · exact .inr ⟨x, by simp [hx], h⟩
theorem intL_sign {i : Int} {c : Nat} (h : c ∈ intL i) : c < 1114112 := by
  by_cases z : c < 45 ∨ 57 < c
  · exact absurd h (intL_free z)
  · omega
theorem lits_sign {l : List Nat} (h : l.all (fun c => decide (c < 1114112)) = true) : ∀ c ∈ l, c < 1114112 := fun c hc => of_decide_eq_true (List.all_eq_true.mp h c hc)
theorem name_sign {l : List Nat} (h : nameC l = true) : ∀ c ∈ l, c < 1114112 := fun c hc => by have := (nameC_iff.mp h).2 c hc; omega
theorem join_sign {ws : List (List Nat)} (h : ∀ w ∈ ws, ∀ c ∈ w, c < 1114112) : ∀ c ∈ joinL [32] ws, c < 1114112 := fun c hc => by
  rcases joinL_mem hc with rfl | ⟨w, hw, hc⟩
  · omega
  · exact h w hw c hc
theorem lines_ok {g : Pg} (h : PgOk g) : ∀ l ∈ g.lines, LnOk l := fun l hl => by
  have hlen := (lines_len h.size).2 l hl
  refine ⟨by omega, ?_⟩
  rcases List.mem_cons.mp hl with rfl | hl
  · refine join_sign fun w hw => ?_
    rcases List.mem_cons.mp hw with rfl | hw
    · exact lits_sign (by decide)
    · exact name_sign (h.kn w hw)
  · rcases List.mem_append.mp hl with hl | hl
    · obtain ⟨p, hp, hl⟩ := List.mem_flatMap.mp hl
      rcases List.mem_cons.mp hl with rfl | hl
      · refine join_sign fun w hw => ?_
        rcases List.mem_cons.mp hw with rfl | hw
        · exact lits_sign (by decide)
        · obtain ⟨i, _, rfl⟩ := List.mem_map.mp hw
          exact fun c hc => intL_sign hc
      · obtain ⟨r, hr, rfl⟩ := List.mem_map.mp hl
        intro c hc
        have hc' : c ∈ [32, 32] ++ joinL [32] (r.map pairC) := hc
        rw [row_join] at hc'
        rcases List.mem_append.mp hc' with hc | hc
        · exact lits_sign (l := [32, 32]) (by decide) c hc
        · refine join_sign (fun w hw => ?_) c hc
          obtain ⟨p, _, hp⟩ := List.mem_flatMap.mp hw
          simp only [List.mem_cons, List.not_mem_nil, or_false] at hp
          rcases hp with rfl | rfl <;> exact fun c hc => intL_sign hc
    · obtain ⟨t, ht, rfl⟩ := List.mem_map.mp hl
      rw [tel_join]
      refine join_sign fun w hw => ?_
      simp only [List.mem_cons, List.not_mem_nil, or_false] at hw
      rcases hw with rfl | rfl | rfl
      · exact lits_sign (by decide)
      · exact name_sign (h.ts t ht).1
      · exact fun c hc => intL_sign hc
/-- up to a line -/
theorem readC_at {f : RS} : ∀ {ls : List (List Nat)} {s : RS} {i : Nat} {l : List Nat}, readC s ls = some f → ls[i]? = some l → ∃ s1 s2, readC s (ls.take i) = some s1 ∧ takesC s1 l = some s2 ∧ readC s (ls.take (i + 1)) = some s2
  | [], s, i, l, _, h => by simp at h
  | l :: ls, s, 0, _, h, rfl => by
    cases e : takesC s l with
    | none =>
      have h' : (match takesC s l with | some s' => readC s' ls | none => none) = some f := h
      rw [e] at h'
      cases h'
    | some s' =>
      refine ⟨s, s', rfl, e, ?_⟩
      show (match takesC s l with | some s' => readC s' (ls.take 0) | none => none) = some s'
      rw [e]
      rfl
  | x :: ls, s, i + 1, l, h, hl => by
    cases e : takesC s x with
    | none =>
      have h' : (match takesC s x with | some s' => readC s' ls | none => none) = some f := h
      rw [e] at h'
      cases h'
    | some s' =>
      have h' : (match takesC s x with | some s' => readC s' ls | none => none) = some f := h
      rw [e] at h'
      obtain ⟨s1, s2, h1, h2, h3⟩ := readC_at h' (show ls[i]? = some l from hl)
      refine ⟨s1, s2, ?_, h2, ?_⟩
      · show (match takesC s x with | some s' => readC s' (ls.take i) | none => none) = some s1
        rw [e]; exact h1
      · show (match takesC s x with | some s' => readC s' (ls.take (i + 1)) | none => none) = some s2
        rw [e]; exact h3
theorem cutm1 (xs : List D) (x : D) : cutD (xs ++ [x]) none (some (-1)) = xs := by
  unfold cutD
  have e1 : HT.sIx (xs ++ [x]).length 0 none = 0 := rfl
  have e2 : HT.sIx (xs ++ [x]).length (xs ++ [x]).length (some (-1)) = xs.length := by
    show (if (-1 : Int) < 0 then ((-1 : Int) + ((xs ++ [x]).length : Int)).toNat else min (-1 : Int).toNat (xs ++ [x]).length) = xs.length
    rw [if_pos (by decide), List.length_append, List.length_singleton]
    omega
  rw [e1, e2, List.drop_zero, Nat.sub_zero, List.take_left]
theorem rs0_ok : RsOk 0 ⟨[], [], []⟩ := ⟨⟨by simp, by simp⟩, ⟨by simp, by simp⟩, ⟨by simp, by simp⟩⟩
end Sd
set_option Elab.async false
set_option linter.all false
set_option maxRecDepth 100000
set_option maxHeartbeats 4000000
/-! Sd14: repr where no repr is under way; the law's def, run where no repr is under way. -/
namespace Sd
open PySem PySem.Spec L2
open PyProof.Rows
section
variable {X : Cx}
/-- repr(x) of nested lists, tuples, texts, numbers -/
theorem call_reprD (hg : X.A.guards = some []) (hu : X.A.units + 66 < cLine) : CallR X (.builtin "repr") (fun xs H Q => ∃ a d, xs = [.ref a] ∧ Dp X.K H (.ref a) d ∧ d.showable = true ∧ d.hasDict = false ∧ d.depth ≤ 64 ∧ d.shown.length ≤ sizeLine ∧ Q (.str d.shown) H) := fun pins s σ H xs us Q I r h => by
  obtain ⟨a, d, rfl, hd, h1, h2, h3, h4, q⟩ := h
  cases r with
  | cons rv rr =>
    cases rr
    cases rv
    obtain ⟨as, rd⟩ := Dp.reads I d _ _ hd rfl
    exact repr_of_reads' rd h1 (PyData.noDict_hsm h2) hg (by omega) (fun _ _ e => e) (fun h' u tk hk => ⟨.str d.shown, H, I.kept hk, ⟨u, rfl⟩, q⟩) h4
end
section
variable {K : PySem.W.Frag} {Q : D → Prop}
theorem rc_repr {x : D} (hx : ∃ xs, x = .lst xs ∨ x = .tup xs) (h0 : pl x = true) (h1 : (toPy x).showable = true) (h2 : (toPy x).hasDict = false) (h3 : (toPy x).depth ≤ 64) (h4 : (toPy x).shown.length ≤ sizeLine) (q : Q (.str (toPy x).shown)) :
    RCD K (fun xs H Q => ∃ a d, xs = [.ref a] ∧ Dp K H (.ref a) d ∧ d.showable = true ∧ d.hasDict = false ∧ d.depth ≤ 64 ∧ d.shown.length ≤ sizeLine ∧ Q (.str d.shown) H) [x] Q := fun F H vs s r1 k z => by
  cases r1 with
  | cons r rr =>
    cases rr
    have hdp := rp_dp _ (r.mono s) h0
    obtain ⟨xs, rfl | rfl⟩ := hx <;> cases r <;> exact ⟨_, _, rfl, hdp, h1, h2, h3, h4, z _ _ H (Same.refl _) (.str _) q⟩
end
/-! ### the law's def -/
structure LawRun (P : Program) (w : World) (K : PySem.W.Frag) (mg : Str → Option Value) (base : Heap) (k : Nat) (f : Addr) (fd : FuncData) (ps : List Str) (sp : Sp) : Prop where
  run : ∀ (A : Around) (outer : List Env) (s : Shared) (H : Hp) (args : Args) (us : List Value) (vs : List V) (Q : VK) (E : XK), A.guards = some [] → Room k A → Env0 P w K mg base A outer s H → BindsTo s fd args (ps.zip us) → Vals vs us → sp vs H Q E → codeAny (model P w) A (.call (.ref f) args) (CR CX0 outer P w H s Q E) s
theorem law_fn {P : Program} {w : World} {K : PySem.W.Frag} {mg : Str → Option Value} {base : Heap} {k : Nat} {x qual : Str} {st : Stmt} {f : Addr} {fd : FuncData} {N ps : List Str} {sp : Sp} (F : Fun K x qual st f fd) (S : FnScope N ps (defScope st)) (len : ∀ vs H Q E, sp vs H Q E → vs.length = ps.length)
    (hbody : ∀ (cdv : Value) (A : Around) (outer : List Env) (s : Shared) (H : Hp) (vs : List V) (Q : VK) (E : XK), (A.deeper (envOfC qual (defScope st) s.heap.objs.size f cdv)).guards = some [] → Room k (A.deeper (envOfC qual (defScope st) s.heap.objs.size f cdv)) → sp vs H Q E →
      ∃ t, PSs (cxOf CX0 P w K mg base N qual (defScope st) f cdv A outer s H E).nox (defBody st) t ∧ t { nx := fun _ H' => Q .non H', rt := Q } (start N vs) H) : LawRun P w K mg base (k + 1) f fd ps sp := by
  obtain ⟨oc, od, kV, doc, pm, an, cdv, ct, osl, rfl, lk, hcd⟩ := F.ex
  refine ⟨fun A outer s H args us vs Q E hgd hr e0 hb r hsp => ?_⟩
  have hl := len _ _ _ _ hsp
  have keep : ∀ b o, base.get? b = some o → s.heap.get? b = some o := fun b o e => (e0.bs b o e).1
  have KX := e0.mod.kin.keeps keep
  refine codeAny_call_function hr.depth (KX _ _ lk) rfl S.co S.gen rfl (PySem.W.codeRec_of KX hcd) (hb _ _ _ _ (wpAny_newFunctionEnv_cells S.kind (fun y hy => ?_) fun env he s1 x => ?_))
  · obtain ⟨n, v⟩ := y
    exact (S.par n (List.of_mem_zip hy).1).elim .inl fun q => .inr ⟨q, PySem.W.cellsFrom_some _ _ _ (.inl q)⟩
  subst he
  refine ⟨(e0.mod.nolimit.keeps keep).keeps x.toInCall.keep, codeAny_func ?_⟩
  obtain ⟨t, ht, hq⟩ := hbody cdv A outer s H vs Q E hgd (hr.deeper _) hsp
  have I : Inv (cxOf CX0 P w K mg base N qual (defScope st) f cdv A outer s H E) [] (start N vs) H s1 := inv_start S hr.hd e0 hl r x
  have fin : ∀ {σ' : L2.St} {H' : Hp} {v : V} {u : Value} {s' : Shared}, Inv (cxOf CX0 P w K mg base N qual (defScope st) f cdv A outer s H E) [] σ' H' s' → RelV v u → Q v H' → CE outer P w H s Q u s' := fun J rv q => ⟨_, _, J.os, J.bare, J.base, J.hok, rv, q⟩
  refine wpAny_mono (ht.nox.run [] s1 (start N vs) H _ I hq) (fun fl s' hs => ?_) fun e s' hs => hs
  cases fl with
  | ret u =>
    obtain ⟨v, σ', H', J, rv, q⟩ := hs
    exact fin J rv q
  | next =>
    obtain ⟨σ', H', J, q⟩ := hs
    exact fin (v := V.non) (u := Value.none) J rfl q
  | _ => obtain ⟨_, _, _, q⟩ := hs; exact False.elim q
/-- the law's promise at the heap behind the top, no repr under way -/
theorem law_callR {P : Program} {w : World} {K : PySem.W.Frag} {mg mb : Str → Option Value} {k : Nat} {fa a : Addr} {fd : FuncData} {x : Str} {sp : Sp} {s1 : Shared} {vs : List Value} {ns : List Int} (KX : K.In s1.heap) (hns : s1.heap.Ns mainGlobals mg) (hb : s1.heap.Ns builtinsNs mb)
    (hbb : ∀ y : Str, y ≠ "__name__" → mb y = bootBuiltins y) (hlim : s1.heap.NoLimit) (hg : s1.gens = #[]) (ha : s1.heap.get? a = some { cls := .type "list", data := .seq vs.toArray }) (hi : IntsAre vs ns) (hl : ns.length ≤ sizeLine) (hr : Room k callerA)
    (F : ∀ base : Heap, K.In base → base.Ns mainGlobals mg → LawRun P w K mg base k fa fd [x] sp) (hbind : ∀ (s : Shared) (u : Value), BindsTo s fd ⟨[u], []⟩ [(x, u)]) (hsp : ∀ H : Hp, Only H → SqL K H a (ns.map V.int) → sp [.ref a] H (fun v _ => v = .bl true) fun _ _ _ => False) :
    codeAny (model P w) callerA (.call (.ref fa) ⟨[.ref a], []⟩) (fun r s' => r = .ok (.ret (.bool true)) ∧ OldK s1.heap s'.heap ∧ s'.os = s1.os ∧ AllBare s'.gens) s1 := by
  have core : ∀ H : Hp, Only H → SqL K H a (ns.map V.int) → HOk P w H s1.heap → (∀ b, H b ≠ none → b = a) → (H a ≠ none → K.lookup a = none) → codeAny (model P w) callerA (.call (.ref fa) ⟨[.ref a], []⟩) (fun r s' => r = .ok (.ret (.bool true)) ∧ OldK s1.heap s'.heap ∧ s'.os = s1.os ∧ AllBare s'.gens) s1 := fun H hO hS hok hA hK => by
    have dat : ∀ {b : Addr} {o : Obj} {es : Array DictEntry} {ep : Nat}, s1.heap.get? b = some o → o.data = .dict es ep → H b = none := fun {b o es ep} e d => by
      cases q : H b with
      | none => rfl
      | some u =>
        obtain rfl := hA b (by rw [q]; exact fun z => nomatch z)
        rw [ha] at e
        cases e
        cases d
    have nsK : ∀ {b : Addr} {m : Str → Option Value}, s1.heap.Ns b m → (hidT s1.heap H).Ns b m := fun ⟨o, es, ep, e, d, r⟩ => ⟨o, es, ep, hidT_get e (dat e d), d, r⟩
    have hKb : K.In (hidT s1.heap H) := fun b o e => hidT_get (KX b o e) (by
      cases q : H b with
      | none => rfl
      | some u =>
        obtain rfl := hA b (by rw [q]; exact fun z => nomatch z)
        rw [hK (by rw [q]; exact fun z => nomatch z)] at e
        cases e)
    have hM : Mod K mg (hidT s1.heap H) := ⟨hKb, nsK hns, ⟨mb, nsK hb, hbb⟩, let ⟨mc, h1, h2⟩ := hlim; ⟨mc, nsK h1, h2⟩⟩
    have e0 : Env0 P w K mg (hidT s1.heap H) callerA [] s1 H := ⟨rfl, hM, fun b o e => of_hidT e, Nat.le_of_eq (hidT_size _ _), trivial, (fun b hb => nomatch hb), hok, .of_eq hg⟩
    refine codeAny_mono ((F _ hKb (nsK hns)).run callerA [] s1 H ⟨[.ref a], []⟩ [.ref a] [.ref a] _ _ rfl hr e0 (hbind s1 (.ref a)) (.cons rfl .nil) (hsp H hO hS)) fun r s' h => ?_
    rcases r with er | fl
    · exact (show False from h).elim
    · cases fl with
      | ret u =>
        obtain ⟨v, H', os, bare, un, hok', r', q⟩ := h
        have q' : v = .bl true := q
        subst q'
        obtain rfl : u = Value.bool true := r'
        refine ⟨rfl, OldK.of_keep fun b o e => ?_, os, bare⟩
        cases q : H b with
        | none => exact un.keep b o e q (fun z => nomatch z) (fun z => nomatch z)
        | some u =>
          rcases hO b with z | ⟨ob, xs, z⟩
          · rw [q] at z; cases z
          · obtain ⟨e1, _⟩ := hok b _ z
            obtain ⟨e2, _⟩ := hok' b _ (un.frzs b ob _ z)
            rw [e] at e1
            cases e1
            exact e2
      | next => exact False.elim h
      | brk => exact False.elim h
      | cont => exact False.elim h
  have rv := vals_ints hi
  cases hk : K.lookup a with
  | some o =>
    have e := KX a o hk
    rw [ha] at e
    cases e
    exact core (fun _ => none) (fun _ => .inl rfl) (.inr ⟨_, vs.toArray, _, hk, rfl, rfl, rfl, by rw [List.size_toArray, hi.length]; exact hl, by simpa using rv⟩) (fun b u z => nomatch z) (fun b z => absurd rfl z) fun z => absurd rfl z
  | none =>
    let o : Obj := { cls := .type "list", data := .seq vs.toArray }
    let H : Hp := fun b => if b = a then some (.frz o (.lst (ns.map V.int))) else none
    have Ha : H a = some (.frz o (.lst (ns.map V.int))) := if_pos rfl
    have Hb : ∀ b, b ≠ a → H b = none := fun b hb => if_neg hb
    refine core H (fun b => ?_) (.inl (.inr ⟨o, Ha⟩)) (fun b u z => ?_) (fun b z => ?_) fun _ => hk
    · by_cases hb : b = a
      · exact .inr ⟨_, _, by rw [hb]; exact Ha⟩
      · exact .inl (Hb b hb)
    · by_cases hb : b = a
      · subst hb
        rw [Ha] at z
        cases z
        exact ⟨ha, by rw [List.length_map]; exact hl, vs, _, rv, ha⟩
      · rw [Hb b hb] at z
        cases z
    · by_cases hb : b = a
      · exact hb
      · exact absurd (Hb b hb) z
theorem walk_ofR {l : PySem.W.OpenLaw} {n k : Nat} {q : Program} {loose : List Str} {XP : (Str → Option Value) → Heap → Prop} {YP : World → Heap → Prop} {d : DefRec} {K : Params → PySem.W.Frag} {sp : PySem.W.Frag → Sp} {x : Str} (hn : l.most = some n) (hn2 : n ≤ sizeLine) (hdf : d.params.defaults = []) (hr : Room k callerA)
    (hY : ∀ (w : World) (h : Heap), YP w h → (K w.params).In h) (F : ∀ (w : World) (mg : Str → Option Value) (fa : Addr) (h : Heap), (K w.params).In h → h.Ns mainGlobals mg → mg d.name = some (.ref fa) →
      ∃ fd : FuncData, (∀ (s : Shared) (u : Value), BindsTo s fd ⟨[u], []⟩ [(x, u)]) ∧ ∀ base : Heap, (K w.params).In base → base.Ns mainGlobals mg → LawRun l.prog w (K w.params) mg base k fa fd [x] (sp (K w.params)))
    (hsp : ∀ (K : PySem.W.Frag) (H : Hp) (a : Addr) (ns : List Int), ns.length ≤ n → Only H → SqL K H a (ns.map V.int) → sp K [.ref a] H (fun v _ => v = .bl true) fun _ _ _ => False) : PySem.W.WalkO q loose XP YP l.row.toRowW d [] (fun f vs => PySem.call f vs) :=
  Att.attach_call hn hdf fun w s0 s1 mg mb fa o pm cd doc a vs ns G Y ho hd hcd hmg hobj hints hlen hg => by
    have KX := hY w _ Y
    obtain ⟨fd, hb, hF⟩ := F w mg fa _ KX G.T.g hmg
    exact law_callR KX G.T.g G.T.b G.T.builtins G.T.nolimit hg hobj hints (Nat.le_trans hlen hn2) hr hF hb fun H hO hS => hsp _ H a ns hlen hO hS
end Sd
set_option Elab.async false
set_option linter.all false
set_option maxRecDepth 100000
set_option maxHeartbeats 4000000
/-! M13: equality of data without truth values; what repr shows is short. -/
namespace Sd
open PySem PySem.Spec L2
open SX (S S_len S_cat S_inj)
open TL (numL joinL spl)
mutual
def nbl : D → Bool
  | .bl _ => false
  | .obj .. => false
  | .dic => false
  | .tup xs => nblL xs
  | .lst xs => nblL xs
  | _ => true
def nblL : List D → Bool
  | [] => true
  | x :: xs => nbl x && nblL xs
end
mutual
theorem eqv_iff : ∀ {d e : D}, nbl d = true → nbl e = true → (eqvD d e = true ↔ d = e)
  | .non, e, _, he => by cases e <;> simp_all [eqvD, toPy, PyData.eqv, nbl]
  | .bl _, _, h, _ => by simp [nbl] at h
  | .obj .., _, h, _ => by simp [nbl] at h
  | .dic, _, h, _ => by simp [nbl] at h
  | .int i, e, _, he => by cases e <;> simp_all [eqvD, toPy, PyData.eqv, nbl]
  | .str s, e, _, he => by cases e <;> simp_all [eqvD, toPy, PyData.eqv, nbl]
  | .tup xs, .tup ys, hd, he => by
    have h1 : nblL xs = true := by simpa [nbl] using hd
    have h2 : nblL ys = true := by simpa [nbl] using he
    have ih := eqvL_iff h1 h2
    simp only [eqvD, toPy, PyData.eqv, D.tup.injEq]
    exact ih
  | .lst xs, .lst ys, hd, he => by
    have h1 : nblL xs = true := by simpa [nbl] using hd
    have h2 : nblL ys = true := by simpa [nbl] using he
    have ih := eqvL_iff h1 h2
    simp only [eqvD, toPy, PyData.eqv, D.lst.injEq]
    exact ih
  | .tup xs, .non, _, _ => by simp [eqvD, toPy, PyData.eqv]
  | .tup xs, .int _, _, _ => by simp [eqvD, toPy, PyData.eqv]
  | .tup xs, .str _, _, _ => by simp [eqvD, toPy, PyData.eqv]
  | .tup xs, .lst _, _, _ => by simp [eqvD, toPy, PyData.eqv]
  | .tup xs, .bl _, _, h => by simp [nbl] at h
  | .tup xs, .obj .., _, h => by simp [nbl] at h
  | .tup xs, .dic, _, h => by simp [nbl] at h
  | .lst xs, .non, _, _ => by simp [eqvD, toPy, PyData.eqv]
  | .lst xs, .int _, _, _ => by simp [eqvD, toPy, PyData.eqv]
  | .lst xs, .str _, _, _ => by simp [eqvD, toPy, PyData.eqv]
  | .lst xs, .tup _, _, _ => by simp [eqvD, toPy, PyData.eqv]
  | .lst xs, .bl _, _, h => by simp [nbl] at h
  | .lst xs, .obj .., _, h => by simp [nbl] at h
  | .lst xs, .dic, _, h => by simp [nbl] at h
theorem eqvL_iff : ∀ {d e : List D}, nblL d = true → nblL e = true → (PyData.eqvAll (toPyL d) (toPyL e) = true ↔ d = e)
  | [], [], _, _ => by simp [toPyL, PyData.eqvAll]
  | [], _ :: _, _, _ => by simp [toPyL, PyData.eqvAll]
  | _ :: _, [], _, _ => by simp [toPyL, PyData.eqvAll]
  | x :: xs, y :: ys, hd, he => by
    have h1 : nbl x = true ∧ nblL xs = true := by simpa [nblL] using hd
    have h2 : nbl y = true ∧ nblL ys = true := by simpa [nblL] using he
    have a := eqv_iff h1.1 h2.1
    have b := eqvL_iff h1.2 h2.2
    simp only [toPyL, PyData.eqvAll, Bool.and_eq_true, List.cons.injEq]
    exact and_congr a b
end
theorem eqv_dec {d e : D} (h1 : nbl d = true) (h2 : nbl e = true) {p : Prop} [Decidable p] (hp : d = e ↔ p) : eqvD d e = decide p := by
  have h := (eqv_iff h1 h2).trans hp
  cases z : eqvD d e with
  | true => exact (decide_eq_true (h.mp z)).symm
  | false => exact (decide_eq_false fun y => by rw [h.mpr y] at z; cases z).symm
theorem nblL_of : ∀ {xs : List D}, (∀ x ∈ xs, nbl x = true) → nblL xs = true
  | [], _ => by simp [nblL]
  | x :: xs, h => by
    rw [nblL, h x (by simp), nblL_of fun y hy => h y (by simp [hy])]
    rfl
theorem nbl_tup {xs : List D} (h : ∀ x ∈ xs, nbl x = true) : nbl (.tup xs) = true := by rw [nbl]; exact nblL_of h
theorem nbl_map {α : Type} {f : α → D} {l : List α} (h : ∀ a, nbl (f a) = true) : nbl (.tup (l.map f)) = true := nbl_tup fun x hx => by
  obtain ⟨a, _, rfl⟩ := List.mem_map.mp hx
  exact h a
theorem nbl_int (i : Int) : nbl (.int i) = true := by simp [nbl]
theorem nbl_str (l : List Nat) : nbl (strD l) = true := by simp [nbl]
theorem nbl_pair (p : Int × Int) : nbl (pairD p) = true := nbl_tup fun x hx => by
  simp only [List.mem_cons, List.not_mem_nil, or_false] at hx
  rcases hx with rfl | rfl <;> exact nbl_int _
theorem nbl_pas (p : Pas) : nbl (pasD p) = true := nbl_tup fun x hx => by
  simp only [List.mem_cons, List.not_mem_nil, or_false] at hx
  rcases hx with rfl | rfl
  · exact nbl_map nbl_int
  · exact nbl_map fun r => nbl_map nbl_pair
theorem nbl_tel (t : Tel) : nbl (telD t) = true := nbl_tup fun x hx => by
  simp only [List.mem_cons, List.not_mem_nil, or_false] at hx
  rcases hx with rfl | rfl
  · exact nbl_str _
  · exact nbl_int _
theorem nbl_pg (g : Pg) : nbl g.D = true ∧ nbl g.pD = true := by
  have h2 : nbl g.pD = true := nbl_map nbl_pas
  refine ⟨nbl_tup fun x hx => ?_, h2⟩
  simp only [List.mem_cons, List.not_mem_nil, or_false] at hx
  rcases hx with rfl | rfl | rfl
  · exact nbl_map nbl_str
  · exact h2
  · exact nbl_map nbl_tel
theorem nbl_strs (ws : List (List Nat)) : nbl (.tup (ws.map strD)) = true := nbl_map nbl_str
theorem pg_fd {g : Pg} (h : PgOk g) : Ok g.D := by
  have hs := h.size
  refine fd_ok (n := 6) (fd_tup (n := 5) (by simp) fun x hx => ?_) (by omega)
  simp only [List.mem_cons, List.not_mem_nil, or_false] at hx
  rcases hx with rfl | rfl | rfl
  · exact (fd_tup (n := 0) (by rw [List.length_map]; have := h.k4; omega) fun x hx => by
      obtain ⟨l, hl, rfl⟩ := List.mem_map.mp hx
      exact fd_name (h.kn l hl)).mono (by omega)
  · exact fd_tup (n := 4) (by rw [List.length_map]; have := hs.p; omega) fun x hx => by
      obtain ⟨l, hl, rfl⟩ := List.mem_map.mp hx
      exact fd_pas (hs.pw l hl)
  · exact (fd_tup (n := 1) (by rw [List.length_map]; have := hs.t; omega) fun x hx => by
      obtain ⟨l, hl, rfl⟩ := List.mem_map.mp hx
      exact fd_tel (h.ts l hl).1).mono (by omega)
theorem names_fd {ws : List (List Nat)} (hl : ws.length ≤ 1000000) (h : ∀ w ∈ ws, nameC w = true) : Ok (.tup (ws.map strD)) := fd_ok (n := 1) (fd_tup (by rw [List.length_map]; exact hl) fun x hx => by
  obtain ⟨l, hl, rfl⟩ := List.mem_map.mp hx
  exact fd_name (h l hl)) (by omega)
/-! what repr shows -/
theorem textFrom_le : ∀ (ts : List Str) (k : Nat) (acc : Str), (textFrom k acc ts).length ≤ acc.length + piled ts
  | [], k, acc => by show acc.length ≤ _; omega
  | t :: r, k, acc => by
    have ih := textFrom_le r (k + 1) (acc ++ (if k > 0 then ", " else "" : String) ++ t)
    have e : (acc ++ (if k > 0 then ", " else "" : String) ++ t).length ≤ acc.length + 2 + t.length := by
      rw [strLen_append, strLen_append]
      have : (Str.ofString (if k > 0 then ", " else "")).length ≤ 2 := by split <;> decide +kernel
      omega
    rw [piled_cons]
    show (textFrom (k + 1) _ r).length ≤ _
    omega
theorem listText_le (ts : List Str) : (listText ts).length ≤ piled ts + 2 := by
  unfold listText
  rw [strLen_append]
  have := textFrom_le ts 0 "["
  have e1 : (("[" : Str)).length = 1 := by decide +kernel
  have e2 : (("]" : Str)).length = 1 := by decide +kernel
  omega
theorem piled_le {m : Nat} : ∀ {ts : List Str}, (∀ t ∈ ts, t.length ≤ m) → piled ts ≤ ts.length * (m + 2)
  | [], _ => by rw [piled_nil]; simp
  | t :: r, h => by
    have ih := piled_le (ts := r) fun x hx => h x (by simp [hx])
    have := h t (by simp)
    rw [piled_cons, List.length_cons, Nat.succ_mul]
    omega
theorem shownAll_map : ∀ xs : List PyData, PyData.shownAll xs = xs.map PyData.shown
  | [] => rfl
  | x :: xs => by rw [PyData.shownAll, shownAll_map xs]; rfl
theorem tupText_le {ws : List (List Nat)} (hl : ws.length ≤ 8) (h : ∀ w ∈ ws, nameC w = true) : (toPy (.tup (ws.map strD))).shown.length ≤ 700 := by
  rw [toPy, toPyL_map, PyData.shown, shownAll_map]
  have h1 := fmt_text (((ws.map strD).map toPy).map PyData.shown)
  have h2 := piled_le (m := 82) (ts := ((ws.map strD).map toPy).map PyData.shown) fun t ht => by
    obtain ⟨p, hp, rfl⟩ := List.mem_map.mp ht
    obtain ⟨d, hd, rfl⟩ := List.mem_map.mp hp
    obtain ⟨w, hw, rfl⟩ := List.mem_map.mp hd
    have := StrLaws.reprText_len (S w) fun c hc => by have := (nameC_iff.mp (h w hw)).2 c hc; omega
    have e := S_len w
    have := (nameC_iff.mp (h w hw)).1
    show (reprText (S w)).length ≤ 82
    omega
  rw [List.length_map, List.length_map, List.length_map] at h2
  have e : ws.length * 84 ≤ 8 * 84 := Nat.mul_le_mul hl (Nat.le_refl _)
  omega
theorem repr_ok {ws : List (List Nat)} (hl : ws.length ≤ 8) (h : ∀ w ∈ ws, nameC w = true) :
    pl (.lst [.tup (ws.map strD), .tup (ws.map strD)]) = true ∧ (toPy (.lst [.tup (ws.map strD), .tup (ws.map strD)])).showable = true ∧ (toPy (.lst [.tup (ws.map strD), .tup (ws.map strD)])).hasDict = false ∧ (toPy (.lst [.tup (ws.map strD), .tup (ws.map strD)])).depth ≤ 64 ∧ (toPy (.lst [.tup (ws.map strD), .tup (ws.map strD)])).shown.length ≤ sizeLine := by
  have hok := names_fd (by omega) h
  have hp : pl (.tup (ws.map strD)) = true := pl_of_ok _ hok.1
  have sA : ∀ us : List (List Nat), PyData.showableAll (toPyL (us.map strD)) = true := fun us => by
    induction us with
    | nil => simp [toPyL, PyData.showableAll]
    | cons u us ih => rw [List.map_cons, toPyL, PyData.showableAll, ih]; simp [toPy, PyData.showable]
  have dA : ∀ us : List (List Nat), PyData.hasDictAll (toPyL (us.map strD)) = false := fun us => by
    induction us with
    | nil => simp [toPyL, PyData.hasDictAll]
    | cons u us ih => rw [List.map_cons, toPyL, PyData.hasDictAll, ih]; simp [toPy, PyData.hasDict]
  refine ⟨?_, ?_, ?_, ?_, line_ok ?_⟩
  · rw [pl, plL, plL, plL, hp]; rfl
  · rw [toPy, toPyL, toPyL, toPyL, toPy, PyData.showable, PyData.showableAll, PyData.showableAll, PyData.showableAll, PyData.showable, sA]; rfl
  · rw [toPy, toPyL, toPyL, toPyL, toPy, PyData.hasDict, PyData.hasDictAll, PyData.hasDictAll, PyData.hasDictAll, PyData.hasDict, dA]; rfl
  · rw [dep_py, dep, depL, depL, depL]
    have := hok.2
    omega
  · have h1 := tupText_le hl h
    rw [toPy, toPyL, toPyL, toPyL, PyData.shown, shownAll_map]
    have h2 := listText_le (([toPy (.tup (ws.map strD)), toPy (.tup (ws.map strD))] : List PyData).map PyData.shown)
    have h3 := piled_le (m := 700) (ts := ([toPy (.tup (ws.map strD)), toPy (.tup (ws.map strD))] : List PyData).map PyData.shown) fun t ht => by
      simp only [List.map_cons, List.map_nil, List.mem_cons, List.not_mem_nil, or_false] at ht
      rcases ht with rfl | rfl <;> exact h1
    simp only [List.map_cons, List.map_nil, List.length_cons, List.length_nil] at h2 h3 ⊢
    omega
/-! an order's text -/
theorem split_tour {ws : List (List Nat)} (hne : ws ≠ []) (h : ∀ w ∈ ws, nameC w = true) : splitC (joinL [32] ws) 32 = ws ∧ joinL [32] ws ≠ [45] := by
  have h1 := split_join1 (c := 32) hne fun w hw => name_free (h w hw) (by omega)
  refine ⟨h1, fun e => ?_⟩
  rw [e] at h1
  have : splitC [45] 32 = [[45]] := by decide
  rw [this] at h1
  have := h [45] (by rw [← h1]; simp)
  exact absurd this (by decide)
/-! the law's promise -/
def spLaw (K : PySem.W.Frag) : Sp := fun vs H Q _ => ∃ (a : Addr) (ns : List Int), vs = [.ref a] ∧ SqL K H a (ns.map V.int) ∧ ns.length ≤ 63 ∧ ∀ H', Q (.bl true) H'
theorem spLaw_body {K : PySem.W.Frag} {N : List Str} (hN : 1 ≤ N.length) {t : TS} {vs : List V} {H : Hp} {Q : VK} {E : XK}
    (b : ∀ (H0 : Hp) (a : Addr) (ns : List Int), SqL K H0 a (ns.map V.int) → ns.length ≤ 63 → wps ⟨K, fun _ => none, H0, [], []⟩ t (startV N.length a) (fun _ => False) (fun _ d => d = .bl true)) (h : spLaw K vs H Q E) :
    t { nx := fun _ H' => Q .non H', rt := Q } (start N vs) H := by
  obtain ⟨a, ns, rfl, hs, hl, q⟩ := h
  refine b H a ns hs hl _ _ _ _ (as_script hN) (fun _ _ _ _ _ _ z => z.elim) fun G' σ' v d F' H' s A r z => ?_
  subst z
  cases r
  exact q H'
end Sd
set_option Elab.async false
set_option linter.all false
set_option maxRecDepth 100000
set_option maxHeartbeats 4000000
/-! E1: the error classes' __init__, walked on the heap: super().__init__("..") and one field. -/
namespace Sd
open PySem PySem.Spec L2
open PyProof.Rows

/-- what an error's __init__ is promised to do -/
def spInit (C : Addr) (fld : Str) : Sp := fun vs H Q _ => ∃ a y, vs = [.ref a, y] ∧ H a = some (exo a C none) ∧ ∀ dx, H dx = none → dx ≠ a → Q .non (upd (upd H dx (exd dx [(fld, y)])) a (exo a C (some dx)))
/-- its body -/
abbrev initBody (msg fld x : Str) (j : Nat) (p0 p1 p2 p3 p4 p5 p6 p7 p8 p9 : Pos) : List Stmt :=
  [.Expr (.Call (.Attribute (.Call (.Name "super" p0) [] [] p1) "__init__" p2) [.Constant (.str msg) j p3] [] p4) p5, .Assign [.Attribute (.Name "self" p6) fld p7] (.Name x p8) p9]

section
variable {P : Program} {w : World} {K : PySem.W.Frag} {mg : Str → Option Value} {base : Heap} {C f cc cda : Addr} {qual x fld msg file : Str} {params : Arguments} {scope : Scope} {kV doc pm ct oc ccl cl : Value} {an od cdd cld : Option Addr} {osl ccs csl : Array (Option Value)} {vs : Array Value} {tf : Tok} {j : Nat} {p0 p1 p2 p3 p4 p5 p6 p7 p8 p9 : Pos} {ar : Arg}
theorem init_ok (lk : K.lookup f = some ⟨oc, od, .func (PySem.W.fnX "__init__" qual params (initBody msg fld x j p0 p1 p2 p3 p4 p5 p6 p7 p8 p9) scope [("__class__", cc)] .none kV doc pm an (.ref cda) ct), osl⟩)
    (hcd : PySem.W.codeIn K (.ref cda) qual = true) (hcode : K.lookup cda = some ⟨ccl, cdd, .fields vs, ccs⟩) (hvs : vs[2]? = some (.str file tf)) (hfile : ((P.main.file : Str) == file) = true)
    (hcell : K.lookup cc = some ⟨cl, cld, .cell (some (.ref C)), csl⟩) (T : OexC K C) (hno : PySem.W.findIn K (.ref C) fld = some none) (hsup : mg "super" = none) (hop : PySem.W.nsIn K cStatics "thirdparty.any" = some none)
    (hm : PySem.W.ks_superIn K C C "__init__" = some (some (.builtin "ValueError.__init__"))) (hB : PySem.W.subIn K (.ref C) (.type "ValueError") = some true) (hsub : PySem.W.mroIn K C (.ref C) = some true)
    (hp : (params.posonlyargs ++ params.args).head? = some ar) (har : ar.arg = "self")
    (hks : scope.names.lookup ("super" : Str) = some .globalImplicit) (hkc : scope.names.lookup ("__class__" : Str) = some .free) (hs1 : scope.names.lookup ("self" : Str) = some .local) (hs2 : scope.names.lookup x = some .local)
    (hnc : ∀ y ∈ scope.names, y.2 ≠ .cell) (hk : scope.kind = .function) (hco : scope.isCoroutine = false) (hgen : scope.isGenerator = false) (hxs : x ≠ "self") (hxd : (x == ("__debug__" : Str)) = false)
    (hev : ∀ L : Addr, ∃ pl : Sem Bool, eval (.Call (.Attribute (.Call (.Name "super" p0) [] [] p1) "__init__" p2) [.Constant (.str msg) j p3] [] p4) (callEnv (PySem.W.fnX "__init__" qual params (initBody msg fld x j p0 p1 p2 p3 p4 p5 p6 p7 p8 p9) scope [("__class__", cc)] .none kV doc pm an (.ref cda) ct) L f) = (do
      let ov ← attributeBase (.Call (.Name "super" p0) [] [] p1) "__init__" (callEnv (PySem.W.fnX "__init__" qual params (initBody msg fld x j p0 p1 p2 p3 p4 p5 p6 p7 p8 p9) scope [("__class__", cc)] .none kV doc pm an (.ref cda) ct) L f) (eval (.Call (.Name "super" p0) [] [] p1) (callEnv (PySem.W.fnX "__init__" qual params (initBody msg fld x j p0 p1 p2 p3 p4 p5 p6 p7 p8 p9) scope [("__class__", cc)] .none kV doc pm an (.ref cda) ct) L f))
      standAt p2.atName
      let (g, first) ← holding [ov] (getMethod ov "__init__" pl)
      callWith p4 g first (backTo p4 (starEach [.Constant (.str msg) j p3] (callEnv (PySem.W.fnX "__init__" qual params (initBody msg fld x j p0 p1 p2 p3 p4 p5 p6 p7 p8 p9) scope [("__class__", cc)] .none kV doc pm an (.ref cda) ct) L f))) []))
    (htop : (P.main.scope.names.lookup ("super" : Str)).isSome = false) (hsw : ∀ (env : Env) (n : Nat), swapsWith (.Name x p8) (some (.Attribute (.Name "self" p6) fld p7)) n env = pure false) :
    FnOk P w K mg base CX0 1 f (PySem.W.fnX "__init__" qual params (initBody msg fld x j p0 p1 p2 p3 p4 p5 p6 p7 p8 p9) scope [("__class__", cc)] .none kV doc pm an (.ref cda) ct) ["self", x] (spInit C fld) := by
  refine ⟨fun vs H Q E h => by obtain ⟨_, _, rfl, _⟩ := h; rfl, fun A outer s H args us vs' Q E hr e0 hb r hsp => ?_⟩
  obtain ⟨a, y, rfl, hHa, hQ⟩ := hsp
  cases r with
  | @cons _ u0 _ us' r0 r1 =>
  cases r1 with
  | @cons _ u1 _ us'' r1 r2 =>
  cases r2
  obtain rfl : u0 = Value.ref a := r0
  have KX : K.In s.heap := e0.mod.kin.keeps fun b o e => (e0.bs b o e).1
  have lim : s.heap.NoLimit := e0.mod.nolimit.keeps fun b o e => (e0.bs b o e).1
  obtain ⟨nm, q, N, bs, bm, sn, sub, ab, col, dd, k0, k1, k2, k3, k5, hC, hbm⟩ := T.cls
  have hcl : PySem.W.clsIn K C = some { name := nm, bases := bs, mro := .ref C :: bm, ns := N, qualname := q, hasDict := true, slotNames := sn, subclasses := sub, abstract := ab, collection := col, hasDel := false } := by unfold PySem.W.clsIn; rw [hC] <;> rfl
  obtain ⟨t1, hoa⟩ := exo_at e0.hok hHa
  refine ks_codeAny_call_defAt (binds := [("self", .ref a), (x, u1)]) hr.depth (KX _ _ lk) rfl lim (PySem.W.codeRec_of KX hcd) rfl hb hnc (fun z hz => ?_) (fun h₀ hns k0 => ?_) hco hgen hk
  · rcases List.mem_cons.mp hz with rfl | hz
    · exact hs1
    · rcases List.mem_cons.mp hz with rfl | hz
      · exact hs2
      · cases hz
  have XK : K.In h₀ := KX.keeps k0
  have kb : ∀ b o, base.get? b = some o → h₀.get? b = some o := fun b o e => k0 b o (e0.bs b o e).1
  have ha0 := k0 _ _ hoa
  obtain ⟨mb, hmb1, hmb2⟩ := e0.mod.blt
  have cK : PySem.W.Looks (model P w) h₀ (mroOf (.ref C)) (.ref C :: bm) := fun A Q E s k q => wpAny_bind ((PySem.W.looks_clsIn XK hcl) A _ E s k (wpAny_pure q))
  have hD := XK _ _ hC
  have iA : PySem.W.InstAt h₀ a { cls := .ref C, dict := none, data := .fields #[.ref t1, .none, .none, .none, .bool false, .none] } C none := ⟨ha0, rfl, rfl, trivial⟩
  have hI : PySem.W.Looks (model P w) h₀ (isInstance (.ref a) (.type "ValueError")) true := iA.type.andThen (PySem.W.looks_subIn XK hB)
  have haC : a ≠ C := PySem.W.ks_ne XK iA hcl
  have hxs' : ((Str.ofString "self" : Str) == x) = false := beq_false_of_ne (Ne.symm hxs)
  obtain ⟨pl, hpl⟩ := hev s.heap.objs.size
  have hi : interactive (callEnv (PySem.W.fnX "__init__" qual params (initBody msg fld x j p0 p1 p2 p3 p4 p5 p6 p7 p8 p9) scope [("__class__", cc)] .none kV doc pm an (.ref cda) ct) s.heap.objs.size f) = false := by
    show (scope.kind == .module && _) = false
    rw [hk]; rfl
  refine ks_wpAt_execs_cons (ks_wpAt_Expr_any (ks_wpAt_MethodCall (pl := pl) (ks_wpAt_super_base hks hkc (by decide) rfl (k0 _ _ (KX _ _ lk)) rfl hp rfl (XK _ _ hcode) rfl hvs hfile htop ?_) hpl) hi)
  refine PySem.W.ks_loadName_global hk hks (PySem.Calls.loadGlobal_builtin (e0.mod.glob.keeps kb) hsup (hmb1.keeps kb) ((hmb2 _ (by decide +kernel)).trans (by decide +kernel : bootBuiltins "super" = some (.type "super"))) ⟨rfl, ?_⟩)
  refine wpAny_loadName_free hk hkc rfl ⟨_, XK _ _ hcell, rfl⟩ ?_
  rw [har]
  refine wpAny_loadName_local (v := .ref a) hk hs1 hns (by show List.lookup _ [(x, u1), (Str.ofString "self", Value.ref a)] = _; rw [List.lookup, hxs']; rfl) ?_
  refine ks_wpAny_isType_cls hD rfl ⟨rfl, ?_⟩
  refine ks_wpAny_call_super hD rfl ha0 rfl (fun c e => nomatch e) (PySem.W.looks_mroIn XK hsub) (fun h1 hso k1 => ?_)
  have X1 := XK.keeps k1
  refine PySem.W.kxs_getMethod PySem.W.kxs_ValueError hso (PySem.W.looks_opaque X1 hop) (l₀ := .ref C :: bm) (cK.keeps k1) rfl X1 (by
    unfold PySem.W.ks_superIn at hm
    rw [hcl] at hm
    exact hm) (hI.keeps k1) haC (by decide) ?_
  refine PySem.W.kxs_callWith (i := "ValueError.__init__") (x := a) rfl (PySem.Calls.evalArgs_plain (PySem.Calls.spliced_cons (PySem.Calls.Constant_str (k := j) (pos := p3) (PySem.Calls.spliced_nil ⟨Heap.get?_push_at rfl rfl, ?_⟩))))
  have k2 : ∀ b o, h1.get? b = some o → (h1.push (PySem.W.kxs_mw "ValueError.__init__" a)).get? b = some o := fun b o e => Heap.get?_push_of_some _ e
  have ha2 := k2 _ _ (k1 _ _ ha0)
  have hC2 := k2 _ _ (k1 _ _ hD)
  have hu2 : (h1.push (PySem.W.kxs_mw "ValueError.__init__" a)).get? h1.objs.size = some (PySem.W.kxs_mw "ValueError.__init__" a) := Heap.get?_push_at rfl rfl
  refine wpAny_call (codeAny_of_tree ?_)
  show wpAny _ _ (callAny (.ref h1.objs.size) ⟨[.str msg _], []⟩) _ _ _
  simp only [callAny]
  refine wpAny_bind (wpAny_load hu2 ?_)
  simp only [PySem.W.kxs_mw, show (Value.type "method-wrapper" == Value.type "method" || Value.type "method-wrapper" == Value.type "builtin_function_or_method" || Value.type "method-wrapper" == Value.type "method-wrapper") = true by decide, if_true]
  refine PySem.W.KFB.if_so (by decide) ?_
  refine wpAny_bind (PySem.W.check_bound_init PySem.F.excBase_ValueError.toExcCallFacts hC2 ha2 rfl ?_)
  refine wpAny_bind (wpAny_pure (wpAny_pure ?_))
  refine ⟨plainId_quiet PySem.F.excBase_ValueError.init.plain _, codeAny_builtin PySem.F.excBase_ValueError.initEntry ?_⟩
  refine PySem.W.exc_init_tree (cls := .ref C) (t0 := t1) (dv := none) (c2 := .none) (c3 := .none) (b4 := .bool false) ha2 (by show 1 ≤ sizeLine; rw [sizeLine_eq]; omega) fun h2 k3 ha3 _ => ?_
  have kk : ∀ b o, b ≠ a → h₀.get? b = some o → h2.get? b = some o := fun b o hb e => k3 b o hb (k2 _ _ (k1 _ _ e))
  obtain ⟨oL, es, ep, hoL, hnr⟩ := hns
  have hLa : s.heap.objs.size ≠ a := fun z => by
    have q : a < s.heap.objs.size := Heap.lt_size hoa
    exact absurd (z ▸ q) (Nat.lt_irrefl _)
  have hns2 : h2.Ns s.heap.objs.size fun z => List.lookup z [(Str.ofString "self", Value.ref a), (x, u1)].reverse := ⟨oL, es, ep, kk _ _ hLa hoL, hnr⟩
  have X2 : K.In h2 := fun b o e => kk b o (fun z => by
    subst z
    have e1 := e0.mod.kin _ _ e
    have e2 := (e0.bs _ _ e1).2
    rw [hHa] at e2; cases e2) (XK b o e)
  refine ks_wpAt_execs_cons (ks_wpAt_Assign_Attr ?_ (hsw _ _))
  refine wpAt_of_wpAny (wpAny_Name (wpAny_loadName_local (v := u1) hk hs2 hns2 ?_ ?_) hxd)
  · show List.lookup _ [(x, u1), (Str.ofString "self", Value.ref a)] = _
    rw [List.lookup, beq_self_eq_true]
  refine wpAny_Name (wpAny_loadName_local (v := .ref a) hk hs1 hns2 ?_ ?_)
  · show List.lookup _ [(x, u1), (Str.ofString "self", Value.ref a)] = _
    rw [List.lookup, hxs']; rfl
  refine PySem.W.set_plain X2 (od := none) ⟨ha3, rfl, rfl, trivial⟩ T.sa ?_
  refine PySem.HandSPX.exc_osa X2 ha3 hcl (show PySem.HandSPX.refsVE (.ref C :: bm) = true from hbm) rfl hno (fun h3 tk3 dx k4 dn dne hx hn => ?_)
  refine wpAt_of_wpAny (wpAny_execs_nil ?_)
  have kf : ∀ b o, b ≠ a → s.heap.get? b = some o → h3.get? b = some o := fun b o hb e => k4 b o hb (kk b o hb (k0 b o e))
  have ndx : ∀ {b : Addr} {o : Obj}, s.heap.get? b = some o → b ≠ dx := fun {b o} q z => by
    subst z
    exact absurd (Heap.lt_size (kk b o dne (k0 b o q))) (Nat.not_lt.mpr dn)
  have hnd : H dx = none := e0.hok.gone (by
    cases e : s.heap.get? dx with
    | none => rfl
    | some o => exact absurd rfl (ndx e))
  have na : ∀ {b : Addr}, H b = none → b ≠ a := fun {b} n z => by
    rw [z, hHa] at n
    cases n
  refine ⟨.non, _, rfl, e0.bare, ?_, ?_, rfl, hQ dx hnd dne⟩
  · exact {
      keep := fun b o q n _ _ => kf b o (na n) q
      slot := fun b o q n _ _ => ⟨o.slots, kf b o (na n) q⟩
      free := fun b o q n _ => by rw [upd_ne (na n), upd_ne (ndx q)]; exact n
      there := fun b o q _ => by
        by_cases hb : b = a
        · exact ⟨_, by rw [hb]; exact hx⟩
        · exact ⟨o, kf b o hb q⟩
      tups := fun b xs q => by rw [upd_ne (at_ne hHa q exo_tup), upd_ne (ne_of_none q hnd)]; exact q
      frzs := fun b o v q => by rw [upd_ne (at_ne hHa q exo_frz), upd_ne (ne_of_none q hnd)]; exact q
      tbls := fun b ps q => ⟨#[], by rw [upd_ne (at_ne hHa q exo_tbl), upd_ne (ne_of_none q hnd), q]; simp⟩ }
  · intro b o q
    by_cases hb : b = a
    · subst hb
      rw [upd_same] at q
      cases q
      exact exo_ok hx
    · rw [upd_ne hb] at q
      by_cases hd : b = dx
      · subst hd
        rw [upd_same] at q
        cases q
        exact exd_ok hn (relO_put (fs := []) r1 fun g => True.intro)
      · rw [upd_ne hd] at q
        exact (e0.hok b o q).stay (fun c v hc z => kf c v (by
            rcases hc with hc | hc
            · rw [hc]
              exact hb
            · exact at_ne hHa hc exo_own) z)
          (fun c hc => by rw [upd_ne (at_ne hHa hc exo_own), upd_ne (ne_of_none hc hnd)]; exact hc) (fun c xs hc => by rw [upd_ne (at_ne hHa hc exo_tup), upd_ne (ne_of_none hc hnd)]; exact hc)
end
end Sd
set_option Elab.async false
set_option linter.all false
set_option maxRecDepth 100000
set_option maxHeartbeats 4000000
/-! E2: promises of defs that may raise: the error's class, field and datum; calls, methods, makings, raise. -/
namespace Sd
open PySem PySem.Spec L2
open PyProof.Rows

/-- an error: its class and what its one field holds | of a class without fields | of a built-in class -/
inductive Xd where
  | e1 (C : Addr) (f : Str) (d : D) | e0 (C : Addr) | bi (T : String)
def XRep (K : PySem.W.Frag) (F H : Hp) (cls : Value) (dx : Option Addr) : Xd → Prop
  | .e1 C f d => cls = .ref C ∧ ∃ a v, dx = some a ∧ H a = some (.xd [(f, v)]) ∧ Rp K F v d
  | .e0 C => cls = .ref C ∧ dx = none
  | .bi T => cls = .type T
theorem XRep.mono {K : PySem.W.Frag} {F F' H : Hp} {cls : Value} {dx : Option Addr} {x : Xd} (s : Same F F') (h : XRep K F H cls dx x) : XRep K F' H cls dx x := by
  cases x with
  | e1 C f d =>
    obtain ⟨e, a, v, e1, e2, r⟩ := h
    exact ⟨e, a, v, e1, e2, r.mono s⟩
  | e0 C => exact h
  | bi T => exact h
/-- what is wished of an error -/
def XT (w : Wd) (W : WX) (Xp : List Ent → Xd → Prop) : Prop := ∀ G σ F H cls dx x, As w G σ F H → XRep w.K F H cls dx x → Xp G x → W cls dx σ H
theorem XT.imp {w : Wd} {W : WX} {Xp Xp' : List Ent → Xd → Prop} (h : XT w W Xp) (i : ∀ G x, Xp' G x → Xp G x) : XT w W Xp' := fun G σ F H cls dx x A r p => h G σ F H cls dx x A r (i G x p)
theorem XT.push {w : Wd} {W : WX} {Xp : List Ent → Xd → Prop} {a : Addr} {o : HO} (h : XT w W Xp) : XT (w.push a o) W Xp := fun G σ F H cls dx x A r p => h G σ F H cls dx x A.drop r p
def spX (K : PySem.W.Frag) (pre : List D → Prop) (post : List D → D → Prop) (xp : List D → Xd → Prop) : Sp := fun vs H Q E => ∃ F ds, Same F H ∧ RpL K F vs ds ∧ pre ds ∧ (∀ v d H', Same H H' → Rp K (ext F H H') v d → post ds d → Q v H') ∧
  ∀ cls dx x H', Same H H' → XRep K (ext F H H') H' cls dx x → xp ds x → E cls dx H'
def spOX {S : Type} (K : PySem.W.Frag) (own : Addr → S → OwnP) (pre : S → List D → Prop) (post : S → List D → D → S → Prop) (xp : S → List D → Xd → S → Prop) : Sp := fun vs H Q E => ∃ a ws F ds s qs, vs = .ref a :: ws ∧ Same F H ∧ (∀ a, a ∈ qs → F a = none ∧ H a ≠ none) ∧ (own a s).ok F H (.ref a) qs ∧ RpL K F ws ds ∧ pre s ds ∧
  (∀ r d s' H' qs', (∀ b u, b ∉ qs → H b = some u → H' b = some u) → (∀ b, b ∈ qs → H' b ≠ none) → (∀ a, a ∈ qs' → (a ∈ qs ∨ H a = none) ∧ H' a ≠ none) → (own a s').ok (extBut F H H' qs') H' (.ref a) qs' → Rp K (extBut F H H' qs') r d → post s ds d s' → Q r H') ∧
  ∀ cls dx x s' H' qs', (∀ b u, b ∉ qs → H b = some u → H' b = some u) → (∀ b, b ∈ qs → H' b ≠ none) → (∀ a, a ∈ qs' → (a ∈ qs ∨ H a = none) ∧ H' a ≠ none) → (own a s').ok (extBut F H H' qs') H' (.ref a) qs' → XRep K (extBut F H H' qs') H' cls dx x → xp s ds x s' → E cls dx H'

section
variable {w : Wd} {G : List Ent} {Q : D → Prop} {te : TE} {tas : TA} {E : L2.St → XK} {pre : List D → Prop} {post : List D → D → Prop} {xp : List D → Xd → Prop} {Xp : List Ent → Xd → Prop}
theorem wp_callX {sp : Sp} {dvs : List V} (hs : sp = spX w.K pre post xp) (hv : dvs = []) (hX : XT w (fun cls d σ H => E σ cls d H) Xp) (h : wpa w tas G fun ds => pre ds ∧ (∀ d, post ds d → Q d) ∧ ∀ x, xp ds x → Xp G x) : wp w (tCallSD sp dvs E tas) G Q := fun σ F H A k z => by
  subst hs hv
  refine h σ F H A _ fun vs ds F1 H1 s1 A1 r1 q => ⟨F1, ds, A1.fh, by rw [List.append_nil]; exact r1, q.1, fun v d H' s r p => z v d _ H' (s1.trans A1.same) (A1.step s) r (q.2.1 d p), fun cls dx x H' s r p => ?_⟩
  exact hX G σ _ H' cls dx x (A1.step s) r (q.2.2 x p)
theorem wp_callX' {E : XK} (hX : XT w (fun cls d _ H => E cls d H) Xp) (h : wpa w tas G fun ds => pre ds ∧ (∀ d, post ds d → Q d) ∧ ∀ x, xp ds x → Xp G x) : wp w (tCall (spX w.K pre post xp) [] E tas) G Q := wp_callX (E := fun _ => E) rfl rfl hX h
theorem wp_methX {C : Addr} {m : Str} {E : XK} (hX : XT w (fun cls d _ H => E cls d H) Xp) (h : wp w te G fun x => ∃ ns xs, x = .obj C ns xs ∧ m ∉ ns ∧ wpa w tas G fun ds => pre (x :: ds) ∧ (∀ d, post (x :: ds) d → Q d) ∧ ∀ e, xp (x :: ds) e → Xp G e) : wp w (tMeth C m (spX w.K pre post xp) [] E te tas) G Q := fun σ F H A k z =>
  h σ F H A _ fun v d F1 H1 s1 A1 r1 ⟨ns, xs, e, hm, q⟩ => by
    subst e
    cases r1 with
    | @obj a _ dx _ vs _ e1 e2 e3 =>
    refine ⟨a, dx, ns.zip vs, rfl, A1.fh _ _ e1, look_none hm, q σ F1 H1 A1 _ fun us ds F2 H2 s2 A2 r2 q2 => ⟨F2, _ :: ds, A2.fh, .cons (.obj (s2 _ _ e1) e2 (e3.mono s2)) (by rw [List.append_nil]; exact r2), q2.1, fun v d H' s r p => z v d _ H' (s1.trans (s2.trans A2.same)) (A2.step s) r (q2.2.1 d p), fun cls dx x H' s r p => ?_⟩⟩
    exact hX G σ _ H' cls dx x (A2.step s) r (q2.2.2 x p)
/-- a method of an own object that may raise -/
theorem wpx_methOX {S : Type} {own : Addr → S → OwnP} {C a : Addr} {m : Str} {s : S} {i : Nat} {E : XK} {Q : List Ent → D → Prop} {pre : S → List D → Prop} {post : S → List D → D → S → Prop} {xp : S → List D → Xd → S → Prop} (I : InsO own C m) (e : G[i]? = some (.o (own a s))) (hX : XT w (fun cls d _ H => E cls d H) Xp)
    (h : wpa w tas G fun ds => pre s ds ∧ (∀ d s', post s ds d s' → Q (G.set i (.o (own a s'))) d) ∧ ∀ x s', xp s ds x s' → Xp (G.set i (.o (own a s'))) x) : wpx w (tMeth C m (spOX w.K own pre post xp) [] E (tVar i) tas) G Q := fun σ F H A k z => by
  obtain ⟨v, qs, h1, hok, h5, _⟩ := A.own1 e
  obtain ⟨rfl, dx, fs, h2, h3⟩ := I _ _ _ _ _ _ hok
  refine ⟨.ref a, h1, a, dx, fs, rfl, h2, h3, h σ F H A _ fun vs ds F1 H1 s1 A1 r1 q => ?_⟩
  obtain ⟨v', qs', g1, gok, g5, up⟩ := A1.own1 e
  rw [h1] at g1
  cases g1
  rw [List.append_nil]
  refine ⟨a, vs, F1, ds, s, qs', rfl, A1.fh, fun b hb => g5 b hb, gok, r1, q.1, fun r d s' H' qs2 k1 k2 k3 ok' rr ps => ?_, fun cls dx x s' H' qs2 k1 k2 k3 ok' rr ps => ?_⟩
  · obtain ⟨A2, s2⟩ := up (own a s') H' qs2 k1 k2 k3 ok'
    exact z _ r d _ H' (s1.trans s2) A2 rr (q.2.1 d s' ps)
  · obtain ⟨A2, s2⟩ := up (own a s') H' qs2 k1 k2 k3 ok'
    exact hX _ σ _ H' cls dx x A2 rr (q.2.2 x s' ps)
theorem wp_makeX {C : Addr} {E : XK} {pre : List Str × List D → List D → Prop} {post : List Str × List D → List D → D → List Str × List D → Prop} {xp : List Str × List D → List D → Xd → List Str × List D → Prop} (hX : XT w (fun cls d _ H => E cls d H) Xp)
    (h : wpa w tas G fun ds => pre ([], []) ds ∧ (∀ d s', post ([], []) ds d s' → d = .non ∧ Q (.obj C s'.1 s'.2)) ∧ ∀ x s', xp ([], []) ds x s' → Xp G x) :
    wp w (tMake C (spOX w.K (obP w.K C) pre post xp) [] E tas) G Q := fun σ F H A k z =>
  h σ F H A _ fun vs ds F1 H1 s1 A1 r1 q x dx hx hd hne => by
    have nx : upd H1 dx (.own x) x = none := by rw [upd_ne (Ne.symm hne)]; exact hx
    have fx : F1 x = none := A1.fh.free hx
    have fd : F1 dx = none := A1.fh.free hd
    have s2 : Same H1 (upd (upd H1 dx (.own x)) x (.ins C dx [])) := (same_new hd).trans (same_new nx)
    refine ⟨x, vs, F1, ds, ([], []), [x], by rw [List.append_nil], A1.fh.trans s2, fun a ha => ?_, ⟨rfl, dx, [], rfl, upd_same, rfl, .nil⟩, r1, q.1, fun r d s' H' qs' k1 k2 k3 ok rr ps => ?_, fun cls ex y s' H' qs' k1 k2 k3 ok rr ps => ?_⟩
    · obtain rfl : a = x := by simpa using ha
      exact ⟨fx, by rw [upd_same]; exact fun z => nomatch z⟩
    · obtain ⟨rfl, hq⟩ := q.2.1 d s' ps
      cases rr
      obtain ⟨_, dx', us, rfl, e1, e2, e3⟩ := ok
      have s3 : Same H1 H' := fun b o e => k1 b o (fun z => by
        obtain rfl : b = x := by simpa using z
        rw [hx] at e; cases e) (s2 b o e)
      have sE : Same (extBut F1 (upd (upd H1 dx (.own x)) x (.ins C dx [])) H' [x]) (ext F1 H1 H') := fun b o e => by
        unfold extBut at e
        split at e
        · cases e
        · cases z : H1 b with
          | none =>
            rw [ext_none z]
            cases y : (upd (upd H1 dx (.own x)) x (.ins C dx [])) b with
            | none => rwa [ext_none y] at e
            | some u =>
              rw [ext_some y] at e
              rw [A1.fh b o e] at z; cases z
          | some u =>
            rw [ext_some (s2 b u z)] at e
            rw [ext_some z]; exact e
      refine ⟨rfl, z _ _ _ H' (s1.trans A1.same) (A1.step s3) (.obj (dx := dx') (vs := us) ?_ e2 (e3.mono sE)) hq⟩
      rw [ext_none hx]
      exact e1
    · have xq : ∀ b, b ∈ qs' → H1 b = none := fun b hb => by
        rcases (k3 b hb).1 with e | e
        · obtain rfl : b = x := by simpa using e
          exact hx
        · cases y : H1 b with
          | none => rfl
          | some u => rw [s2 b u y] at e; cases e
      have s3 : Same H1 H' := fun b o e => k1 b o (fun z => by
        obtain rfl : b = x := by simpa using z
        rw [hx] at e; cases e) (s2 b o e)
      have sE : Same (extBut F1 (upd (upd H1 dx (.own x)) x (.ins C dx [])) H' qs') (ext F1 H1 H') := fun b o e => by
        unfold extBut at e
        split at e
        · cases e
        · cases z : H1 b with
          | none =>
            rw [ext_none z]
            cases y : (upd (upd H1 dx (.own x)) x (.ins C dx [])) b with
            | none => rwa [ext_none y] at e
            | some u =>
              rw [ext_some y] at e
              rw [A1.fh b o e] at z; cases z
          | some u =>
            rw [ext_some (s2 b u z)] at e
            rw [ext_some z]; exact e
      exact hX G σ _ H' cls ex y (A1.step s3) (rr.mono sE) (q.2.2 y s' ps)
end
theorem spX_body {pre : List D → Prop} {post : List D → D → Prop} {xp : List D → Xd → Prop} {K : PySem.W.Frag} {N : List Str} {t : TS} {vs : List V} {H : Hp} {Q : VK} {E : XK}
    (b : ∀ (F0 H0 : Hp) (ds : List D), pre ds → XT ⟨K, F0, H0, [], []⟩ (fun cls d _ H => E cls d H) (fun _ x => xp ds x) → wps ⟨K, F0, H0, [], []⟩ t (startG N.length (ds.map .d)) (fun _ => post ds .non) (fun _ d => post ds d)) (h : spX K pre post xp vs H Q E) : t { nx := fun _ H' => Q .non H', rt := Q } (start N vs) H := by
  obtain ⟨F, ds, fh, r, p, q, qx⟩ := h
  have fin : ∀ {G' σ' F' H'}, As ⟨K, F, H, [], []⟩ G' σ' F' H' → Same H H' ∧ Same F' (ext F H H') := fun {G' σ' F' H'} A => by
    refine ⟨fun b o e => A.base.keep b o (by simp) e, fun b o e => ?_⟩
    have e' := A.base.fh b o e
    rcases A.base.src b o e with z | z
    · rw [ext_some (fh b o z)]; exact z
    · rw [ext_none z]; exact e'
  refine b F H ds p (fun G' σ' F' H' cls dx x A rx px => ?_) _ F H _ (as_data fh r) (fun G' σ' F' H' s A z => ?_) fun G' σ' v d F' H' s A rv z => ?_
  · exact qx _ _ _ _ (fin A).1 (rx.mono (fin A).2) px
  · exact q _ _ _ (fin A).1 .non z
  · exact q _ _ _ (fin A).1 (rv.mono (fin A).2) z
theorem spOX_body {S : Type} {own : Addr → S → OwnP} (at_ : AtRef own) {pre : S → List D → Prop} {post : S → List D → D → S → Prop} {xp : S → List D → Xd → S → Prop} {K : PySem.W.Frag} {N : List Str} {t : TS} {vs : List V} {H : Hp} {Q : VK} {E : XK}
    (b : ∀ (F0 H0 : Hp) (O : List Addr) (a : Addr) (s : S) (ds : List D), pre s ds → XT ⟨K, F0, H0, O, []⟩ (fun cls d _ H => E cls d H) (fun G x => ∃ s', G[0]? = some (.o (own a s')) ∧ xp s ds x s') →
      wps ⟨K, F0, H0, O, []⟩ t (startG N.length (.o (own a s) :: ds.map .d)) (fun G => ∃ s', G[0]? = some (.o (own a s')) ∧ post s ds .non s') (fun G d => ∃ s', G[0]? = some (.o (own a s')) ∧ post s ds d s'))
    (h : spOX K own pre post xp vs H Q E) : t { nx := fun _ H' => Q .non H', rt := Q } (start N vs) H := by
  obtain ⟨a, ws, F, ds, s, qs, rfl, fh, fq, ok, r, pr, q, qx⟩ := h
  have A0 : As ⟨K, F, H, qs, []⟩ (startG N.length (.o (own a s) :: ds.map .d)) (start N (.ref a :: ws)) F H := by
    refine ⟨?_, ⟨Same.refl _, fh, fun a o h => .inl h, fun a o _ h => h, fq, fun a o h => (nomatch h)⟩, fun i => if i = 0 then qs else [], fun i e h => ?_, fun i b _ h => ?_, fun i j b _ _ h1 h2 => ?_, fun i a _ _ o h => (nomatch h)⟩
    · unfold startG L2.start
      simp [r.length]
    · rcases startG_at h with h | h
      · cases i with
        | zero =>
          cases h
          exact ⟨.ref a, start_at rfl, ok⟩
        | succ i =>
          rw [List.getElem?_cons_succ, List.getElem?_map] at h
          cases e2 : ds[i]? with
          | none => rw [e2] at h; cases h
          | some d =>
            rw [e2] at h
            cases h
            obtain ⟨v, hv, rv⟩ := r.getD e2
            exact ⟨rfl, v, start_at hv, rv⟩
      · subst h
        cases i with
        | zero =>
          unfold startG at h
          cases h
        | succ i => rfl
    · dsimp only at h
      split at h
      · exact ⟨(fq b h).1, (fq b h).2, .inl h⟩
      · cases h
    · dsimp only at h1 h2
      split at h1
      · split at h2
        · omega
        · cases h2
      · cases h1
  have fin : ∀ {G' σ' F' H' s'}, As ⟨K, F, H, qs, []⟩ G' σ' F' H' → G'[0]? = some (.o (own a s')) → ∃ qs', (∀ b u, b ∉ qs → H b = some u → H' b = some u) ∧ (∀ b, b ∈ qs → H' b ≠ none) ∧ (∀ a, a ∈ qs' → (a ∈ qs ∨ H a = none) ∧ H' a ≠ none) ∧ (own a s').ok (extBut F H H' qs') H' (.ref a) qs' ∧ Same F' (extBut F H H' qs') := fun {G' σ' F' H' s'} A e0 => by
    obtain ⟨q', O⟩ := A.get
    have hi := (List.getElem?_eq_some_iff.mp e0).1
    obtain ⟨v, _, hok⟩ := O.ok 0 _ e0
    obtain rfl := at_ _ _ _ _ _ _ hok
    have sm : Same F' (extBut F H H' (q' 0)) := fun b o e => by
      have e' := A.base.fh b o e
      unfold extBut
      rw [if_neg (fun z => by rw [(O.at_ 0 b hi z).1] at e; cases e)]
      rcases A.base.src b o e with z | z
      · rw [ext_some (fh b o z)]; exact z
      · rw [ext_none z]; exact e'
    exact ⟨q' 0, fun b u hb e => A.base.keep b u hb e, fun b hb => (A.base.own b hb).2, fun b hb => ⟨(O.at_ 0 b hi hb).2.2, (O.at_ 0 b hi hb).2.1⟩, (own a s').step sm (fun _ _ _ e => e) hok, sm⟩
  refine b F H qs a s ds pr (fun G' σ' F' H' cls dx x A rx px => ?_) _ F H _ A0 (fun G' σ' F' H' s A z => ?_) fun G' σ' v d F' H' s A rv z => ?_
  · obtain ⟨s', e0, px⟩ := px
    obtain ⟨qs', k1, k2, k3, k4, sm⟩ := fin A e0
    exact qx _ _ _ s' _ qs' k1 k2 k3 k4 (rx.mono sm) px
  · obtain ⟨s', e0, ps⟩ := z
    obtain ⟨qs', k1, k2, k3, k4, _⟩ := fin A e0
    exact q _ _ s' _ qs' k1 k2 k3 k4 .non ps
  · obtain ⟨s', e0, ps⟩ := z
    obtain ⟨qs', k1, k2, k3, k4, sm⟩ := fin A e0
    exact q _ _ s' _ qs' k1 k2 k3 k4 (rv.mono sm) ps
section
variable {P : Program} {wd : World} {K : PySem.W.Frag} {mg : Str → Option Value} {base : Heap}
/-- a def by its body, with what it may raise -/
theorem fun_okN {x qual : Str} {st : Stmt} {f : Addr} {fd : FuncData} {N ps : List Str} {k : Nat} {sp : Sp} (F : Fun K x qual st f fd) (S : FnScope N ps (defScope st)) (len : ∀ vs H Q E, sp vs H Q E → vs.length = ps.length)
    (hbody : ∀ (cdv : Value) (A : Around) (outer : List Env) (s : Shared) (H : Hp) (vs : List V) (Q : VK) (E : XK), Room k (A.deeper (envOfC qual (defScope st) s.heap.objs.size f cdv)) → sp vs H Q E →
      ∃ t, PSs (cxOf (L2N.CX P wd) P wd K mg base N qual (defScope st) f cdv A outer s H E) (defBody st) t ∧ t { nx := fun _ H' => Q .non H', rt := Q } (start N vs) H) : FnOk P wd K mg base (L2N.CX P wd) (k + 1) f fd ps sp := by
  obtain ⟨oc, od, kV, doc, pm, an, cdv, ct, osl, rfl, lk, hcd⟩ := F.ex
  exact fn_of lk hcd S len fun A outer s H vs Q E hr => hbody cdv A outer s H vs Q E hr
theorem fn_X {pre : List D → Prop} {post : List D → D → Prop} {xp : List D → Xd → Prop} {x qual : Str} {st : Stmt} {f : Addr} {fd : FuncData} {N ps : List Str} {k : Nat} (F : Fun K x qual st f fd) (S : FnScope N ps (defScope st)) (hl : ∀ ds, pre ds → ds.length = ps.length)
    (b : ∀ (cdv : Value) (A : Around) (outer : List Env) (s : Shared) (H : Hp) (E : XK), Room k (A.deeper (envOfC qual (defScope st) s.heap.objs.size f cdv)) →
      ∃ t, PSs (cxOf (L2N.CX P wd) P wd K mg base N qual (defScope st) f cdv A outer s H E) (defBody st) t ∧ ∀ (F0 H0 : Hp) (ds : List D), pre ds → XT ⟨K, F0, H0, [], []⟩ (fun cls d _ H => E cls d H) (fun _ x => xp ds x) →
        wps ⟨K, F0, H0, [], []⟩ t (startG N.length (ds.map .d)) (fun _ => post ds .non) (fun _ d => post ds d)) :
    FnOk P wd K mg base (L2N.CX P wd) (k + 1) f fd ps (spX K pre post xp) :=
  fun_okN F S (fun vs H Q E ⟨_, ds, _, r, p, _⟩ => r.length.trans (hl ds p)) fun cdv A outer s H vs Q E hr h => by
    obtain ⟨t, ht, q⟩ := b cdv A outer s H E hr
    exact ⟨t, ht, spX_body q h⟩
theorem fn_OX {S' : Type} {own : Addr → S' → OwnP} (at_ : AtRef own) {pre : S' → List D → Prop} {post : S' → List D → D → S' → Prop} {xp : S' → List D → Xd → S' → Prop} {x qual : Str} {st : Stmt} {f : Addr} {fd : FuncData} {N ps : List Str} {k : Nat} (F : Fun K x qual st f fd) (S : FnScope N ps (defScope st)) (hl : ∀ s ds, pre s ds → ds.length + 1 = ps.length)
    (b : ∀ (cdv : Value) (A : Around) (outer : List Env) (s : Shared) (H : Hp) (E : XK), Room k (A.deeper (envOfC qual (defScope st) s.heap.objs.size f cdv)) →
      ∃ t, PSs (cxOf (L2N.CX P wd) P wd K mg base N qual (defScope st) f cdv A outer s H E) (defBody st) t ∧ ∀ (F0 H0 : Hp) (O : List Addr) (a : Addr) (s : S') (ds : List D), pre s ds → XT ⟨K, F0, H0, O, []⟩ (fun cls d _ H => E cls d H) (fun G x => ∃ s', G[0]? = some (.o (own a s')) ∧ xp s ds x s') →
        wps ⟨K, F0, H0, O, []⟩ t (startG N.length (.o (own a s) :: ds.map .d)) (fun G => ∃ s', G[0]? = some (.o (own a s')) ∧ post s ds .non s') (fun G d => ∃ s', G[0]? = some (.o (own a s')) ∧ post s ds d s')) :
    FnOk P wd K mg base (L2N.CX P wd) (k + 1) f fd ps (spOX K own pre post xp) :=
  fun_okN F S (fun vs H Q E ⟨_, ws, _, ds, s, _, e, _, _, _, r, p, _⟩ => by rw [e, ← hl s ds p, ← r.length]; rfl) fun cdv A outer s H vs Q E hr h => by
    obtain ⟨t, ht, q⟩ := b cdv A outer s H E hr
    exact ⟨t, ht, spOX_body at_ q h⟩
end
/-! ### raise C(e) -/
section
variable {X : Cx} {e : Expr} {es : List Expr} {ta : TA} {p pos : Pos} {C fI : Addr} {k : Nat} {x : Str} {fd : FuncData} {ps : List Str} {sp : Sp}
theorem pmk_errN (T : OexC X.K C) (iC : PySem.W.findIn X.K (.ref C) "__init__" = some (some (.ref fI))) (tI : PySem.W.typeIn X.K (.ref fI) = some (.type "function")) (F1 : FnOk X.prog X.w X.K X.mg X.base CX0 k fI fd ps sp) (hr : Room (k + 1) X.A) (hb : Binds X.K fd ps [])
    (hg : Gl X x) (hm : X.mg x = some (.ref C)) (ha : PA X (e :: es) ta) (hdb : (x == ("__debug__" : Str)) = false := by decide) (he : starEach (e :: es) X.env = (false, eval e X.env) :: starEach es X.env := by rfl) (hpl : (backTo pos (starEach es X.env)).any (·.1) = false := by rfl) :
    L2N.PMk X (.Call (.Name x p) (e :: es) [] pos) (tMkO C sp [] ta) := by
  intro pins s σ H Q I h
  obtain ⟨nm, q, N, bs, bm, sn, sub, ab, col, dd, k0, k1, k2, k3, k5, hC, hbm⟩ := T.cls
  refine wpAny_Call_Name_kw (ld_glob I hg hm ?_ hdb)
  refine PySem.W.callWith_K (h₀ := X.base) I.ok.mod.kin T.kC (thn (ha.run pos pins s σ H _ I h) fun us s1 ⟨vs, H1, I1, r1, hz, q1⟩ => ⟨I1.kIn, ?_⟩) he hpl
  show wpAny _ _ (call (.ref C) us) _ _ _
  obtain ⟨hp, g, dr, tk, os⟩ := s1
  have hn : H1 (hp.objs.size + 1) = none := I1.hok.fresh (Nat.le_succ _)
  have hq := q1 (hp.objs.size + 1) hn
  rw [List.append_nil] at hq
  have hget : ((hp.push (PySem.W.kdv_tup us)).push (PySem.HandSPX.excO C hp.objs.size)).get? (hp.objs.size + 1) = some (PySem.HandSPX.excO C hp.objs.size) := by heap_get
  have I2 : Inv X pins σ (upd H1 (hp.objs.size + 1) (exo (hp.objs.size + 1) C none)) ⟨(hp.push (PySem.W.kdv_tup us)).push (PySem.HandSPX.excO C hp.objs.size), g, dr, tk, os⟩ :=
    I1.laid (t' := tk) (a := hp.objs.size + 1) (fun b o e => Heap.get?_push_of_some _ (Heap.get?_push_of_some _ e)) (Nat.le_succ _) (exo_ok hget)
  have r2 : Vals (V.ref (hp.objs.size + 1) :: vs) (Value.ref (hp.objs.size + 1) :: us) := .cons rfl r1
  have hl : (Value.ref (hp.objs.size + 1) :: us ++ []).length = ps.length := by
    rw [List.append_nil, ← r2.length]
    exact F1.len _ _ _ _ hq
  have hus : us.length ≤ sizeLine := by
    rw [← Paired.length r1, sizeLine_eq]
    omega
  have hbb := hb ⟨(hp.push (PySem.W.kdv_tup us)).push (PySem.HandSPX.excO C hp.objs.size), g, dr, tk, os⟩ (Value.ref (hp.objs.size + 1) :: us) I2.kIn hl
  rw [List.append_nil] at hbb
  refine wpAny_call (PySem.HandSPX.call_own PySem.F.excBase_ValueError (fun Y => PySem.HandSPX.refsVE_contains Y bm hbm) (I1.kIn _ _ hC) (PySem.W.looks_findIn I1.kIn iC) (fun self => PySem.W.bind_fn I1.kIn self tI) hus
    (codeAny_mono (F1.run _ X.stack _ _ ⟨Value.ref (hp.objs.size + 1) :: us, []⟩ (Value.ref (hp.objs.size + 1) :: us) _ _ (fun _ _ _ => False) (hr.make C us []) (I2.env0.make C us []) hbb r2 hq) fun r s' hq' => ?_))
  cases r with
  | error er => exact hq'.elim
  | ok fl =>
    cases fl with
    | ret u =>
      obtain ⟨v, H2, os2, bare2, un2, hok2, rv, ev, d, fs, ea, ed, hd1, q2⟩ := hq'
      subst ev
      obtain ⟨h2, g2, d2, t2, os'⟩ := s'
      obtain ⟨t0, G, J, kG, ge, hoe, na⟩ := mk_end0 (d2 := d2) (t2 := t2) I1 (Nat.le_succ _) (fun b o e => Heap.get?_push_of_some _ (Heap.get?_push_of_some _ e)) un2 hok2 os2 bare2 ea ed hd1
      exact ⟨rv, ⟨hp.objs.size + 1, _, _, ⟨G, g2, d2, t2, os'⟩, _, .ref C, some d, rfl, J, kG, ge, hoe, ⟨rfl, rfl, fun vs z => by cases z; rfl⟩, rfl, rfl, na, rfl, bare2, raises_own T.exC T.tyC, q2⟩⟩
    | next => exact hq'.elim
    | brk => exact hq'.elim
    | cont => exact hq'.elim
end
section
variable {w : Wd} {G : List Ent} {te : TE} {W : WX} {Xp : List Ent → Xd → Prop} {N : List Ent → Prop} {R : List Ent → D → Prop} {C : Addr} {fld : Str}
/-- the reading of raise C(e) -/
def tRaise (C : Addr) (fld : Str) (W : WX) (te : TE) : TS := fun _ σ H => tMkO C (spInit C fld) [] (tCons te tNil) σ H fun cls d H' => W cls d σ H'
theorem wps_raise (hX : XT w W Xp) (h : wp w te G fun d => Xp G (.e1 C fld d)) : wps w (tRaise C fld W te) G N R := fun σ F H E A _ _ => by
  refine h σ F H A _ fun v d F1 H1 s1 A1 r1 q => ⟨by simp, fun a na => ?_⟩
  refine ⟨a, v, rfl, upd_same, fun dx nd ne => ⟨rfl, dx, [(fld, v)], upd_same, by rw [upd_ne ne, upd_same], by rwa [upd_ne ne] at nd, ?_⟩⟩
  have nd' : H1 dx = none := by rwa [upd_ne ne] at nd
  have eH : upd (del (upd (upd (upd H1 a (exo a C none)) dx (exd dx [(fld, v)])) a (exo a C (some dx))) a) dx (.xd [(fld, v)]) = upd H1 dx (.xd [(fld, v)]) := by
    funext b
    by_cases hb : b = dx
    · subst hb
      rw [upd_same, upd_same]
    · rw [upd_ne hb, upd_ne hb]
      by_cases ha : b = a
      · subst ha
        rw [del_same, na]
      · rw [del_ne ha, upd_ne ha, upd_ne hb, upd_ne ha]
  rw [eH]
  exact hX G σ _ _ _ _ (.e1 C fld d) (A1.new nd') ⟨rfl, dx, v, rfl, upd_same, r1.mono (same_new (A1.fh.free nd'))⟩ q
end
end Sd
set_option Elab.async false
set_option linter.all false
set_option maxRecDepth 100000
set_option maxHeartbeats 4000000
/-! E3: a caught error kept as a value behind the try; isinstance and fields of it; a lambda handed to a def, with what its making leaves alone. -/
namespace Sd
open PySem PySem.Spec L2
open PyProof.Rows

/-- at a: this very record (an error that was raised and caught) -/
def ExV (a : Addr) (oe : Obj) : HO := .ext fun h => h.get? a = some oe
theorem exV_at {P : Program} {w : World} {H : Hp} {h : Heap} {a : Addr} {oe : Obj} (hok : HOk P w H h) (e : H a = some (ExV a oe)) : h.get? a = some oe := by
  have z : ObjOk P w H h a (.ext fun h => h.get? a = some oe) := hok a _ e
  exact z.1
section
variable {X : Cx} {pins : List (Addr × Obj)} {σ : L2.St} {H : Hp} {s : Shared} {a : Addr} {oe : Obj}
theorem inv_track (I : Inv X ((a, oe) :: pins) σ H s) (h0 : X.s_0.heap.get? a = none) (hp : ∀ p ∈ X.pn ++ pins, p.1 ≠ a) : Inv X pins σ (upd H a (ExV a oe)) s := by
  obtain ⟨ha, na, nL, nF, nc⟩ := I.pin (a, oe) (List.mem_append_right _ List.mem_cons_self)
  have nb : ∀ {b : Addr} {o : Obj}, X.s_0.heap.get? b = some o → b ≠ a := fun {b o} e z => by
    rw [z, h0] at e; cases e
  refine ⟨I.ok, I.os, I.bare, ⟨I.base.keep, I.base.slot, fun b o e n hb => ?_, I.base.there, fun b xs e => ?_, fun b o u e => ?_, fun b ps e => ?_⟩, I.loc, I.cell, ?_, fun x c e => ?_, fun p hp' => ?_, fun b u e => ?_, I.len⟩
  · rw [upd_ne (nb e)]; exact I.base.free b o e n hb
  · have z := I.base.tups b xs e
    rw [upd_ne (ne_of_none z na)]; exact z
  · have z := I.base.frzs b o u e
    rw [upd_ne (ne_of_none z na)]; exact z
  · obtain ⟨m, z⟩ := I.base.tbls b ps e
    exact ⟨m, by rw [upd_ne (ne_of_none z na)]; exact z⟩
  · rw [upd_ne (Ne.symm nL)]; exact I.free
  · have hc : c ≠ a := fun z => by
      obtain ⟨v, o, ho, hd⟩ := I.cell x c e
      rw [z, ha] at ho
      cases ho
      exact nc _ hd
    rw [upd_ne hc]; exact I.freeC x c e
  · obtain ⟨e1, e2, e3⟩ := I.pin p (by
      rcases List.mem_append.mp hp' with z | z
      · exact List.mem_append_left _ z
      · exact List.mem_append_right _ (List.mem_cons_of_mem _ z))
    exact ⟨e1, by rw [upd_ne (hp p hp')]; exact e2, e3⟩
  · by_cases hb : b = a
    · subst hb
      rw [upd_same] at e
      cases e
      exact ⟨ha, ⟨_, ha⟩, fun h1 h2 z k => k _ z⟩
    · rw [upd_ne hb] at e
      exact (I.hok b u e).stay (fun c v hc q => q) (fun c q => by rw [upd_ne (ne_of_none q na)]; exact q) fun c xs q => by rw [upd_ne (ne_of_none q na)]; exact q
end
/-- what an except clause that keeps the error does -/
def wKeep (K : PySem.W.Frag) (c : Value) (i : Nat) (ts : Addr → TS) (D : Ends) : WX := fun cls d σ H => PySem.W.exmOne K cls c = some true ∧
  ∀ a oe, H a = none → Zc cls d oe → (∃ vs, oe.data = .fields vs) → ts a { nx := fun σ' H' => D.nx (σ'.set i none) (upd H' a (ExV a oe)), rt := fun _ _ => False } (σ.set i (some (.ref a))) H
section
variable {X : Cx} {x n : Str} {c : Value} {i : Nat} {body suite : List Stmt} {b₀ : Stmt} {np pos pos' : Pos} {tb : WX → TS} {ts : Addr → TS}
theorem ps_try_keep (hs : X.stack = X.env :: X.outer) (hf : X.env.frame = some X.env.locals) (hN : X.N.Nodup) (hi : X.N[i]? = some n) (hln : X.env.kindOf n = some .local) (hex : X.ex = []) (hc : Names X x c)
    (hb : ∀ (W : WX) (pn : List (Addr × Obj)) (xe : Value → Shared → Prop), L2.Takes (X.tr pn xe) W → PassesOwn (model X.prog X.w) X.A X.env xe → PSs (X.tr pn xe) body (tb W))
    (hsu : ∀ (a : Addr) (oe : Obj) (pn : List (Addr × Obj)), PSs (X.suite a ((a, oe) :: pn)) (b₀ :: suite) (ts a)) :
    PS X (.Try body [.ExceptHandler (some (.Name x np)) (some n) (b₀ :: suite) pos'] [] [] pos) (fun D σ H => tb (wKeep X.K c i ts D) D σ H) := by
  refine ⟨fun pins s σ H D I h => wpAny_Try_except ?_⟩
  have ok := I.ok
  refine wpAny_mono ((hb (wKeep X.K c i ts D) (X.pn ++ pins) (fun e s₁ => wpAny (model X.prog X.w) X.A (noteFrame e X.env) (fun _ s₂ => wpAny (model X.prog X.w) X.A (setFlight e none) (fun _ s₃ =>
    wpAny (model X.prog X.w) X.A (handleBy e X.env [.ExceptHandler (some (.Name x np)) (some n) (b₀ :: suite) pos']) (SP X pins D) X.xe s₃) X.xe s₂) X.xe s₁) (fun u s' xx => ?_) PassesOwn.looking).run [] s σ H D (I.toTry _) h) (fun f s1 hsp => ?_) (fun e s1 he => he)
  · obtain ⟨a, B, sI, pins', σ', H', cls, d, rfl, J', nb, up, sky, na, os, ag, hb1, hyes⟩ := xx
    have J : Inv X pins σ' H' sI := J'.ofTry ok
    have z0 : Sky B (X.env :: X.outer) a (Zc cls d) X.env.locals s'.heap := hs ▸ sky
    show wpAny (model X.prog X.w) X.A (noteFrame (.ref a) X.env) _ _ _
    refine L2.Sky.land Zc.steady (by rw [ok.frames, hs]) hf z0 fun h3 fl3 up3 => ?_
    have J3 : Inv X pins σ' H' { s' with heap := h3 } := J.landed nb fl3.1 (up.trans up3) os ag
    obtain ⟨oe3, vs3, he3, hz3, hd3⟩ := fl3.there
    have nfr : a ∉ frs (X.env :: X.outer) := fun hm => by
      obtain ⟨_, o', e', hnf⟩ := fl3.2.2.1.mem hm
      rw [he3] at e'; cases e'
      exact hnf _ hd3
    have nL : a ≠ X.env.locals := fun z => nfr (List.mem_filterMap.mpr ⟨X.env, List.mem_cons_self, by rw [hf, z]⟩)
    have nF : a ∉ X.fs := fun hm => by
      obtain ⟨e, he, q⟩ := List.mem_filterMap.mp hm
      exact nfr (List.mem_filterMap.mpr ⟨e, List.mem_cons_of_mem _ he, q⟩)
    -- a is new since the entry
    have aI : sI.heap.get? a = none := by
      cases e : sI.heap.get? a with
      | none => rfl
      | some o =>
        have z := nb a o e (by rw [hs]; exact nfr)
        rw [fl3.2.1] at z; cases z
    have a0 : X.s_0.heap.get? a = none := by
      cases e : X.s_0.heap.get? a with
      | none => rfl
      | some o =>
        obtain ⟨o', e'⟩ := J.base.there a o e (by rw [hex]; simp)
        rw [aI] at e'; cases e'
    have pinN : ∀ p ∈ X.pn ++ pins, p.1 ≠ a := fun p hp z => by
      have e := (J.pin p hp).1
      rw [z, aI] at e; cases e
    have S3 := J3.suite he3 hd3 na nL nF
    refine wpAny_handleBy_cons (codeAny_handlers_test ?_) (fun q => by cases q)
    have LT : PySem.W.Looks (model X.prog X.w) h3 (typeOf (.ref a)) cls := fun A Q E s k q => wpAny_typeOf_ref (k _ _ he3) (by rw [hz3.1]; exact q)
    have LM := PySem.W.exm_one (M := model X.prog X.w) (J3.kIn) LT hb1
    have test : ∀ {Q : Value → Shared → Prop} {E : Value → Shared → Prop}, Q c { s' with heap := h3 } → wpAny (model X.prog X.w) (X.A.mark (some (.ref a))) (eval (.Name x np) X.env) Q E { s' with heap := h3 } := fun {Q E} q => by
      obtain ⟨hg, hdbg, hm | ⟨hm, hv, hnn⟩⟩ := hc
      · exact ld_glob (X := X.suite a ((a, oe3) :: (X.pn ++ pins))) S3 hg hm q hdbg
      · exact ld_blt (X := X.suite a ((a, oe3) :: (X.pn ++ pins))) S3 hg hm hv q hnn hdbg
    refine test (LM.here ?_)
    refine codeAny_handlers_suite_as (HandSPX.lands_againZ fl3 fun h4 fl4 up4 => ?_)
    have J4 : Inv X pins σ' H' { s' with heap := h4 } := J.landed nb fl4.1 ((up.trans up3).trans up4) os ag
    obtain ⟨oe4, vs4, he4, hz4, hd4⟩ := fl4.there
    have S4 := J4.suite he4 hd4 na nL nF
    refine store_ok (X := X.suite a ((a, oe4) :: (X.pn ++ pins))) (v := .ref a) S4 hN hi (.inl hln) rfl (fun s5 S5 => ?_) (.inr hln)
    refine wpAny_mono ((hsu a oe4 (X.pn ++ pins)).run [] s5 _ H' _ S5 (hyes a oe4 na hz4 ⟨_, hd4⟩)) (fun f s6 hsp => ?_) (fun _ _ z => False.elim z)
    cases f with
    | next =>
      obtain ⟨σ6, H6, S6, q6⟩ := hsp
      have J6 : Inv X ((a, oe4) :: pins) σ6 H6 s6 := ⟨ok, S6.os, S6.bare, S6.base, S6.loc, S6.cell, S6.free, S6.freeC, fun p hp => S6.pin p (List.mem_append_left _ (by
        rcases List.mem_append.mp hp with z | z
        · exact List.mem_cons_of_mem _ (List.mem_append_left _ z)
        · rcases List.mem_cons.mp z with z | z
          · rw [z]; exact List.mem_cons_self
          · exact List.mem_cons_of_mem _ (List.mem_append_right _ z))), S6.hok, S6.len⟩
      exact gone_ok J6 hN hi hln fun s7 J7 => ⟨_, _, inv_track J7 a0 pinN, q6⟩
    | brk =>
      obtain ⟨_, _, _, q6⟩ := hsp
      exact q6.elim
    | cont =>
      obtain ⟨_, _, _, q6⟩ := hsp
      exact q6.elim
    | ret u =>
      obtain ⟨_, _, _, _, _, q6⟩ := hsp
      exact q6.elim
  · cases f with
    | next =>
      obtain ⟨σ', H', J', q⟩ := hsp
      exact wpAny_execs_nil ⟨σ', H', J'.ofTry ok, q⟩
    | brk =>
      obtain ⟨σ', H', J', q⟩ := hsp
      exact ⟨σ', H', J'.ofTry ok, q⟩
    | cont =>
      obtain ⟨σ', H', J', q⟩ := hsp
      exact ⟨σ', H', J'.ofTry ok, q⟩
    | ret u =>
      obtain ⟨v, σ', H', J', r, q⟩ := hsp
      exact ⟨v, σ', H', J'.ofTry ok, r, q⟩
end
end Sd
set_option Elab.async false
set_option linter.all false
set_option maxRecDepth 100000
set_option maxHeartbeats 4000000
/-! E4: isinstance and fields of a kept error; a lambda handed to a def; what a teller makes of it. -/
namespace Sd
open PySem PySem.Spec L2
open PyProof.Rows
open LamX

/-- at a: a kept error of the class at D, its field f holding v (its dict at dx) -/
def ErAt (H : Hp) (a D dx : Addr) (f : Str) (v : V) : Prop := ∃ oe, H a = some (ExV a oe) ∧ Zc (.ref D) (some dx) oe ∧ (∃ vs, oe.data = .fields vs) ∧ H dx = some (.xd [(f, v)])
/-- isinstance(e, C), e a kept error -/
def rIsV (K : PySem.W.Frag) : List V → Hp → VK → Prop := fun xs H Q => ∃ a D dx f v C b, xs = [.ref a, .ref C] ∧ ErAt H a D dx f v ∧ ExcC K D ∧ PySem.W.kitOne K (.ref D) (.ref C) = some b ∧ Q (.bl b) H
theorem erAt_inst {X : Cx} {pins : List (Addr × Obj)} {σ : L2.St} {H : Hp} {s : Shared} {a D dx : Addr} {f : Str} {v : V} (I : Inv X pins σ H s) (h : ErAt H a D dx f v) : ∃ oe od mA, PySem.W.InstAt s.heap a oe D (some od) ∧ s.heap.Ns1 dx mA ∧ (∀ g, RelO (([(f, v)] : List (Str × V)).lookup g) (mA g)) ∧ ∀ g, PySem.W.lookIn g od = some (mA g) := by
  obtain ⟨oe, ha, hz, ⟨vs, hd⟩, hx⟩ := h
  have hh := exV_at I.hok ha
  have hx' : ObjOk X.prog X.w H s.heap dx (.xd [(f, v)]) := I.hok dx _ hx
  obtain ⟨mA, hns, hr⟩ := hx'
  obtain ⟨od, ho, hl⟩ := lookIn_ns hns
  exact ⟨oe, od, mA, ⟨hh, hz.1, by unfold PySem.W.notCls; rw [hd] <;> rfl, by rw [hz.2]; exact ho⟩, hns, hr, hl⟩
theorem call_isV {X : Cx} : CallR X (.builtin "isinstance") (rIsV X.K) := by
  intro pins s σ H xs us Q I r h
  obtain ⟨a, D, dx, f, v, C, b, rfl, he, C', e, q⟩ := h
  cases r with
  | cons rx rr =>
  cases rr with
  | cons rt rr =>
  cases rr
  cases rx
  cases rt
  obtain ⟨oe, od, mA, J, _, _, _⟩ := erAt_inst I he
  exact PySem.W.kia_one (PySem.W.kitx_exc (od := some od) (ox := oe) (by obtain ⟨cd, hc, _⟩ := PySem.W.any_some C'.hd; rw [hc]; rfl) C'.hg C'.hk C'.hs C'.ha C'.hn C'.ht C'.hm) I.kIn J e (fun z => nomatch z) fun tk => ⟨.bl b, H, I.kept (t' := tk) fun _ _ z => z, rfl, q⟩
/-- e.f, e a kept error -/
def tFldV (K : PySem.W.Frag) (g : Str) (te : TE) : TE := fun σ H Q => te σ H fun x H1 => ∃ a D dx v, x = .ref a ∧ ErAt H1 a D dx g v ∧ XfC K D ∧ PySem.W.findIn K (.ref D) g = some none ∧ Q v H1
theorem pe_fldV {X : Cx} {e : Expr} {te : TE} {pos : Pos} {n : Str} (he : PE X e te) (hb : attributeBase e n X.env (eval e X.env) = eval e X.env := by rfl) : PE X (.Attribute e n pos) (tFldV X.K n te) := by
  refine ⟨fun pins s σ H Q I h => attr_of hb (thn (he.run pins s σ H _ I h) fun u s1 hh => ?_)⟩
  obtain ⟨x, H1, I1, rx, a, D, dx, v, ex, er, T, hno, q⟩ := hh
  subst ex
  obtain rfl : u = Value.ref a := rx
  obtain ⟨oe, od, mA, J, hns, hr, hl⟩ := erAt_inst I1 er
  obtain ⟨w, hw, rw'⟩ := RelO.some_of (v := v) (o := mA n) (by
    have z := hr n
    rwa [show ([(n, v)] : List (Str × V)).lookup n = some v by simp [List.lookup]] at z)
  exact HandSPX.exc_get I1.kIn J T.ga T.gg T.exC (PySem.W.findObj_own T.hdC hno rfl (by rw [hl, hw])) (handed_of rw') ⟨v, H1, I1.tok _, rw', q⟩

/-! ### a lambda made: nothing but its def's table of codes changes -/
/-- what a lambda's making does: nothing, or one code more in the table -/
def LamNew (P : Addr) (q : Str) (H H1 : Hp) : Prop := H1 = H ∨ ∃ (ps : Array Value) (l c : Nat) (c' : Addr), H P = some (.tbl ps) ∧ H c' = none ∧ H1 = upd (upd H P (.tbl (ps ++ #[rawInt l, rawInt c, .ref c']))) c' (CodeO c' q)
section
variable {X : Cx} {pins : List (Addr × Obj)} {σ : L2.St} {H : Hp} {s : Shared}
theorem lam_frame {c P : Addr} {params : Arguments} {body : Expr} {scope : Scope} {pos : Pos} {E : Value → Shared → Prop} {Q : Value → Shared → Prop} (I : Inv X pins σ H s) (TB : TabB X.base X.mg c P) (hcode : X.env.code = .ref c)
    (hT : TabS H P (X.env.qual ++ "<lambda>")) (hdef : defaultsOf params X.env = ([], [])) (hfree : ∀ y ∈ scope.names, y.2 = .free → ∃ c, X.env.cells.lookup y.1 = some c)
    (h : ∀ (f c' : Addr) (pm ctv : Value) (H1 : Hp) (s' : Shared), Inv X pins σ H1 s' → LamNew P (X.env.qual ++ "<lambda>") H H1 →
      s'.heap.get? f = some (PySem.W.kla_obj "<lambda>" (X.env.qual ++ "<lambda>") params body scope (cloFrom X.env.cells scope.names []) pm c' ctv) → H1 f = none → f ∉ frs X.stack → H1 c' = some (CodeO c' (X.env.qual ++ "<lambda>")) → Q (.ref f) s') :
    wpAny (model X.prog X.w) X.A (eval (.Lambda params body scope pos) X.env) Q E s := by
  obtain ⟨ps, hP, ht, hcs⟩ := hT
  have gP : s.heap.get? P = some { cls := .none, data := .fields ps } := I.hok P _ hP
  have bP : s.heap.BuiltinsAt X.mg P := TB.bm.keeps I.bk
  have nofr : ∀ f, s.heap.objs.size ≤ f → f ∉ frs X.stack := fun f hf z => by
    rcases List.mem_cons.mp (I.stkSub _ z) with e | e
    · exact Nat.lt_irrefl _ (Nat.lt_of_lt_of_le (e ▸ I.lt) hf)
    · exact I.nofs hf e
  refine PySem.W.kla_eval hdef ?_
  cases hc : codeAmong pos ps.toList with
  | some cv =>
    obtain ⟨c', rfl, hco⟩ := hcs pos cv hc
    refine PySem.W.kla_makeFunctionHit (mg := X.mg) (c := c) (P := P) (ps := ps) (closure_ok hfree) I.ok.glob (I.mod.glob.keeps I.bk) hcode (TB.code.keeps I.bk) gP ht hc bP fun ctv h' tk hx hsz => ?_
    exact h _ c' ((X.mg "__name__").getD .none) ctv H _ (I.kept (t' := tk) fun b o e => Heap.get?_push_of_some _ (hx b o e)) (.inl rfl) (Heap.get?_push_size _ rfl) (I.hok.fresh hsz) (nofr _ hsz) hco
  | none =>
    refine PySem.W.kla_makeFunction (mg := X.mg) (c := c) (P := P) (ps := ps) (closure_ok hfree) I.ok.glob (I.mod.glob.keeps I.bk) hcode (TB.code.keeps I.bk) gP ht hc TB.gP bP fun c' ctv h' tk hx hge hlt hrec htb => ?_
    obtain ⟨c2, oc, vs, t, e2, hoc, hd, hv⟩ := hrec
    cases e2
    have nC : H c' = none := I.hok.fresh hge
    have hsz : s.heap.objs.size ≤ h'.objs.size := Nat.le_trans hge (Nat.le_of_lt hlt)
    refine h h'.objs.size c' ((X.mg "__name__").getD .none) ctv _ _ (inv_table (t' := tk) (more := #[rawInt pos.line, rawInt pos.col, .ref c']) I hP (fun b o hb e => Heap.get?_push_of_some _ (hx b o hb e)) (Heap.get?_push_of_some _ htb) hge ⟨oc, vs, t, Heap.get?_push_of_some _ hoc, hd, hv⟩) (.inr ⟨ps, pos.line, pos.col, c', hP, nC, rfl⟩) (Heap.get?_push_size _ rfl) ?_ (nofr _ hsz) upd_same
    · rw [upd_ne (Nat.ne_of_gt hlt), upd_ne (Nat.ne_of_gt (Nat.lt_of_lt_of_le (Heap.lt_size gP) hsz))]
      exact I.hok.fresh hsz
end
/-- x(lambda: body): P the table of codes -/
def tLamP (P : Addr) (q : Str) (TT : (XK → Hp → VK → Prop) → Hp → VK → Prop) (t : XK → TE) : TE := fun σ H Q => TabS H P q ∧ ∀ H1, LamNew P q H H1 → TT (fun E H' Q' => t E σ H' Q') H1 Q
section
variable {X : Cx}
theorem pe_lamP {TT : (XK → Hp → VK → Prop) → Hp → VK → Prop} {x a qual : Str} {g c P : Addr} {k : Nat} {pg : Arguments} {bg : List Stmt} {sg : Scope} {dV kV doc pm cdv ct oc : Value} {an od : Option Addr} {osl : Array (Option Value)} {Ng : List Str}
    {params : Arguments} {body : Expr} {scope : Scope} {t : XK → TE} {p lpos pos : Pos} (hg : Gl X x) (hm : X.mg x = some (.ref g)) (hk : PySem.W.keepIn X.K (.ref g) = true)
    (lk : X.K.lookup g = some ⟨oc, od, .func (PySem.W.fnOf x x pg bg sg dV kV doc pm an cdv ct), osl⟩) (hcg : PySem.W.codeIn X.K cdv x = true) (hb : L2.Binds X.K (PySem.W.fnOf x x pg bg sg dV kV doc pm an cdv ct) [a] []) (Sg : FnScope Ng [a] sg) (hNg : Ng[0]? = some a) (hva : Vis sg a)
    (hG : GivesTo X Ng x sg g cdv bg a (X.env.qual ++ "<lambda>") TT) (hql : qual = X.env.qual ++ "<lambda>")
    (TB : TabB X.base X.mg c P) (hcode : X.env.code = .ref c) (hr : Room (k + 2) X.A) (L : LamS X.env.scope scope) (hdef : defaultsOf params X.env = ([], []))
    (hbind : ∀ (q : Str) (cl : List (Str × Addr)) (pm cv ctv : Value), bindArgs (PySem.W.kla_fn "<lambda>" q params body scope cl pm cv ctv) ⟨[], []⟩ = pure [])
    (hbody : ∀ (A : Around) (outer : List Env) (s : Shared) (H : Hp) (E : XK) (f c' : Addr), Room k (A.deeper (lamEnv X scope s.heap.objs.size f c')) → PE (lamCx X A outer s H E scope f c') body (t E))
    (hdb : (x == ("__debug__" : Str)) = false := by decide) (hd : (a == ("__debug__" : Str)) = false := by decide) (hcd : (a == ("__classdict__" : Str)) = false := by decide) :
    PE X (.Call (.Name x p) [.Lambda params body scope lpos] [] pos) (tLamP P qual TT t) := by
  subst hql
  refine ⟨fun pins s σ H Q I h => ?_⟩
  obtain ⟨hT, h⟩ := h
  refine wpAny_Call_Name_kw (ld_glob I hg hm (PySem.W.callWith_K (h₀ := X.base) I.ok.mod.kin hk ?_ (by rfl) (by rfl)) hdb)
  show wpAny _ _ (spliced ((false, eval (.Lambda params body scope lpos) X.env) :: backTo pos (starEach [] X.env))) _ _ s
  refine PySem.Calls.spliced_cons (lam_frame I TB hcode hT hdef (L.has I.ok) fun f c' pm' ctv H1 s' I1 eN hf hfn hfr hco => PySem.Calls.spliced_nil ⟨I1.kIn, ?_⟩)
  have rc : codeAny (model X.prog X.w) X.A (.call (.ref g) ⟨[.ref f], []⟩) (CR C8.CX0 X.stack X.prog X.w H1 s' Q C8.E0) s' := by
    refine run_ofS (N := Ng) (ps := [a]) (us := [.ref f]) (vs := [.ref f]) lk hcg Sg hr I1.env0 (hb s' [.ref f] I1.kIn rfl) (.cons rfl .nil) rfl fun hr' => ?_
    obtain ⟨t', ht', hq'⟩ := hG f c' s' H1 Q (fun E H' Q' => t E σ H' Q') (fun W pn xe E p1 p2 tk hW => pe_act (i := 0) I1 L hf hfn hfr (hbind _ _ _ _ _) tk hW hr' (fun A outer s H hr2 => hbody A outer s H E f c' hr2) hNg hva hd hcd) hco (h H1 eN)
    exact ⟨t', ht'.nox, hq'⟩
  refine wpAny_call (codeAny_mono rc fun r s2 hq => ?_)
  rcases r with e | fl
  · exact (show False from hq).elim
  · cases fl with
    | ret u => exact I1.after hq
    | next => exact hq.elim
    | brk => exact hq.elim
    | cont => exact hq.elim
end

/-- what is raised where nothing is handled may be taken as any other -/
theorem cx_of_cxN {P : Program} {w : World} {outer : List Env} {H : Hp} {s : Shared} {E : XK} {u : Value} {s' : Shared} (c : L2N.CX P w outer H s E u s') : L2.CX P w outer H s E u s' := by
  obtain ⟨a, B, H', cls, d, e, fl, r⟩ := c
  exact ⟨a, B, H', cls, d, e, L2H.flyingZ_imp (fun o z => z.zc) fl, r⟩
theorem passesN {X : Cx} {W : WX} {E : XK} (tk : L2.Takes X W) (hW : ∀ cls d σ H, E cls d H → W cls d σ H) : Passes (L2N.CX X.prog X.w) X E := fun pins σ H s e s' I c => passes_call tk hW pins σ H s e s' I (cx_of_cxN c)
/-- the error that a teller caught, told -/
def TellE (K : PySem.W.Frag) (CS CT CP : Addr) (Q : VK) : XK := fun cls d H' => ∃ D dx f v, cls = .ref D ∧ d = some dx ∧ H' dx = some (.xd [(f, v)]) ∧ ExcC K D ∧ XfC K D ∧ PySem.W.findIn K (.ref D) f = some none ∧ PySem.W.exmOne K (.ref D) (.ref CS) = some true ∧
  ((PySem.W.kitOne K (.ref D) (.ref CT) = some true ∧ f = "row" ∧ ∀ a oe, H' a = none → ∀ p, upd H' a (ExV a oe) p = none → Q (.ref p) (upd (upd H' a (ExV a oe)) p (.tup [.str "text", v]))) ∨
    (PySem.W.kitOne K (.ref D) (.ref CT) = some false ∧ PySem.W.kitOne K (.ref D) (.ref CP) = some true ∧ f = "part" ∧ ∀ a oe, H' a = none → ∀ p, upd H' a (ExV a oe) p = none → Q (.ref p) (upd (upd H' a (ExV a oe)) p (.tup [.str "program", v]))))
def TTell (K : PySem.W.Frag) (CS CT CP : Addr) : (XK → Hp → VK → Prop) → Hp → VK → Prop := fun tl H Q => ∀ (k : VK) (E : XK), (∀ v H', (∀ p, H' p = none → Q (.ref p) (upd H' p (.tup [.str "value", v]))) → k v H') → (∀ cls d H', TellE K CS CT CP Q cls d H' → E cls d H') → tl E H k
end Sd
set_option Elab.async false
set_option linter.all false
set_option maxRecDepth 100000
set_option maxHeartbeats 4000000
/-! E5: the end of a law with tables of codes, no repr under way. -/
namespace Sd
open PySem PySem.Spec L2
open PyProof.Rows
open LamX

section
variable {P : Program} {w : World} {K : PySem.W.Frag} {mg mb : Str → Option Value} {k : Nat} {fa a : Addr} {cs : List (Addr × Addr)} {fd : FuncData} {x : Str} {sp : Sp} {s1 : Shared} {vs : List Value} {ns : List Int}
abbrev empT : Obj := { cls := .none, data := .fields #[] }
theorem law_callRT (KX : K.In s1.heap) (hns : s1.heap.Ns mainGlobals mg) (hb : s1.heap.Ns builtinsNs mb) (hbb : ∀ y : Str, y ≠ "__name__" → mb y = bootBuiltins y) (hlim : s1.heap.NoLimit) (hg : s1.gens = #[])
    (hT : ∀ p ∈ cs, s1.heap.get? p.2 = some empT) (nT : ∀ p ∈ cs, K.lookup p.2 = none) (C : ∀ p ∈ cs, PySem.W.CodeHd s1.heap p.1 p.2)
    (hbm : ∃ (bm : Addr) (ob : Obj), mg "__builtins__" = some (.ref bm) ∧ bm ≠ builtinsNs ∧ s1.heap.get? bm = some ob ∧ ob.cls = .type "module" ∧ ob.dict = some builtinsNs ∧ ob.data = .plain)
    (ha : s1.heap.get? a = some { cls := .type "list", data := .seq vs.toArray }) (hi : IntsAre vs ns) (hl : ns.length ≤ sizeLine) (hr : Room k callerA)
    (F : ∀ base : Heap, K.In base → base.Ns mainGlobals mg → (∀ p ∈ cs, TabB base mg p.1 p.2) → LawRun P w K mg base k fa fd [x] sp) (hbind : ∀ (s : Shared) (u : Value), BindsTo s fd ⟨[u], []⟩ [(x, u)])
    (hsp : ∀ H : Hp, (∀ p ∈ cs, H p.2 = some (.tbl #[])) → SqL K H a (ns.map V.int) → sp [.ref a] H (fun v _ => v = .bl true) fun _ _ _ => False) :
    codeAny (model P w) callerA (.call (.ref fa) ⟨[.ref a], []⟩) (fun r s' => r = .ok (.ret (.bool true)) ∧ OldK s1.heap s'.heap ∧ s'.os = s1.os ∧ AllBare s'.gens) s1 := by
  let T : List Addr := cs.map (·.2)
  have tb : ∀ {b : Addr}, b ∈ T → ∃ p ∈ cs, p.2 = b := fun {b} h => List.mem_map.mp h
  have tg : ∀ {b : Addr}, b ∈ T → s1.heap.get? b = some empT := fun {b} h => by
    obtain ⟨p, hp, rfl⟩ := tb h
    exact hT p hp
  have aT : a ∉ T := fun z => by
    have q := tg z
    rw [ha] at q
    cases congrArg Obj.data (Option.some.inj q)
  let lo : Obj := { cls := .type "list", data := .seq vs.toArray }
  -- what is tracked: the tables, and the script where it is not written
  let H : Hp := fun b => if b ∈ T then some (.tbl #[]) else if b = a ∧ K.lookup a = none then some (.frz lo (.lst (ns.map V.int))) else none
  have HT : ∀ {b : Addr}, b ∈ T → H b = some (.tbl #[]) := fun {b} h => if_pos h
  have HK : ∀ {b : Addr} {o : Obj}, K.lookup b = some o → H b = none := fun {b o} e => by
    show (if b ∈ T then some (HO.tbl #[]) else if b = a ∧ K.lookup a = none then some (HO.frz lo (.lst (ns.map V.int))) else none) = none
    rw [if_neg (fun z => by
      obtain ⟨p, hp, e2⟩ := tb z
      rw [← e2, nT p hp] at e; cases e), if_neg (fun z => by rw [z.1, z.2] at e; cases e)]
  have Hne : ∀ {b : Addr} {o : Obj}, s1.heap.get? b = some o → (∀ us n, o.data ≠ .seq us n) → o.data ≠ .fields #[] → H b = none := fun {b o} e h1 h2 => by
    show (if b ∈ T then some (HO.tbl #[]) else if b = a ∧ K.lookup a = none then some (HO.frz lo (.lst (ns.map V.int))) else none) = none
    rw [if_neg (fun z => by
      rw [tg z] at e; cases e
      exact h2 rfl), if_neg (fun z => by
      rw [z.1, ha] at e; cases e
      exact h1 _ _ rfl)]
  have Hcase : ∀ b, H b = none ∨ b ∈ T ∨ (b = a ∧ H b = some (.frz lo (.lst (ns.map V.int)))) := fun b => by
    by_cases h1 : b ∈ T
    · exact .inr (.inl h1)
    · by_cases h2 : b = a ∧ K.lookup a = none
      · exact .inr (.inr ⟨h2.1, (if_neg h1).trans (if_pos h2)⟩)
      · exact .inl ((if_neg h1).trans (if_neg h2))
  have rv := vals_ints hi
  have hS : SqL K H a (ns.map V.int) := by
    cases hk : K.lookup a with
    | some o =>
      have e := KX a o hk
      rw [ha] at e
      cases e
      exact .inr ⟨_, vs.toArray, _, hk, rfl, rfl, rfl, by rw [List.size_toArray, hi.length]; exact hl, by simpa using rv⟩
    | none => exact .inl (.inr ⟨lo, (if_neg aT).trans (if_pos ⟨rfl, hk⟩)⟩)
  have hok : HOk P w H s1.heap := fun b u z => by
    rcases Hcase b with e | e | ⟨e, e2⟩
    · rw [e] at z; cases z
    · rw [HT e] at z
      cases z
      exact tg e
    · rw [e2] at z
      cases z
      subst e
      exact ⟨ha, by rw [List.length_map]; exact hl, vs, _, rv, ha⟩
  have nsK : ∀ {b : Addr} {m : Str → Option Value}, s1.heap.Ns b m → (hidT s1.heap H).Ns b m := fun {b m} ⟨o, es, ep, e, d, r⟩ => ⟨o, es, ep, hidT_get e (Hne e (fun us n z => by rw [d] at z; cases z) (fun z => by rw [d] at z; cases z)), d, r⟩
  have hKb : K.In (hidT s1.heap H) := fun b o e => hidT_get (KX b o e) (HK e)
  have TB : ∀ p ∈ cs, TabB (hidT s1.heap H) mg p.1 p.2 := fun p hp => by
    refine ⟨?_, ?_, fun z => ?_⟩
    · obtain ⟨o, us, file, tf, flags, tgk, inF, text, tt, e1, r1, r2, r3, rr⟩ := C p hp
      exact ⟨o, us, file, tf, flags, tgk, inF, text, tt, hidT_get e1 (Hne e1 (fun us n z => by rw [r2] at z; cases z) (fun z => by rw [r2] at z; cases z; cases r3)), r1, r2, r3, rr⟩
    · obtain ⟨bm, ob, b1, b2, b3, b4, b5, b6⟩ := hbm
      refine ⟨bm, ob, b1, b2, fun q => ?_, fun q => ?_, hidT_get b3 (Hne b3 (fun us n z => by rw [b6] at z; cases z) (fun z => by rw [b6] at z; cases z)), b4, b5, b6⟩
      · obtain ⟨o, es, ep, e, hd, _⟩ := hns
        rw [q, e] at b3
        cases b3
        rw [hd] at b6
        cases b6
      · rw [q, hT p hp] at b3
        cases b3
        cases b6
    · obtain ⟨o, es, ep, e, hd, _⟩ := hns
      rw [z, hT p hp] at e
      cases e
      cases hd
  have hM : Mod K mg (hidT s1.heap H) := ⟨hKb, nsK hns, ⟨mb, nsK hb, hbb⟩, let ⟨mc, h1, h2⟩ := hlim; ⟨mc, nsK h1, h2⟩⟩
  have e0 : Env0 P w K mg (hidT s1.heap H) callerA [] s1 H := ⟨rfl, hM, fun b o e => of_hidT e, Nat.le_of_eq (hidT_size _ _), trivial, (fun b hb => nomatch hb), hok, .of_eq hg⟩
  refine codeAny_mono ((F _ hKb (nsK hns) TB).run callerA [] s1 H ⟨[.ref a], []⟩ [.ref a] [.ref a] _ _ rfl hr e0 (hbind s1 (.ref a)) (.cons rfl .nil) (hsp H (fun p hp => HT (List.mem_map.mpr ⟨p, hp, rfl⟩)) hS)) fun r s' h => ?_
  rcases r with er | fl
  · exact (show False from h).elim
  cases fl with
  | next => exact False.elim h
  | brk => exact False.elim h
  | cont => exact False.elim h
  | ret u =>
    obtain ⟨v, H', os, bare, un, hok', r', q⟩ := h
    have q' : v = .bl true := q
    subst q'
    obtain rfl : u = Value.bool true := r'
    have key : ∀ b o, b ∉ T → s1.heap.get? b = some o → s'.heap.get? b = some o := fun b o nb e => by
      rcases Hcase b with z | z | ⟨_, z⟩
      · exact un.keep b o e z (fun z => nomatch z) (fun z => nomatch z)
      · exact absurd z nb
      · obtain ⟨e1, _⟩ := hok b _ z
        obtain ⟨e2, _⟩ := hok' b _ (un.frzs b _ _ z)
        rw [e] at e1
        cases e1
        exact e2
    have grown : ∀ p ∈ cs, ∃ more : Array Value, s'.heap.get? p.2 = some { cls := .none, data := .fields more } := fun p hp => by
      obtain ⟨more, z⟩ := un.tbls p.2 #[] (HT (List.mem_map.mpr ⟨p, hp, rfl⟩))
      exact ⟨_, hok' p.2 _ z⟩
    refine ⟨rfl, ⟨fun b o e => ?_, fun b o e => ?_⟩, os, bare⟩
    · by_cases hb : b ∈ T
      · obtain ⟨p, hp, rfl⟩ := tb hb
        obtain ⟨more, hm⟩ := grown p hp
        rw [hT p hp] at e
        cases e
        exact .inr (.inl ⟨((C p hp).tab (hT p hp)).isCodeTable, rfl, #[], more, rfl, by rw [Array.empty_append]; exact hm⟩)
      · exact .inl (key b o hb e)
    · by_cases hb : b ∈ T
      · obtain ⟨p, hp, rfl⟩ := tb hb
        obtain ⟨more, hm⟩ := grown p hp
        exact ⟨_, hm⟩
      · exact ⟨o, key b o hb e⟩
end
theorem walk_ofRT {l : PySem.W.OpenLaw} {n k : Nat} {q : Program} {loose : List Str} {XP : (Str → Option Value) → Heap → Prop} {YP : World → Heap → Prop} {d : DefRec} {K : Params → PySem.W.Frag} {x : Str} (hn : l.most = some n) (hn2 : n ≤ sizeLine) (hdf : d.params.defaults = []) (hr : Room k callerA) (hrec : ((recsOf q).any fun e => e.name == d.name) = true)
    (hY : ∀ (w : World) (h : Heap), YP w h → (K w.params).In h) (F : ∀ (w : World) (mg : Str → Option Value) (fa : Addr) (h : Heap), YP w h → (K w.params).In h → h.Ns mainGlobals mg → mg d.name = some (.ref fa) → OwnTab (K w.params) fa h →
      ∃ (fd : FuncData) (cs : List (Addr × Addr)) (sp : Sp), (∀ (s : Shared) (u : Value), BindsTo s fd ⟨[u], []⟩ [(x, u)]) ∧ (∀ p ∈ cs, h.get? p.2 = some empT ∧ (K w.params).lookup p.2 = none ∧ PySem.W.CodeHd h p.1 p.2) ∧
        (∀ (H : Hp) (a : Addr) (ns : List Int), ns.length ≤ n → (∀ p ∈ cs, H p.2 = some (.tbl #[])) → SqL (K w.params) H a (ns.map V.int) → sp [.ref a] H (fun v _ => v = .bl true) fun _ _ _ => False) ∧
        ∀ base : Heap, (K w.params).In base → base.Ns mainGlobals mg → (∀ p ∈ cs, TabB base mg p.1 p.2) → LawRun l.prog w (K w.params) mg base k fa fd [x] sp) :
    PySem.W.WalkO q loose XP YP l.row.toRowW d [] (fun f vs => PySem.call f vs) :=
  Att.attach_call hn hdf fun w s0 s1 mg mb fa o pm cd doc a vs ns G Y ho hd hcd hmg hobj hints hlen hg => by
    have KX := hY w _ Y
    have own : OwnTab (K w.params) fa s1.heap := fun c P o1 fd1 e dd vs1 sl k1 k2 k3 k4 k5 => by
      obtain ⟨dL, hm, hn1⟩ := List.any_eq_true.mp hrec
      obtain ⟨a', o', fd', c', P', h1, h2, h3, h4, h5, h6⟩ := G.T.tab dL hm
      rw [show dL.name = d.name from beq_iff_eq.mp hn1, hmg] at h1
      cases h1
      rw [KX _ _ k1] at h2
      cases h2
      rw [k2] at h3
      cases h3
      rw [k3] at h4
      cases h4
      obtain ⟨⟨oc, vc, e1, _, e3, e4⟩, hP⟩ := h6
      rw [KX _ _ k4] at e1
      cases e1
      cases e3
      rw [k5] at e4
      cases e4
      exact hP
    obtain ⟨fd, cs, sp, hb, hc, hsp, hF⟩ := F w mg fa _ Y KX G.T.g hmg own
    exact law_callRT KX G.T.g G.T.b G.T.builtins G.T.nolimit hg (fun p hp => (hc p hp).1) (fun p hp => (hc p hp).2.1) (fun p hp => (hc p hp).2.2) G.T.bmain hobj hints (Nat.le_trans hlen hn2) hr hF hb fun H hH hS => hsp H a ns hlen hH hS
end Sd
set_option Elab.async false
set_option linter.all false
set_option maxRecDepth 100000
set_option maxHeartbeats 4000000
/-! E6: what is known of an error class; raise as a term; a teller called with a lambda; the script beside a table of codes. -/
namespace Sd
open PySem PySem.Spec L2
open PyProof.Rows
open LamX

/-- what must hold of the program beside its own text -/
structure PF (P : Program) : Prop where
  file : ((P.main.file : Str) == ("/claim/cut.py" : Str)) = true
  top : (P.main.scope.names.lookup ("super" : Str)).isSome = false
structure IniF (P : Program) (K : PySem.W.Frag) (C f : Addr) (fd : FuncData) (fld x : Str) : Prop where
  ok : ∀ (w : World) (mg : Str → Option Value) (base : Heap), mg "super" = none → FnOk P w K mg base CX0 1 f fd ["self", x] (spInit C fld)
structure ErrF (K : PySem.W.Frag) (S C f : Addr) (fld : Str) : Prop where
  T : OexC K C
  ex : ExcC K C
  xf : XfC K C
  no : PySem.W.findIn K (.ref C) fld = some none
  iC : PySem.W.findIn K (.ref C) "__init__" = some (some (.ref f))
  tI : PySem.W.typeIn K (.ref f) = some (.type "function")
  sub : PySem.W.exmOne K (.ref C) (.ref S) = some true
section
variable {P : Program} {w : World} {K : PySem.W.Frag} {mg : Str → Option Value} {base : Heap} {N : List Str} {qual : Str} {sc : Scope} {f : Addr} {cd : Value} {A : Around} {outer : List Env} {s : Shared} {H : Hp} {E : XK}
theorem takesX : L2N.Takes (cxOf (L2N.CX P w) P w K mg base N qual sc f cd A outer s H E) (fun cls d _ H => E cls d H) := L2N.takes_of rfl rfl rfl rfl
theorem passX : Passes (L2N.CX P w) (cxOf (L2N.CX P w) P w K mg base N qual sc f cd A outer s H E) E := L2N.passes_call takesX fun _ _ _ _ h => h
theorem passF {X : Cx} : Passes (L2N.CX P w) X (fun _ _ _ => False) := fun _ _ _ _ _ _ _ h => by
  obtain ⟨_, _, _, _, _, _, _, _, _, _, _, _, z⟩ := h
  exact z.elim
theorem ownX : PassesOwn (model P w) (cxOf (L2N.CX P w) P w K mg base N qual sc f cd A outer s H E).A (cxOf (L2N.CX P w) P w K mg base N qual sc f cd A outer s H E).env (cxOf (L2N.CX P w) P w K mg base N qual sc f cd A outer s H E).xe := passes_of rfl
end
section
variable {X : Cx} {S C fI : Addr} {fld : Str} {k : Nat} {fd : FuncData} {ps : List Str} {x : Str} {e : Expr} {te : TE} {p pos pos' : Pos} {W : WX}
theorem ps_err (hc : X.calm = true) (tk : L2N.Takes X W) (T : ErrF X.K S C fI fld) (F : FnOk X.prog X.w X.K X.mg X.base CX0 1 fI fd ps (spInit C fld)) (hr : Room 2 X.A) (hb : Binds X.K fd ps []) (hg : Gl X x) (hm : X.mg x = some (.ref C)) (he : PE X e te)
    (hdb : (x == ("__debug__" : Str)) = false := by decide) (hs : starEach [e] X.env = (false, eval e X.env) :: starEach [] X.env := by rfl) : PS X (.Raise (some (.Call (.Name x p) [e] [] pos')) none pos) (tRaise C fld W te) :=
  L2N.ps_raise hc tk (pmk_errN T.T T.iC T.tI F hr hb hg hm (pa_cons he pa_nil hs) hdb hs rfl)
end
/-! ### a lambda's body at once: what it gives back or raises -/
def wpE (w : Wd) (te : XK → TE) (G : List Ent) (Q : D → Prop) (Xq : Xd → Prop) : Prop := ∀ σ F H, As w G σ F H → ∀ (k : VK) (E : XK), (∀ v d F' H', Same F F' → As w G σ F' H' → Rp w.K F' v d → Q d → k v H') → (∀ cls dx x F' H', Same F F' → As w G σ F' H' → XRep w.K F' H' cls dx x → Xq x → E cls dx H') → te E σ H k
section
variable {w : Wd} {G : List Ent} {Q : D → Prop} {tas : TA} {pre : List D → Prop} {post : List D → D → Prop} {xp : List D → Xd → Prop} {Xq : Xd → Prop}
theorem wpE_call (h : wpa w tas G fun ds => pre ds ∧ (∀ d, post ds d → Q d) ∧ ∀ x, xp ds x → Xq x) : wpE w (fun E => tCall (spX w.K pre post xp) [] E tas) G Q Xq := fun σ F H A k E z zx =>
  h σ F H A _ fun vs ds F1 H1 s1 A1 r1 q => ⟨F1, ds, A1.fh, by rw [List.append_nil]; exact r1, q.1, fun v d H' s r p => z v d _ H' (s1.trans A1.same) (A1.step s) r (q.2.1 d p), fun cls dx x H' s r p => zx cls dx x _ H' (s1.trans A1.same) (A1.step s) r (q.2.2 x p)⟩
end
/-- the script, and the table of codes of the def that holds lambdas -/
def tabP (K : PySem.W.Frag) (P : Addr) (q : Str) (a : Addr) (ns : List Int) : OwnP where
  ok := fun F H v qs => v = .ref a ∧ qs = [P] ∧ SqL K F a (ns.map V.int) ∧ ∃ ps : Array Value, H P = some (.tbl ps) ∧ TriplesOk ps.toList ∧ ∀ (pos : Pos) (cv : Value), codeAmong pos ps.toList = some cv → ∃ c, cv = .ref c ∧ F c = some (CodeO c q)
  step := fun {F F' H H' v qs} f k h => by
    obtain ⟨rfl, rfl, hs, ps, h1, h2, h3⟩ := h
    exact ⟨rfl, rfl, seqL_of f hs, ps, k _ _ (by simp) h1, h2, fun pos cv e => by
      obtain ⟨c, e1, e2⟩ := h3 pos cv e
      exact ⟨c, e1, f _ _ e2⟩⟩
section
variable {w : Wd} {G : List Ent} {Q : D → Prop} {P a : Addr} {q : Str} {ns : List Int} {i j : Nat} {t : XK → TE} {S CT CP fT fP : Addr}
theorem wp_tell {qual : Str} (e : G[i]? = some (.o (tabP w.K P q a ns))) (hq : qual = q) (T1 : ErrF w.K S CT fT "row") (T2 : ErrF w.K S CP fP "part") (hn : PySem.W.kitOne w.K (.ref CP) (.ref CT) = some false)
    (h : wpE w t G (fun d => Q (.tup [.str "value", d])) fun x => (∃ d, x = .e1 CT "row" d ∧ Q (.tup [.str "text", d])) ∨ ∃ d, x = .e1 CP "part" d ∧ Q (.tup [.str "program", d])) : wp w (tLamP P qual (TTell w.K S CT CP) t) G Q := fun σ F H A k z => by
  subst hq
  obtain ⟨v, qs, h1, ⟨ev, eq, hs, ps, hP, ht, hcs⟩, h5, up⟩ := A.own1 e
  subst ev eq
  refine ⟨⟨ps, hP, ht, fun pos cv e => ?_⟩, fun H1 hnew kq Eq hk hE => ?_⟩
  · obtain ⟨c, e1, e2⟩ := hcs pos cv e
    exact ⟨c, e1, A.fh _ _ e2⟩
  have FP : F P = none := (h5 P (by simp)).1
  have key : (∀ b u, b ≠ P → H b = some u → H1 b = some u) ∧ ∃ ps1 : Array Value, H1 P = some (.tbl ps1) ∧ TriplesOk ps1.toList ∧ ∀ (pos : Pos) (cv : Value), codeAmong pos ps1.toList = some cv → ∃ c, cv = .ref c ∧ c ≠ P ∧ (F c = some (CodeO c qual) ∨ (H c = none ∧ H1 c = some (CodeO c qual))) := by
    have nP : ∀ {c}, F c = some (CodeO c qual) → c ≠ P := fun {c} e z => by rw [z, FP] at e; cases e
    rcases hnew with rfl | ⟨ps', l, cl, c', hP', nc, rfl⟩
    · exact ⟨fun _ _ _ e => e, ps, hP, ht, fun pos cv e => by
        obtain ⟨c, e1, e2⟩ := hcs pos cv e
        exact ⟨c, e1, nP e2, .inl e2⟩⟩
    · rw [hP] at hP'
      cases hP'
      have eL : (ps ++ #[rawInt l, rawInt cl, .ref c']).toList = ps.toList ++ [rawInt l, rawInt cl, .ref c'] := by simp
      refine ⟨fun b u nb e => by rw [upd_ne (ne_of_none e nc), upd_ne nb]; exact e, _, by rw [upd_ne (ne_of_none hP nc), upd_same], by rw [eL]; exact PySem.TriplesOk_snoc _ _ _ _ ht, fun pos cv e => ?_⟩
      rw [eL] at e
      rcases among_app (pos := ⟨l, cl, 0, 0⟩) (p' := pos) _ ht e with z | z
      · obtain ⟨c, e1, e2⟩ := hcs pos cv z
        exact ⟨c, e1, nP e2, .inl e2⟩
      · exact ⟨c', z, (ne_of_none hP nc).symm, .inr ⟨nc, upd_same⟩⟩
  obtain ⟨fr, ps1, hP1, ht1, hc1⟩ := key
  have kF : ∀ b u, F b = some u → extBut F H H1 [P] b = some u := fun b u e => by
    have nb : b ≠ P := fun z => by rw [z, FP] at e; cases e
    unfold extBut
    rw [if_neg (by simpa using nb), ext_some (A.fh _ _ e)]; exact e
  obtain ⟨A1, s1⟩ := up (tabP w.K P qual a ns) H1 [P] (fun b u nb e => fr b u (by simpa using nb) e) (fun b hb => by
    obtain rfl : b = P := by simpa using hb
    rw [hP1]; exact fun z => nomatch z) (fun b hb => by
    obtain rfl : b = P := by simpa using hb
    exact ⟨.inl (by simp), by rw [hP1]; exact fun z => nomatch z⟩) ⟨rfl, rfl, seqL_of (fun b o e => kF b o e) hs, ps1, hP1, ht1, fun pos cv e => by
      obtain ⟨c, e1, e2, e3⟩ := hc1 pos cv e
      refine ⟨c, e1, ?_⟩
      rcases e3 with e3 | ⟨e3, e4⟩
      · exact kF _ _ e3
      · unfold extBut
        rw [if_neg (by simpa using e2), ext_none e3]; exact e4⟩
  have eG : G.set i (.o (tabP w.K P qual a ns)) = G := by
    apply List.ext_getElem?
    intro n
    by_cases hn : n = i
    · subst hn
      rw [List.getElem?_set_self (List.getElem?_eq_some_iff.mp e).1, e]
    · rw [List.getElem?_set_ne (Ne.symm hn)]
  rw [eG] at A1
  refine h σ _ H1 A1 kq Eq (fun v d F' H' s A' r qd => hk v H' fun p hp => ?_) fun cls dx x F' H' s A' rx qx => hE cls dx H' ?_
  · exact z _ _ _ _ ((s1.trans s).trans (same_new (A'.fh.free hp))) (A'.new hp) (.tup (ds := [.str "value", d]) upd_same (.cons (.str _) (.cons (r.mono (same_new (A'.fh.free hp))) .nil))) qd
  · have fin : ∀ {C f : Addr} {fld : Str} {d : D} {w' : Str} {dxa : Addr} {v : V}, H' dxa = some (.xd [(fld, v)]) → Rp w.K F' v d → Q (.tup [.str w', d]) → ∀ a' oe, H' a' = none → ∀ p, upd H' a' (ExV a' oe) p = none → k (.ref p) (upd (upd H' a' (ExV a' oe)) p (.tup [.str w', v])) := fun {C f fld d w' dxa v} hx r qd a' oe na p np => by
      have A2 := A'.new (o := ExV a' oe) na
      have n1 := same_new (o := ExV a' oe) (A'.fh.free na)
      have n2 := same_new (o := HO.tup [.str w', v]) (A2.fh.free np)
      exact z _ _ _ _ (((s1.trans s).trans n1).trans n2) (A2.new np) (.tup (ds := [.str w', d]) upd_same (.cons (.str _) (.cons ((r.mono n1).mono n2) .nil))) qd
    rcases qx with ⟨d, rfl, qd⟩ | ⟨d, rfl, qd⟩
    · obtain ⟨rfl, dxa, v, rfl, hx, r⟩ := rx
      exact ⟨CT, dxa, "row", v, rfl, rfl, hx, T1.ex, T1.xf, T1.no, T1.sub, .inl ⟨if_pos (beq_self_eq_true _), rfl, fin (C := CT) (f := CT) hx r qd⟩⟩
    · obtain ⟨rfl, dxa, v, rfl, hx, r⟩ := rx
      exact ⟨CP, dxa, "part", v, rfl, rfl, hx, T2.ex, T2.xf, T2.no, T2.sub, .inr ⟨hn, if_pos (beq_self_eq_true _), rfl, fin (C := CP) (f := CP) hx r qd⟩⟩
end
end Sd
set_option Elab.async false
set_option linter.all false
set_option maxRecDepth 100000
set_option maxHeartbeats 4000000
/-! E7: a law that holds lambdas: its start, its script; facts of error classes put together; the empty dict. -/
namespace Sd
open PySem PySem.Spec L2
open PyProof.Rows
open LamX

/-- a def whose code stands at c -/
structure FunC (K : PySem.W.Frag) (x qual : Str) (st : Stmt) (f : Addr) (fd : FuncData) (c : Addr) : Prop where
  ex : ∃ (oc : Value) (od : Option Addr) (kV doc pm : Value) (an : Option Addr) (ct : Value) (osl : Array (Option Value)),
    fd = PySem.W.fnOf x qual (defArgs st) (defBody st) (defScope st) .none kV doc pm an (.ref c) ct ∧ K.lookup f = some ⟨oc, od, .func fd, osl⟩ ∧ PySem.W.codeIn K (.ref c) qual = true
section
variable {P : Program} {w : World} {K : PySem.W.Frag} {mg : Str → Option Value} {base : Heap} {k : Nat} {x qual : Str} {st : Stmt} {f c : Addr} {fd : FuncData} {N ps : List Str} {sp : Sp}
theorem law_fnC (F : FunC K x qual st f fd c) (S : FnScope N ps (defScope st)) (len : ∀ vs H Q E, sp vs H Q E → vs.length = ps.length)
    (hbody : ∀ (A : Around) (outer : List Env) (s : Shared) (H : Hp) (vs : List V) (Q : VK) (E : XK), (A.deeper (envOfC qual (defScope st) s.heap.objs.size f (.ref c))).guards = some [] → Room k (A.deeper (envOfC qual (defScope st) s.heap.objs.size f (.ref c))) → sp vs H Q E →
      ∃ t, PSs (cxOf CX0 P w K mg base N qual (defScope st) f (.ref c) A outer s H E).nox (defBody st) t ∧ t { nx := fun _ H' => Q .non H', rt := Q } (start N vs) H) : LawRun P w K mg base (k + 1) f fd ps sp := by
  obtain ⟨oc, od, kV, doc, pm, an, ct, osl, rfl, lk, hcd⟩ := F.ex
  refine ⟨fun A outer s H args us vs Q E hgd hr e0 hb r hsp => ?_⟩
  have hl := len _ _ _ _ hsp
  have keep : ∀ b o, base.get? b = some o → s.heap.get? b = some o := fun b o e => (e0.bs b o e).1
  have KX := e0.mod.kin.keeps keep
  refine codeAny_call_function hr.depth (KX _ _ lk) rfl S.co S.gen rfl (PySem.W.codeRec_of KX hcd) (hb _ _ _ _ (wpAny_newFunctionEnv_cells S.kind (fun y hy => ?_) fun env he s1 x => ?_))
  · obtain ⟨n, v⟩ := y
    exact (S.par n (List.of_mem_zip hy).1).elim .inl fun q => .inr ⟨q, PySem.W.cellsFrom_some _ _ _ (.inl q)⟩
  subst he
  refine ⟨(e0.mod.nolimit.keeps keep).keeps x.toInCall.keep, codeAny_func ?_⟩
  obtain ⟨t, ht, hq⟩ := hbody A outer s H vs Q E hgd (hr.deeper _) hsp
  have I : Inv (cxOf CX0 P w K mg base N qual (defScope st) f (.ref c) A outer s H E) [] (start N vs) H s1 := inv_start S hr.hd e0 hl r x
  have fin : ∀ {σ' : L2.St} {H' : Hp} {v : V} {u : Value} {s' : Shared}, Inv (cxOf CX0 P w K mg base N qual (defScope st) f (.ref c) A outer s H E) [] σ' H' s' → RelV v u → Q v H' → CE outer P w H s Q u s' := fun J rv q => ⟨_, _, J.os, J.bare, J.base, J.hok, rv, q⟩
  refine wpAny_mono (ht.nox.run [] s1 (start N vs) H _ I hq) (fun fl s' hs => ?_) fun e s' hs => hs
  cases fl with
  | ret u =>
    obtain ⟨v, σ', H', J, rv, q⟩ := hs
    exact fin J rv q
  | next =>
    obtain ⟨σ', H', J, q⟩ := hs
    exact fin (v := V.non) (u := Value.none) J rfl q
  | _ => obtain ⟨_, _, _, q⟩ := hs; exact False.elim q
end
def spLawT (K : PySem.W.Frag) (P : Addr) : Sp := fun vs H Q _ => ∃ (a : Addr) (ns : List Int), vs = [.ref a] ∧ SqL K H a (ns.map V.int) ∧ ns.length ≤ 63 ∧ H P = some (.tbl #[]) ∧ ∀ H', Q (.bl true) H'
def startT (K : PySem.W.Frag) (P : Addr) (q : Str) (n : Nat) (a : Addr) (ns : List Int) : List Ent := .o (tabP K P q a ns) :: List.replicate (n - 1) .no
theorem as_scriptT {K : PySem.W.Frag} {P : Addr} {q : Str} {N : List Str} {H : Hp} {a : Addr} {ns : List Int} (hN : 1 ≤ N.length) (hs : SqL K H a (ns.map V.int)) (hP : H P = some (.tbl #[])) :
    As ⟨K, fun b => if b = P then none else H b, H, [P], []⟩ (startT K P q N.length a ns) (start N [.ref a]) (fun b => if b = P then none else H b) H := by
  have sm : Same (fun b => if b = P then none else H b) H := fun b o e => by
    dsimp only at e
    split at e
    · cases e
    · exact e
  have hs' : SqL K (fun b => if b = P then none else H b) a (ns.map V.int) := by
    have nP : ∀ {u : HO}, H a = some u → (∀ ps, u ≠ .tbl ps) → (fun b => if b = P then none else H b) a = some u := fun {u} e n => by
      show (if a = P then none else H a) = some u
      rw [if_neg (fun z => by rw [z, hP] at e; exact n _ (Option.some.inj e).symm)]
      exact e
    rcases hs with (h | ⟨o, h⟩) | h
    · exact .inl (.inl (nP h fun ps z => by cases z))
    · exact .inl (.inr ⟨o, nP h fun ps z => by cases z⟩)
    · exact .inr h
  refine ⟨?_, ⟨Same.refl _, sm, fun b o h => .inl h, fun b o _ h => h, fun b h => ?_, fun b o h => nomatch h⟩, fun i => if i = 0 then [P] else [], fun j e h => ?_, fun j b _ h => ?_, fun i j b _ _ h1 h2 => ?_, fun i b _ h o ho => nomatch ho⟩
  · unfold startT L2.start
    simp <;> omega
  · obtain rfl : b = P := by simpa using h
    exact ⟨if_pos rfl, by rw [hP]; exact fun z => nomatch z⟩
  · cases j with
    | zero =>
      cases h
      exact ⟨.ref a, start_at rfl, rfl, rfl, hs', #[], hP, True.intro, fun pos cv e => by simp [codeAmong] at e⟩
    | succ j =>
      change (List.replicate (N.length - 1) Ent.no)[j]? = some e at h
      rw [List.getElem?_replicate] at h
      split at h
      · cases h; rfl
      · cases h
  · dsimp only at h
    split at h
    · obtain rfl : b = P := by simpa using h
      exact ⟨if_pos rfl, by rw [hP]; exact fun z => (nomatch z), .inl (by simp)⟩
    · cases h
  · dsimp only at h1 h2
    split at h1
    · split at h2
      · omega
      · cases h2
    · cases h1
theorem spLawT_body {K : PySem.W.Frag} {P : Addr} (q : Str) {N : List Str} (hN : 1 ≤ N.length) {t : TS} {vs : List V} {H : Hp} {Q : VK} {E : XK}
    (b : ∀ (F0 H0 : Hp) (a : Addr) (ns : List Int), ns.length ≤ 63 → wps ⟨K, F0, H0, [P], []⟩ t (startT K P q N.length a ns) (fun _ => False) (fun _ d => d = .bl true)) (h : spLawT K P vs H Q E) :
    t { nx := fun _ H' => Q .non H', rt := Q } (start N vs) H := by
  obtain ⟨a, ns, rfl, hs, hl, hP, z⟩ := h
  refine b _ H a ns hl _ _ _ _ (as_scriptT (q := q) hN hs hP) (fun _ _ _ _ _ _ z => z.elim) fun G' σ' v d F' H' s A r z' => ?_
  subst z'
  cases r
  exact z H'
section
variable {w : Wd} {G : List Ent} {i j : Nat} {N : List Ent → Prop} {R : List Ent → D → Prop} {E : XK} {P a : Addr} {q : Str} {ns : List Int} {Q : D → Prop}
theorem tab_at {σ : L2.St} {F H : Hp} (A : As w G σ F H) (e : G[j]? = some (.o (tabP w.K P q a ns))) : σ[j]? = some (some (.ref a)) ∧ SqL w.K H a (ns.map V.int) := by
  obtain ⟨v, qs, h1, ⟨rfl, _, hs, _⟩, _, _⟩ := A.own1 e
  exact ⟨h1, seqL_of A.fh hs⟩
theorem wp_lenT (e : G[i]? = some (.o (tabP w.K P q a ns))) (z : Q (.int ns.length)) : wp w (tCB (fun xs H Q => ∃ x n, xs = [x] ∧ LenV w.K x H n ∧ Q (.int n) H) (tCons (tVar i) tNil)) G Q := fun σ F H A k zz => by
  obtain ⟨h1, h2⟩ := tab_at A e
  refine ⟨_, h1, _, ns.length, rfl, .inl ⟨_, h2, by rw [List.length_map]⟩, zz _ _ F H (Same.refl _) A (.int _) z⟩
theorem wps_stateT (e : G[j]? = some (.o (tabP w.K P q a ns))) (hi : i < G.length) (hl : ns.length ≤ 63) (h : ∀ p c, N (G.set i (.dr p c))) :
    wps w (tAsg (tCall (spState w.K) [] E (tCons (tVar j) tNil)) (gName i)) G N R := fun σ F H En A n r => by
  obtain ⟨h1, h2⟩ := tab_at A e
  refine ⟨.ref a, h1, a, ns, rfl, h2, hl, fun H' p c s hp hc hd => ?_⟩
  have hq : ∀ b, b ∈ [p, c] → H b = none ∧ H' b ≠ none := fun b hb => by
    obtain ⟨h1, i, m, ms, h2, h3, _⟩ := hd
    rcases List.mem_cons.mp hb with rfl | hb
    · exact ⟨hp, by rw [h2]; exact fun z => nomatch z⟩
    · obtain rfl : b = c := by simpa using hb
      exact ⟨hc, by rw [h3]; exact fun z => nomatch z⟩
  obtain ⟨A1, s1⟩ := A.putNew hi (drP p c) s hq ⟨rfl, rfl, hd⟩
  have A2 := A1.conv (i := i) (e' := .dr p c) (List.getElem?_set_self hi) fun s qs ⟨v, h1, h2, h3, h4⟩ => ⟨h3, by rw [h1, h2], h4⟩
  rw [List.set_set] at A2
  exact n _ _ _ _ s1 A2 (h p c)
/-- {} -/
theorem wp_dic (z : Q .dic) : wp w tDNewK G Q := fun σ F H A k zz p hp => zz _ _ _ _ (same_new (A.fh.free hp)) (A.new hp) (.dic upd_same) z
end
theorem passL {X : Cx} {A : Around} {outer : List Env} {s : Shared} {H : Hp} {E : XK} {scope : Scope} {f c' : Addr} : Passes (L2N.CX X.prog X.w) (lamCx X A outer s H E scope f c') E := passesN (W := fun cls d _ H => E cls d H) (takes_of rfl rfl rfl rfl) fun _ _ _ _ h => h
/-- a teller x called with a lambda -/
theorem pe_lamOf {X : Cx} {TT : (XK → Hp → VK → Prop) → Hp → VK → Prop} {x a qual : Str} {st : Stmt} {fd : FuncData} {g c P : Addr} {k : Nat} {Ng : List Str} {params : Arguments} {body : Expr} {scope : Scope} {t : XK → TE} {p lpos pos : Pos} (hg : Gl X x) (hm : X.mg x = some (.ref g)) (F : Fun X.K x x st g fd) (hb : L2.Binds X.K fd [a] [])
    (Sg : FnScope Ng [a] (defScope st)) (hNg : Ng[0]? = some a) (hva : Vis (defScope st) a) (hG : ∀ cdg, GivesTo X Ng x (defScope st) g cdg (defBody st) a (X.env.qual ++ "<lambda>") TT) (hql : qual = X.env.qual ++ "<lambda>")
    (TB : TabB X.base X.mg c P) (hcode : X.env.code = .ref c) (hr : Room (k + 2) X.A) (L : LamS X.env.scope scope) (hdef : defaultsOf params X.env = ([], []))
    (hbind : ∀ (q : Str) (cl : List (Str × Addr)) (pm cv ctv : Value), bindArgs (PySem.W.kla_fn "<lambda>" q params body scope cl pm cv ctv) ⟨[], []⟩ = pure [])
    (hbody : ∀ (A : Around) (outer : List Env) (s : Shared) (H : Hp) (E : XK) (f c' : Addr), Room k (A.deeper (lamEnv X scope s.heap.objs.size f c')) → PE (lamCx X A outer s H E scope f c') body (t E))
    (hdb : (x == ("__debug__" : Str)) = false := by decide) (hd : (a == ("__debug__" : Str)) = false := by decide) (hcd : (a == ("__classdict__" : Str)) = false := by decide) :
    PE X (.Call (.Name x p) [.Lambda params body scope lpos] [] pos) (tLamP P qual TT t) := by
  obtain ⟨oc, od, kV, doc, pm, an, cdv, ct, osl, rfl, lk, hcg⟩ := F.ex
  exact pe_lamP hg hm F.kp lk hcg hb Sg hNg hva (hG cdv) hql TB hcode hr L hdef hbind hbody hdb hd hcd
section
variable {K : PySem.W.Frag} {C f cc cda S : Addr} {qual x fld msg : Str} {st : Stmt} {kV doc pm ct oc ccl cl : Value} {an od cdd cld : Option Addr} {osl ccs csl : Array (Option Value)} {vs : Array Value} {tf : Tok} {j : Nat} {p0 p1 p2 p3 p4 p5 p6 p7 p8 p9 : Pos} {ar : Arg}
theorem iniF_mk {P : Program} (hP : PF P) (hbody : defBody st = initBody msg fld x j p0 p1 p2 p3 p4 p5 p6 p7 p8 p9) (l : K.lookup f = some ⟨oc, od, .func (PySem.W.fnX "__init__" qual (defArgs st) (defBody st) (defScope st) [("__class__", cc)] .none kV doc pm an (.ref cda) ct), osl⟩)
    (hcd : PySem.W.codeIn K (.ref cda) qual = true) (hcode : K.lookup cda = some ⟨ccl, cdd, .fields vs, ccs⟩) (hvs : vs[2]? = some (.str "/claim/cut.py" tf))
    (hcell : K.lookup cc = some ⟨cl, cld, .cell (some (.ref C)), csl⟩) (T : OexC K C) (hno : PySem.W.findIn K (.ref C) fld = some none) (hop : PySem.W.nsIn K cStatics "thirdparty.any" = some none)
    (hm : PySem.W.ks_superIn K C C "__init__" = some (some (.builtin "ValueError.__init__"))) (hB : PySem.W.subIn K (.ref C) (.type "ValueError") = some true) (hsub : PySem.W.mroIn K C (.ref C) = some true)
    (hp : ((defArgs st).posonlyargs ++ (defArgs st).args).head? = some ar) (har : ar.arg = "self")
    (hks : (defScope st).names.lookup ("super" : Str) = some .globalImplicit) (hkc : (defScope st).names.lookup ("__class__" : Str) = some .free) (hs1 : (defScope st).names.lookup ("self" : Str) = some .local) (hs2 : (defScope st).names.lookup x = some .local)
    (hnc : ((defScope st).names.all fun y => decide (y.2 ≠ .cell)) = true) (hk : (defScope st).kind = .function) (hco : (defScope st).isCoroutine = false) (hgen : (defScope st).isGenerator = false) (hxs : decide (x = "self") = false) (hxd : (x == ("__debug__" : Str)) = false)
    (hsw : ∀ (env : Env) (n : Nat), swapsWith (.Name x p8) (some (.Attribute (.Name "self" p6) fld p7)) n env = pure false)
    (hev : ∀ (fd : FuncData) (L : Addr), fd.scope = defScope st → ∃ pl : Sem Bool, eval (.Call (.Attribute (.Call (.Name "super" p0) [] [] p1) "__init__" p2) [.Constant (.str msg) j p3] [] p4) (callEnv fd L f) = (do
      let ov ← attributeBase (.Call (.Name "super" p0) [] [] p1) "__init__" (callEnv fd L f) (eval (.Call (.Name "super" p0) [] [] p1) (callEnv fd L f))
      standAt p2.atName
      let (g, first) ← holding [ov] (getMethod ov "__init__" pl)
      callWith p4 g first (backTo p4 (starEach [.Constant (.str msg) j p3] (callEnv fd L f))) [])) :
    IniF P K C f (PySem.W.fnX "__init__" qual (defArgs st) (defBody st) (defScope st) [("__class__", cc)] .none kV doc pm an (.ref cda) ct) fld x := by
  refine ⟨fun w mg base hsup => ?_⟩
  rw [hbody] at l ⊢
  exact init_ok l hcd hcode hvs hP.file hcell T hno hsup hop hm hB hsub hp har hks hkc hs1 hs2 (fun y hy => of_decide_eq_true (List.all_eq_true.mp hnc y hy)) hk hco hgen (of_decide_eq_false hxs) hxd (fun L => hev _ L rfl) hP.top hsw
theorem errF_mk {nm q : Str} {N : Addr} {bs bm sub : List Value} {sn : List Str} {ab : Bool} {col : Option Bool} {dd : Option Addr} {k0 k1 k2 k3 k5 : Option Value} {fi : Addr} (h1 : K.lookup C = some (excClassObj nm q C N bs bm true sn sub ab col dd k0 k1 k2 k3 k5 "ValueError.__new__")) (h2 : PySem.HandSPX.refsVE bm = true)
    (h3 : PySem.W.findIn K (.ref C) "__setattr__" = some (some (.builtin "object.__setattr__"))) (h4 : PySem.W.subIn K (.ref C) (.type "BaseException") = some true) (h5 : PySem.W.typeIn K (.ref C) = some (.type "type")) (h6 : PySem.W.keepIn K (.ref C) = true)
    (h7 : PySem.W.findIn K (.ref C) "__getattribute__" = some (some (.builtin "BaseException.__getattribute__"))) (h8 : PySem.W.findIn K (.ref C) "__getattr__" = some none) (h9 : PySem.W.hasDictIn K C = true) (h10 : PySem.W.findIn K (.ref C) "__class__" = some (some (.builtin "object.__class__")))
    (h11 : PySem.W.specialIn K (.builtin "object.__class__") "__get__" = some (some (.builtin "getset_descriptor.__get__"))) (h12 : PySem.W.takesIn K (.builtin "object.__class__") = some true) (h13 : PySem.W.mroIn K C (.type "object") = some true) (h14 : PySem.W.findIn K (.ref C) fld = some none)
    (h15 : PySem.W.findIn K (.ref C) "__init__" = some (some (.ref fi))) (h16 : PySem.W.typeIn K (.ref fi) = some (.type "function")) (h17 : PySem.W.subIn K (.ref S) (.type "BaseException") = some true) (h18 : PySem.W.hasDictIn K S = true) (h19 : PySem.W.typeIn K (.ref S) = some (.type "type")) (h20 : PySem.W.subIn K (.ref C) (.ref S) = some true) : ErrF K S C fi fld :=
  ⟨⟨⟨_, _, _, _, _, _, _, _, _, _, _, _, _, _, _, h1, h2⟩, h3, h4, h5, h6⟩, ⟨h7, h8, h4, h9, h10, h11, h12, h13⟩, ⟨h7, h8, h4, h9⟩, h14, h15, h16, PySem.W.exm_ref h17 h18 h19 h20⟩
end
end Sd
set_option Elab.async false
set_option linter.all false
set_option maxRecDepth 100000
set_option maxHeartbeats 4000000
/-! E8: an own thing set aside while something else is reckoned; a list of lists of one's own; lists that are to be empty. -/
namespace Sd
open PySem PySem.Spec L2

/-- what is left of an entry while all that is own is set aside but what may be used -/
def asd : Ent → Ent
  | .l _ => .no
  | e => e
open Classical in
theorem As.aside {w : Wd} {G : List Ent} {σ : L2.St} {F H : Hp} {i : Nat} {x : OwnP} (A : As w G σ F H) (e : G[i]? = some (.o x)) : ∃ v qs O', σ[i]? = some (some v) ∧ x.ok F H v qs ∧ (∀ a, a ∈ qs → F a = none ∧ H a ≠ none) ∧ As ⟨w.K, F, H, O', []⟩ ((G.map asd).set i (.v v)) σ F H ∧
    ∀ F' H', As ⟨w.K, F, H, O', []⟩ ((G.map asd).set i (.v v)) σ F' H' → Same F F' ∧ (∀ a, a ∈ qs → ∀ o, H a = some o → H' a = some o) ∧ As w G σ F' H' := by
  obtain ⟨q, Q⟩ := A.get
  have hi := (List.getElem?_eq_some_iff.mp e).1
  obtain ⟨v, hv, hok⟩ := Q.ok i _ e
  let isL : Nat → Prop := fun j => ∃ xs, G[j]? = some (.l xs)
  let O' : List Addr := ((List.range G.length).filter fun j => decide (j ≠ i ∧ ¬ isL j)).flatMap q ++ w.O.filter fun a => decide (a ∉ q i)
  have mO : ∀ {a : Addr}, a ∈ O' → (∃ j, j < G.length ∧ j ≠ i ∧ ¬ isL j ∧ a ∈ q j) ∨ (a ∈ w.O ∧ a ∉ q i) := fun {a} h => by
    rcases List.mem_append.mp h with h | h
    · obtain ⟨j, hj, ha⟩ := List.mem_flatMap.mp h
      obtain ⟨h1, h2⟩ := List.mem_filter.mp hj
      have h2 := of_decide_eq_true h2
      exact .inl ⟨j, List.mem_range.mp h1, h2.1, h2.2, ha⟩
    · obtain ⟨h1, h2⟩ := List.mem_filter.mp h
      exact .inr ⟨h1, of_decide_eq_true h2⟩
  have inO1 : ∀ {a : Addr} {j : Nat}, j < G.length → j ≠ i → ¬ isL j → a ∈ q j → a ∈ O' := fun {a j} h1 h2 h3 ha => List.mem_append.mpr (.inl (List.mem_flatMap.mpr ⟨j, List.mem_filter.mpr ⟨List.mem_range.mpr h1, decide_eq_true ⟨h2, h3⟩⟩, ha⟩))
  have inO2 : ∀ {a : Addr}, a ∈ w.O → a ∉ q i → a ∈ O' := fun {a} h1 h2 => List.mem_append.mpr (.inr (List.mem_filter.mpr ⟨h1, decide_eq_true h2⟩))
  have ownO : ∀ {a : Addr}, a ∈ O' → F a = none ∧ H a ≠ none := fun {a} h => by
    rcases mO h with ⟨j, h1, _, _, ha⟩ | ⟨h1, _⟩
    · exact ⟨(Q.at_ j a h1 ha).1, (Q.at_ j a h1 ha).2.1⟩
    · exact A.base.own a h1
  have niO : ∀ {a : Addr}, a ∈ q i → a ∉ O' := fun {a} ha h => by
    rcases mO h with ⟨j, h1, h2, _, hb⟩ | ⟨_, h2⟩
    · exact h2 (Q.dis j i a h1 hi hb ha)
    · exact h2 ha
  have lO : ∀ {a : Addr} {j : Nat}, j < G.length → isL j → a ∈ q j → a ∉ O' := fun {a j} hj hL ha h => by
    obtain ⟨xs, el⟩ := hL
    obtain ⟨a', vs, eq, nO, _⟩ := Q.ok j _ el
    rcases mO h with ⟨k, h1, _, h3, hb⟩ | ⟨h1, _⟩
    · obtain rfl := Q.dis k j a h1 hj hb ha
      exact h3 ⟨xs, el⟩
    · rw [eq] at ha
      obtain rfl : a = a' := by simpa using ha
      exact nO h1
  have gm : ∀ {j : Nat} {e' : Ent}, ((G.map asd).set i (.v v))[j]? = some e' → (j = i ∧ e' = .v v) ∨ (j ≠ i ∧ ∃ e0, G[j]? = some e0 ∧ e' = asd e0) := fun {j e'} h => by
    by_cases hj : j = i
    · subst hj
      rw [List.getElem?_set_self (by rw [List.length_map]; exact hi)] at h
      cases h
      exact .inl ⟨rfl, rfl⟩
    · rw [List.getElem?_set_ne (Ne.symm hj), List.getElem?_map] at h
      cases e0 : G[j]? with
      | none => rw [e0] at h; cases h
      | some u => rw [e0] at h; cases h; exact .inr ⟨hj, u, rfl, rfl⟩
  refine ⟨v, q i, O', hv, hok, fun a ha => ⟨(Q.at_ i a hi ha).1, (Q.at_ i a hi ha).2.1⟩, ?_, fun F' H' A' => ?_⟩
  · refine ⟨by rw [List.length_set, List.length_map]; exact A.len, ⟨Same.refl _, A.fh, fun a o h => .inl h, fun a o _ h => h, fun a h => ownO h, fun a o h => nomatch h⟩, fun j => if j = i ∨ isL j then [] else q j, fun j e' h => ?_, fun j a hj ha => ?_, fun j k a hj hk ha hb => ?_, fun j a _ _ o h => nomatch h⟩
    · dsimp only
      rcases gm h with ⟨rfl, rfl⟩ | ⟨hj, e0, h0, rfl⟩
      · rw [if_pos (.inl rfl)]
        exact ⟨rfl, hv⟩
      · have k := Q.ok j _ h0
        cases e0 with
        | l xs => rw [if_pos (.inr ⟨xs, h0⟩)]; rfl
        | no => rw [if_neg (fun z => Or.elim z hj fun ⟨xs, z⟩ => by rw [h0] at z; cases z)]; exact k
        | d x => rw [if_neg (fun z => Or.elim z hj fun ⟨xs, z⟩ => by rw [h0] at z; cases z)]; exact k
        | v x => rw [if_neg (fun z => Or.elim z hj fun ⟨xs, z⟩ => by rw [h0] at z; cases z)]; exact k
        | dr p c => rw [if_neg (fun z => Or.elim z hj fun ⟨xs, z⟩ => by rw [h0] at z; cases z)]; exact k
        | o y => rw [if_neg (fun z => Or.elim z hj fun ⟨xs, z⟩ => by rw [h0] at z; cases z)]; exact k
    · rw [List.length_set, List.length_map] at hj
      dsimp only at ha
      split at ha
      · cases ha
      · rename_i hn
        exact ⟨(Q.at_ j a hj ha).1, (Q.at_ j a hj ha).2.1, .inl (inO1 hj (fun z => hn (.inl z)) (fun z => hn (.inr z)) ha)⟩
    · rw [List.length_set, List.length_map] at hj hk
      dsimp only at ha hb
      split at ha
      · cases ha
      · split at hb
        · cases hb
        · exact Q.dis j k a hj hk ha hb
  · have sF : Same F F' := A'.base.f0
    obtain ⟨q', Q'⟩ := A'.get
    have kp : ∀ {a : Addr} {o : HO}, a ∉ O' → H a = some o → H' a = some o := fun {a o} h e => A'.base.keep a o h e
    have fn : ∀ {a : Addr}, F a = none → H a ≠ none → F' a = none := fun {a} h1 h2 => by
      cases z : F' a with
      | none => rfl
      | some u =>
        rcases A'.base.src a u z with y | y
        · rw [show F a = some u from y] at h1; cases h1
        · exact absurd y h2
    have h0n : ∀ {a : Addr}, H a = none → w.H0 a = none := fun {a} h => by
      cases z : w.H0 a with
      | none => rfl
      | some u =>
        by_cases ho : a ∈ w.O
        · exact absurd h (A.base.own a ho).2
        · rw [A.base.keep a u ho z] at h; cases h
    have old : ∀ {a : Addr}, a ∉ O' → H a ≠ none → H' a ≠ none := fun {a} h h2 => by
      cases z : H a with
      | none => exact absurd z h2
      | some u => rw [kp h z]; exact fun y => nomatch y
    have len' : ∀ {j : Nat}, j < G.length → j < ((G.map asd).set i (.v v)).length := fun {j} h => by rw [List.length_set, List.length_map]; exact h
    have new : ∀ {a : Addr} {j : Nat}, j < G.length → a ∈ q' j → a ∈ O' ∨ H a = none := fun {a j} hj ha => (Q'.at_ j a (len' hj) ha).2.2
    have side : ∀ {a : Addr} {j : Nat}, j < G.length → (j = i ∨ isL j) → a ∈ q j → a ∉ O' ∧ H a ≠ none := fun {a j} hj h ha => by
      refine ⟨?_, (Q.at_ j a hj ha).2.1⟩
      rcases h with rfl | h
      · exact niO ha
      · exact lO hj h ha
    refine ⟨sF, fun a ha o e => kp (niO ha) e, ⟨by have := A'.len; rw [List.length_set, List.length_map] at this; exact this, ⟨A.base.f0.trans sF, A'.base.fh, fun a o h => ?_, fun a o ha h => ?_, fun a ha => ?_, fun a o ha => ?_⟩, fun j => if j = i ∨ isL j then q j else q' j, fun j e' h => ?_, fun j a hj ha => ?_, fun j k a hj hk ha hb => ?_, fun j a hj ha o ho => ?_⟩⟩
    · rcases A'.base.src a o h with y | y
      · exact A.base.src a o y
      · exact .inr (h0n y)
    · have e1 := A.base.keep a o ha h
      refine kp (fun z => ?_) e1
      rcases mO z with ⟨j, h1, _, _, hb⟩ | ⟨h1, _⟩
      · rcases (Q.at_ j a h1 hb).2.2 with y | y
        · exact ha y
        · rw [h] at y; cases y
      · exact ha h1
    · obtain ⟨h1, h2⟩ := A.base.own a ha
      refine ⟨fn h1 h2, ?_⟩
      by_cases hq : a ∈ q i
      · exact old (niO hq) h2
      · exact (A'.base.own a (inO2 ha hq)).2
    · obtain ⟨h1, h2, h3, h4⟩ := A.base.pend a o ha
      refine ⟨fn h1 (by rw [h2]; exact fun y => nomatch y), kp (fun z => ?_) h2, h3, h4⟩
      rcases mO z with ⟨j, h5, _, _, hb⟩ | ⟨h5, _⟩
      · exact Q.pd j a h5 hb o ha
      · exact h4 h5
    · dsimp only
      have hj := (List.getElem?_eq_some_iff.mp h).1
      by_cases hji : j = i
      · subst hji
        rw [if_pos (.inl rfl)]
        rw [e] at h
        cases h
        exact (Q.ok j _ e).step sF fun a o ha y => kp (niO ha) y
      · by_cases hL : isL j
        · rw [if_pos (.inr hL)]
          exact (Q.ok j _ h).step sF fun a o ha y => kp (lO hj hL ha) y
        · rw [if_neg (fun z => Or.elim z hji hL)]
          have k := Q'.ok j (asd e') (by rw [List.getElem?_set_ne (Ne.symm hji), List.getElem?_map, h]; rfl)
          cases e' with
          | l xs => exact absurd ⟨xs, h⟩ hL
          | no => exact k
          | d x => exact k
          | v x => exact k
          | dr p c => exact k
          | o y => exact k
    · dsimp only at ha
      split at ha
      · rename_i hs
        obtain ⟨h1, h2⟩ := side hj hs ha
        obtain ⟨h3, _, h4⟩ := Q.at_ j a hj ha
        exact ⟨fn h3 h2, old h1 h2, h4⟩
      · obtain ⟨h1, h2, h3⟩ := Q'.at_ j a (len' hj) ha
        refine ⟨h1, h2, ?_⟩
        rcases h3 with y | y
        · rcases mO y with ⟨k, h5, _, _, hb⟩ | ⟨h5, _⟩
          · exact (Q.at_ k a h5 hb).2.2
          · exact .inl h5
        · exact .inr (h0n y)
    · dsimp only at ha hb
      split at ha
      · rename_i hs
        split at hb
        · exact Q.dis j k a hj hk ha hb
        · obtain ⟨h1, h2⟩ := side hj hs ha
          exact Or.elim (new hk hb) (fun z => absurd z h1) (fun z => absurd z h2)
      · split at hb
        · rename_i hs
          obtain ⟨h1, h2⟩ := side hk hs hb
          exact Or.elim (new hj ha) (fun z => absurd z h1) (fun z => absurd z h2)
        · exact Q'.dis j k a (len' hj) (len' hk) ha hb
    · obtain ⟨h1, h2, h3, h4⟩ := A.base.pend a o ho
      dsimp only at ha
      split at ha
      · exact Q.pd j a hj ha o ho
      · rcases new hj ha with y | y
        · rcases mO y with ⟨k, h5, _, _, hb⟩ | ⟨h5, _⟩
          · exact Q.pd k a h5 hb o ho
          · exact h4 h5
        · rw [h2] at y; cases y
end Sd
set_option Elab.async false
set_option linter.all false
set_option maxRecDepth 100000
set_option maxHeartbeats 4000000
/-! E9: a list of lists of one's own: parts read, grown, set; lists asked for emptiness. -/
namespace Sd
open PySem PySem.Spec L2

def LolAt (K : PySem.W.Frag) (F H : Hp) : List Addr → List (List D) → Prop
  | [], [] => True
  | a :: as, xs :: xss => (∃ vs, H a = some (.lst vs) ∧ RpL K F vs xs) ∧ LolAt K F H as xss
  | _, _ => False
section
variable {K : PySem.W.Frag} {F F' H H' : Hp}
theorem LolAt.step (f : Same F F') : ∀ {as : List Addr} {xss : List (List D)}, (∀ a o, a ∈ as → H a = some o → H' a = some o) → LolAt K F H as xss → LolAt K F' H' as xss
  | [], [], _, _ => True.intro
  | [], _ :: _, _, h => h.elim
  | _ :: _, [], _, h => h.elim
  | a :: as, xs :: xss, k, ⟨⟨vs, h1, h2⟩, h3⟩ => ⟨⟨vs, k _ _ (by simp) h1, h2.mono f⟩, LolAt.step f (fun b o hb => k b o (by simp [hb])) h3⟩
theorem LolAt.get : ∀ {as : List Addr} {xss : List (List D)} {n : Nat} {xs : List D}, LolAt K F H as xss → xss[n]? = some xs → ∃ a vs, as[n]? = some a ∧ H a = some (.lst vs) ∧ RpL K F vs xs
  | [], [], n, xs, _, e => by simp at e
  | [], _ :: _, _, _, h, _ => h.elim
  | _ :: _, [], _, _, h, _ => h.elim
  | a :: as, ys :: xss, 0, xs, ⟨⟨vs, h1, h2⟩, _⟩, e => by
    simp only [List.getElem?_cons_zero, Option.some.injEq] at e
    subst e
    exact ⟨a, vs, rfl, h1, h2⟩
  | a :: as, ys :: xss, n + 1, xs, ⟨_, h3⟩, e => by
    rw [List.getElem?_cons_succ] at e
    obtain ⟨b, vs, e1, r⟩ := LolAt.get h3 e
    exact ⟨b, vs, by rw [List.getElem?_cons_succ]; exact e1, r⟩
theorem LolAt.put {a : Addr} {vs : List V} {ys : List D} (f : Same F F') (ha : H' a = some (.lst vs)) (hr : RpL K F' vs ys) : ∀ {as : List Addr} {xss : List (List D)} {n : Nat}, as[n]? = some a → as.Nodup → (∀ b o, b ∈ as → b ≠ a → H b = some o → H' b = some o) → LolAt K F H as xss → LolAt K F' H' as (xss.set n ys)
  | [], [], n, e, _, _, _ => by simp at e
  | [], _ :: _, _, _, _, _, h => h.elim
  | _ :: _, [], _, _, _, _, h => h.elim
  | b :: as, xs :: xss, 0, e, nd, k, ⟨_, h3⟩ => by
    simp only [List.getElem?_cons_zero, Option.some.injEq] at e
    subst e
    exact ⟨⟨vs, ha, hr⟩, h3.step f fun c o hc => k c o (by simp [hc]) fun z => (List.nodup_cons.mp nd).1 (by rw [← z]; exact hc)⟩
  | b :: as, xs :: xss, n + 1, e, nd, k, ⟨⟨us, h1, h2⟩, h3⟩ => by
    rw [List.getElem?_cons_succ] at e
    have hne : b ≠ a := fun z => (List.nodup_cons.mp nd).1 (by rw [z]; exact List.mem_of_getElem? e)
    exact ⟨⟨us, k _ _ (by simp) hne h1, h2.mono f⟩, LolAt.put f ha hr e (List.nodup_cons.mp nd).2 (fun c o hc => k c o (by simp [hc])) h3⟩
theorem LolAt.rp {F2 : Hp} (f : Same F F2) : ∀ {as : List Addr} {xss : List (List D)}, (∀ a, a ∈ as → F2 a = H a) → LolAt K F H as xss → RpL K F2 (as.map V.ref) (xss.map D.lst)
  | [], [], _, _ => .nil
  | [], _ :: _, _, h => h.elim
  | _ :: _, [], _, h => h.elim
  | a :: as, xs :: xss, k, ⟨⟨vs, h1, h2⟩, h3⟩ => .cons (.lst (by rw [k a (by simp)]; exact h1) (h2.mono f)) (LolAt.rp f (fun b hb => k b (by simp [hb])) h3)
end
def lolP (K : PySem.W.Frag) (p : Addr) (xss : List (List D)) : OwnP where
  ok := fun F H v qs => v = .ref p ∧ ∃ as : List Addr, qs = p :: as ∧ (p :: as).Nodup ∧ H p = some (.lst (as.map V.ref)) ∧ LolAt K F H as xss
  step := fun {F F' H H' v qs} f k h => by
    obtain ⟨rfl, as, rfl, nd, h1, h2⟩ := h
    exact ⟨rfl, as, rfl, nd, k _ _ (by simp) h1, h2.step f fun a o ha => k a o (by simp [ha])⟩
theorem lolP_at {K : PySem.W.Frag} : AtRef (lolP K) := fun a s F H v qs h => h.1
abbrev lolD (xss : List (List D)) : D := .lst (xss.map D.lst)
theorem pk_lol {K : PySem.W.Frag} {p : Addr} {xss : List (List D)} : PkOk K (.o (lolP K p xss)) (.d (lolD xss)) := fun w w' F H F2 s qs hw hw' h f q => by
  obtain ⟨v, h1, rfl, as, rfl, nd, h2, h3⟩ := h
  exact ⟨rfl, .ref p, h1, by rw [hw']; exact .lst (by rw [q p (by simp)]; exact h2) (h3.rp f fun a ha => q a (by simp [ha]))⟩
section
variable {w : Wd} {G : List Ent} {N : List Ent → Prop} {R : List Ent → D → Prop} {te ta : TE} {i j n : Nat} {p : Addr} {xss : List (List D)} {xs : List D} {Q : D → Prop}
/-- the n-th list's object -/
theorem lol_get {σ : L2.St} {F H : Hp} (A : As w G σ F H) (e : G[i]? = some (.o (lolP w.K p xss))) (hn : xss[n]? = some xs) : ∃ (as : List Addr) (a : Addr) (vs : List V), σ[i]? = some (some (.ref p)) ∧ H p = some (.lst (as.map V.ref)) ∧ as[n]? = some a ∧ H a = some (.lst vs) ∧ RpL w.K F vs xs := by
  obtain ⟨v, qs, h1, ⟨rfl, as, rfl, nd, h2, h3⟩, _⟩ := A.own1 e
  obtain ⟨a, vs, e1, e2, e3⟩ := h3.get hn
  exact ⟨as, a, vs, h1, h2, e1, e2, e3⟩
/-- the n-th list gets other items -/
theorem lol_put {σ : L2.St} {F H : Hp} {as : List Addr} {a : Addr} {vs : List V} {ys : List D} (A : As w G σ F H) (e : G[i]? = some (.o (lolP w.K p xss))) (h2 : H p = some (.lst (as.map V.ref))) (ha : as[n]? = some a) (r : RpL w.K F vs ys) :
    ∃ F', Same F F' ∧ As w (G.set i (.o (lolP w.K p (xss.set n ys)))) σ F' (upd H a (.lst vs)) := by
  obtain ⟨v, qs, h1, ⟨rfl, as', rfl, nd, g2, h3⟩, h5, up⟩ := A.own1 e
  have ea : as' = as := by
    rw [h2] at g2
    have := Option.some.inj g2
    simp only [HO.lst.injEq] at this
    exact (List.map_inj_right (fun x y h => by cases h; rfl)).mp this.symm
  subst ea
  have am : a ∈ as' := List.mem_of_getElem? ha
  have pa : p ≠ a := fun z => (List.nodup_cons.mp nd).1 (by rw [z]; exact am)
  have hn : ∀ b, b ∈ p :: as' → upd H a (.lst vs) b ≠ none := fun b hb => by
    by_cases z : b = a
    · rw [z, upd_same]; exact fun y => nomatch y
    · rw [upd_ne z]; exact (h5 b hb).2
  have sm : Same F (extBut F H (upd H a (.lst vs)) (p :: as')) := same_extBut A.fh fun b hb => (h5 b hb).1
  obtain ⟨A2, s2⟩ := up (lolP w.K p (xss.set n ys)) (upd H a (.lst vs)) (p :: as') (fun b u hb e => by rw [upd_ne (fun z => hb (by rw [z]; exact List.mem_cons_of_mem _ am))]; exact e) hn (fun b hb => ⟨.inl hb, hn b hb⟩)
    ⟨rfl, as', rfl, nd, by rw [upd_ne pa]; exact h2, LolAt.put sm upd_same (r.mono sm) ha (List.nodup_cons.mp nd).2 (fun b o _ z e => by rw [upd_ne z]; exact e) h3⟩
  exact ⟨_, s2, A2⟩
/-- x[n].append(e) -/
theorem wps_lolApp (e : G[i]? = some (.o (lolP w.K p xss))) (hn : xss[n]? = some xs) (hz : xs.length < 1000000) (h : ∀ F0 H0 O, wp ⟨w.K, F0, H0, O, []⟩ te ((G.map asd).set i (.v (.ref p))) fun d => N (G.set i (.o (lolP w.K p (xss.set n (xs ++ [d])))))) :
    wps w (tDrop (tBM w.K "list" rAppend (tOp (rIxL w.K) (tVar i) (tC (.int n))) (tCons te tNil))) G N R := fun σ F H E A nx rt => by
  obtain ⟨v, qs, O', hv, ⟨rfl, as, rfl, nd, h2, h3⟩, h5, A1, back⟩ := A.aside e
  obtain ⟨a, vs, e1, e2, e3⟩ := h3.get hn
  refine ⟨.ref p, hv, p, _, n, .ref a, rfl, rfl, .inl (.inl h2), by rw [atN (by rw [List.length_map]; exact (List.getElem?_eq_some_iff.mp e1).1), List.getElem?_map, e1]; rfl, ?_⟩
  refine ⟨.inl ⟨rfl, vs, .inl (.inl e2)⟩, h F H O' σ F H A1 _ fun u d F' H' s A' r q => ?_⟩
  obtain ⟨sF, kq, A2⟩ := back F' H' A'
  refine ⟨a, vs, u, rfl, rfl, kq a (by simp [List.mem_of_getElem? e1]) _ e2, line_lt (by rw [e3.length]; omega), ?_⟩
  obtain ⟨F2, s2, A3⟩ := lol_put (n := n) A2 e (kq p (by simp) _ h2) e1 ((e3.mono sF).append (.one r))
  exact nx _ _ F2 _ (sF.trans s2) A3 q
/-- x[n].extend(e) -/
theorem wps_lolExt (e : G[i]? = some (.o (lolP w.K p xss))) (hn : xss[n]? = some xs) (h : ∀ F0 H0 O, wp ⟨w.K, F0, H0, O, []⟩ te ((G.map asd).set i (.v (.ref p))) fun d => ∃ ys, d = .lst ys ∧ xs.length + ys.length ≤ 1000000 ∧ N (G.set i (.o (lolP w.K p (xss.set n (xs ++ ys)))))) :
    wps w (tDrop (tBM w.K "list" rExtend (tOp (rIxL w.K) (tVar i) (tC (.int n))) (tCons te tNil))) G N R := fun σ F H E A nx rt => by
  obtain ⟨v, qs, O', hv, ⟨rfl, as, rfl, nd, h2, h3⟩, h5, A1, back⟩ := A.aside e
  obtain ⟨a, vs, e1, e2, e3⟩ := h3.get hn
  refine ⟨.ref p, hv, p, _, n, .ref a, rfl, rfl, .inl (.inl h2), by rw [atN (by rw [List.length_map]; exact (List.getElem?_eq_some_iff.mp e1).1), List.getElem?_map, e1]; rfl, ?_⟩
  refine ⟨.inl ⟨rfl, vs, .inl (.inl e2)⟩, h F H O' σ F H A1 _ fun u d F' H' s A' r q => ?_⟩
  obtain ⟨ys, rfl, hl, q⟩ := q
  obtain ⟨sF, kq, A2⟩ := back F' H' A'
  cases r with
  | @lst b zs _ eb rz =>
  refine ⟨a, b, vs, zs, rfl, rfl, kq a (by simp [List.mem_of_getElem? e1]) _ e2, A2.fh _ _ eb, line_ok (by rw [e3.length, rz.length]; omega), ?_⟩
  obtain ⟨F2, s2, A3⟩ := lol_put (n := n) A2 e (kq p (by simp) _ h2) e1 ((e3.mono sF).append rz)
  exact nx _ _ F2 _ (sF.trans s2) A3 q
/-- x[n][-1], the last item as data -/
theorem wp_lolLast {d : D} (e : G[i]? = some (.o (lolP w.K p xss))) (hn : xss[n]? = some xs) (hm : L2.atI xs (-1) = some d) (q : Q d) : wp w (tOp (rIxL w.K) (tOp (rIxL w.K) (tVar i) (tC (.int n))) (tUn (rU fun i => .int (-i)) (tC (.int 1)))) G Q := fun σ F H A k z => by
  obtain ⟨as, a, vs, hv, h2, e1, e2, e3⟩ := lol_get A e hn
  obtain ⟨u, hu, ru⟩ := e3.atI hm
  exact ⟨.ref p, hv, p, _, n, .ref a, rfl, rfl, .inl (.inl h2), by rw [atN (by rw [List.length_map]; exact (List.getElem?_eq_some_iff.mp e1).1), List.getElem?_map, e1]; rfl, 1, rfl, a, vs, -1, u, rfl, rfl, .inl (.inl e2), hu, z _ _ F H (Same.refl _) A ru q⟩
/-- x[n][-1] = e -/
theorem wps_lolSet {ys : List D} {d0 : D} (e : G[i]? = some (.o (lolP w.K p xss))) (hn : xss[n]? = some (ys ++ [d0])) (h : wp w te G fun d => N (G.set i (.o (lolP w.K p (xss.set n (ys ++ [d])))))) :
    wps w (tAsg te (gSub (tOp (rIxL w.K) (tVar i) (tC (.int n))) (tUn (rU fun i => .int (-i)) (tC (.int 1))) rSetL)) G N R := fun σ F H E A nx rt => h σ F H A _ fun v d F1 H1 s1 A1 r q => by
  obtain ⟨as, a, vs, hv, h2, e1, e2, e3⟩ := lol_get A1 e hn
  have hl : vs.length = ys.length + 1 := by rw [e3.length]; simp
  have ix : ixN vs.length (-1) = some ys.length := by
    rw [hl]
    unfold L2.ixN
    simp <;> omega
  have r2 : RpL w.K F1 (vs.set ys.length v) (ys ++ [d]) := by
    have z := e3.set r ys.length
    rwa [show (ys ++ [d0]).set ys.length d = ys ++ [d] by simp] at z
  obtain ⟨F2, s2, A3⟩ := lol_put (n := n) A1 e h2 e1 r2
  exact ⟨.ref p, hv, p, _, n, .ref a, rfl, rfl, .inl (.inl h2), by rw [atN (by rw [List.length_map]; exact (List.getElem?_eq_some_iff.mp e1).1), List.getElem?_map, e1]; rfl, 1, rfl, a, vs, -1, ys.length, rfl, rfl, e2, ix, nx _ _ F2 _ (s1.trans s2) A3 q⟩
/-- a, x = e, [[], [], []] -/
theorem wps_parLol3 (hj : j < G.length) (h : wp w ta G fun d => ∀ p, N ((G.set i (.d d)).set j (.o (lolP w.K p [[], [], []])))) : wps w (tPar i j (tCons ta (tCons (tLst (tCons (tLst tNil) (tCons (tLst tNil) (tCons (tLst tNil) tNil)))) tNil))) G N R := fun σ F H E A nx rt =>
  h σ F H A _ fun v d F1 H1 s1 A1 r q => ⟨Nat.zero_le _, fun a ha => ⟨Nat.zero_le _, fun b hb => ⟨Nat.zero_le _, fun c hc => ⟨line_ok (n := 3) (by omega), fun p hp => by
    have hab : a ≠ b := fun z => by rw [← z, upd_same] at hb; cases hb
    have hac : a ≠ c := fun z => by rw [← z, upd_ne hab, upd_same] at hc; cases hc
    have hbc : b ≠ c := fun z => by rw [← z, upd_same] at hc; cases hc
    have hpa : a ≠ p := fun z => by rw [← z, upd_ne hac, upd_ne hab, upd_same] at hp; cases hp
    have hpb : b ≠ p := fun z => by rw [← z, upd_ne hbc, upd_same] at hp; cases hp
    have hpc : c ≠ p := fun z => by rw [← z, upd_same] at hp; cases hp
    have nb : H1 b = none := by rw [upd_ne hab.symm] at hb; exact hb
    have nc : H1 c = none := by rw [upd_ne hbc.symm, upd_ne hac.symm] at hc; exact hc
    have np : H1 p = none := by rw [upd_ne hpc.symm, upd_ne hpb.symm, upd_ne hpa.symm] at hp; exact hp
    let H' := upd (upd (upd (upd H1 a (.lst [])) b (.lst [])) c (.lst [])) p (.lst [.ref a, .ref b, .ref c])
    have ea : H' a = some (.lst []) := by show upd _ _ _ _ = _; rw [upd_ne hpa, upd_ne hac, upd_ne hab, upd_same]
    have eb : H' b = some (.lst []) := by show upd _ _ _ _ = _; rw [upd_ne hpb, upd_ne hbc, upd_same]
    have ec : H' c = some (.lst []) := by show upd _ _ _ _ = _; rw [upd_ne hpc, upd_same]
    have ep : H' p = some (.lst [.ref a, .ref b, .ref c]) := upd_same
    have s2 : Same H1 H' := (((same_new ha).trans (same_new hb)).trans (same_new hc)).trans (same_new hp)
    refine ⟨v, .ref p, rfl, ?_⟩
    have A2 := A1.putD i r
    obtain ⟨A3, s3⟩ := A2.putNew (i := j) (by rw [List.length_set]; exact hj) (lolP w.K p [[], [], []]) (v := .ref p) (qs := [p, a, b, c]) s2 (fun y hy => by
      simp only [List.mem_cons, List.not_mem_nil, or_false] at hy
      rcases hy with rfl | rfl | rfl | rfl
      · exact ⟨np, by rw [ep]; exact fun z => nomatch z⟩
      · exact ⟨ha, by rw [ea]; exact fun z => nomatch z⟩
      · exact ⟨nb, by rw [eb]; exact fun z => nomatch z⟩
      · exact ⟨nc, by rw [ec]; exact fun z => nomatch z⟩) ⟨rfl, [a, b, c], rfl, by simp [hab, hac, hbc, hpa.symm, hpb.symm, hpc.symm], ep, ⟨[], ea, .nil⟩, ⟨[], eb, .nil⟩, ⟨[], ec, .nil⟩, True.intro⟩
    exact nx _ _ _ _ (s1.trans s3) A3 (q p)⟩⟩⟩⟩
end
/-! ### [e for x in xs if t] == [] -/
section
variable {w : Wd} {G : List Ent} {Q : D → Prop} {te : TE} {tt : TT} {j j2 : Nat} {wi : TI}
theorem fd_lst0 {xs : List D} (hl : xs.length ≤ 1000000) (h : ∀ x ∈ xs, okD x = true ∧ dep x ≤ 0) : Ok (.lst xs) := by
  refine ⟨?_, ?_⟩
  · rw [okD, okL_of fun x hx => (h x hx).1, decide_eq_true hl]; rfl
  · rw [dep]
    have := depL_of (n := 0) fun x hx => (h x hx).2
    omega
theorem wp_emptyLc (neg : Bool) (p : D → Bool) (f : D → D) (hj : G[j]? = some .no) (h : wpi w wi G fun ds => ds.length ≤ 1000000 ∧ (∀ d ∈ ds, okD (f d) = true ∧ dep (f d) ≤ 0) ∧
      (∀ d a o, d ∈ ds → wpt (w.push a o) tt (G.set j (.d d)) fun b => b = p d ∧ (b = true → wp (w.push a o) te (G.set j (.d d)) fun y => y = f d)) ∧ Q (.bl (if neg then !(ds.all fun d => !p d) else ds.all fun d => !p d))) :
    wp w (tOp (if neg then rNeD w.K else rEqD w.K) (tLc wi (gName j) tt te [j]) (tLst tNil)) G Q := by
  refine wp_op (wp_l (wpl_filter p f hj (h.imp fun ds q => ⟨q.1, q.2.2.1, wp_l (wpl_lst (wpa_nil ⟨by simp, ?_⟩))⟩)))
  have o1 : Ok (.lst ((ds.filter p).map f)) := fd_lst0 (by rw [List.length_map]; exact Nat.le_trans (List.length_filter_le _ _) q.1) fun x hx => by
    obtain ⟨y, hy, rfl⟩ := List.mem_map.mp hx
    exact q.2.1 y (List.mem_filter.mp hy).1
  have o2 : Ok (.lst []) := fd_lst0 (by simp) (fun x hx => nomatch hx)
  have ev : eqvD (.lst ((ds.filter p).map f)) (.lst []) = ds.all fun d => !p d := by
    have e1 : eqvD (.lst ((ds.filter p).map f)) (.lst []) = ((ds.filter p).map f).isEmpty := by
      cases (ds.filter p).map f <;> simp [eqvD, toPy, PyData.eqv, toPyL, PyData.eqvAll]
    rw [e1]
    clear e1 o1 q
    induction ds with
    | nil => rfl
    | cons d ds ih =>
      by_cases hd : p d = true
      · simp [hd]
      · simp [hd, ih]
  cases neg with
  | true =>
    refine r2_neD o1.cmp o2.cmp ?_
    rw [ev]
    exact q.2.2.2
  | false =>
    refine r2_eqD o1.cmp o2.cmp ?_
    rw [ev]
    exact q.2.2.2
theorem wpl_filter2 {Q : List D → Prop} (p : D → Bool) (f : D → D) (hj : G[j]? = some .no) (hj2 : G[j2]? = some .no) (h : wpi w wi G fun ds => ds.length ≤ 1000000 ∧
      (∀ d a o, d ∈ ds → ∃ x y, d = .tup [x, y] ∧ wpt (w.push a o) tt ((G.set j (.d x)).set j2 (.d y)) fun b => b = p d ∧ (b = true → wp (w.push a o) te ((G.set j (.d x)).set j2 (.d y)) fun y => y = f d)) ∧ Q ((ds.filter p).map f)) :
    wpl w (tLc wi (gTup w.K 2 (gCons (gName j) (gCons (gName j2) gNil))) tt te [j, j2]) G Q := by
  refine wpl_lcNN hj hj2 (h.imp fun ds q => ⟨q.1, fun i acc => acc = ((ds.take i).filter p).map f, by simp, fun i d acc a o hd hI => ?_, fun acc hI => ?_⟩)
  · obtain ⟨x, y, e, hw⟩ := q.2.1 d a o (List.mem_of_getElem? hd)
    refine ⟨x, y, e, hw.imp fun b hb => ?_⟩
    have e2 : ds.take (i + 1) = ds.take i ++ [d] := by rw [List.take_add_one, hd]; rfl
    cases hb1 : b with
    | true =>
      refine ite_t rfl ((hb.2 hb1).imp fun y hy => ?_)
      dsimp only at hI ⊢
      rw [hI, hy, e2, List.filter_append, List.map_append]
      simp [hb.1.symm.trans hb1]
    | false =>
      refine ite_f rfl ?_
      dsimp only at hI ⊢
      rw [hI, e2, List.filter_append, List.map_append]
      simp [hb.1.symm.trans hb1]
  · dsimp only at hI
    rw [hI, List.take_of_length_le (Nat.le_refl _)]
    exact q.2.2
theorem ev_empty {p : D → Bool} {f : D → D} {ds : List D} : eqvD (.lst ((ds.filter p).map f)) (.lst []) = ds.all fun d => !p d := by
  have e1 : eqvD (.lst ((ds.filter p).map f)) (.lst []) = ((ds.filter p).map f).isEmpty := by
    cases (ds.filter p).map f <;> simp [eqvD, toPy, PyData.eqv, toPyL, PyData.eqvAll]
  rw [e1]
  clear e1
  induction ds with
  | nil => rfl
  | cons d ds ih =>
    by_cases hd : p d = true
    · simp [hd]
    · simp [hd, ih]
theorem wp_emptyLc2 (p : D → Bool) (f : D → D) (hj : G[j]? = some .no) (hj2 : G[j2]? = some .no) (h : wpi w wi G fun ds => ds.length ≤ 1000000 ∧ (∀ d ∈ ds, okD (f d) = true ∧ dep (f d) ≤ 0) ∧
      (∀ d a o, d ∈ ds → ∃ x y, d = .tup [x, y] ∧ wpt (w.push a o) tt ((G.set j (.d x)).set j2 (.d y)) fun b => b = p d ∧ (b = true → wp (w.push a o) te ((G.set j (.d x)).set j2 (.d y)) fun y => y = f d)) ∧ Q (.bl (!(ds.all fun d => !p d)))) :
    wp w (tOp (rNeD w.K) (tLc wi (gTup w.K 2 (gCons (gName j) (gCons (gName j2) gNil))) tt te [j, j2]) (tLst tNil)) G Q := by
  refine wp_op (wp_l (wpl_filter2 p f hj hj2 (h.imp fun ds q => ⟨q.1, q.2.2.1, wp_l (wpl_lst (wpa_nil ⟨by simp, ?_⟩))⟩)))
  have o1 : Ok (.lst ((ds.filter p).map f)) := fd_lst0 (by rw [List.length_map]; exact Nat.le_trans (List.length_filter_le _ _) q.1) fun x hx => by
    obtain ⟨y, hy, rfl⟩ := List.mem_map.mp hx
    exact q.2.1 y (List.mem_filter.mp hy).1
  refine r2_neD o1.cmp (fd_lst0 (xs := []) (by simp) (fun x hx => by cases hx)).cmp ?_
  rw [ev_empty]
  exact q.2.2.2
end
end Sd
set_option Elab.async false
set_option linter.all false
set_option maxRecDepth 100000
set_option maxHeartbeats 4000000
/-! E10: a text so many times. -/
namespace Sd
open PySem PySem.Spec L2
def rMulS : R2 := fun x y H Q => ∃ i k, x = .str i ∧ y = .int k ∧ i.length ≤ 16 ∧ 0 ≤ k ∧ k ≤ 1048576 ∧ Q (.str (Txt.mul i k)) H
theorem op_mulS {X : Cx} : OpR X (binaryOp .Mult) rMulS := by
  intro pins s σ H x y v u Q I rx ry h
  obtain ⟨i, k, rfl, rfl, h1, h2, h3, q⟩ := h
  obtain ⟨t, rfl⟩ := rx
  obtain ⟨t', rfl⟩ := ry
  exact PySem.W.KXi.mul rfl h1 (by omega) (by omega) fun t' tk _ _ => ⟨.str (Txt.mul i k), H, I.tok _, ⟨_, rfl⟩, q⟩
section
variable {K : PySem.W.Frag} {Q : D → Prop}
theorem r2_mulS {i : Str} {k : Int} (h : i.length ≤ 16) (h2 : 0 ≤ k) (h3 : k ≤ 1048576) (q : Q (.str (Txt.mul i k))) : R2D K rMulS (.str i) (.int k) Q := fun F H v u s r1 r2 z zz => by
  cases r1; cases r2
  exact ⟨i, k, rfl, rfl, h, h2, h3, zz _ _ H (Same.refl _) (.str _) q⟩
end
end Sd
set_option Elab.async false
set_option linter.all false
set_option maxRecDepth 100000
set_option maxHeartbeats 4000000
/-! M14: what reading comes to, with the line that is refused or the part that is wrong; orders read. -/
namespace Sd
open PySem PySem.Spec L2
open SX (S S_len S_cat S_inj)
open TL (numL joinL spl)

/-- the first part that is not as it must be -/
def wrongD (k p t : D) : Option Str := if areKindsD k = true then if arePassesD (lenT k) p = true then if tellsD p t = true then none else some "tells" else some "passes" else some "kinds"
def RS.kD (s : RS) : D := .tup (s.ks.map strD)
def RS.pD (s : RS) : D := .tup (s.ps.map pasD)
def RS.tD (s : RS) : D := .tup (s.ts.map telD)
def RS.wrong (s : RS) : Option Str := wrongD s.kD s.pD s.tD
theorem wrong_none {k p t : D} (h1 : Ok k) (h2 : Ok p) (h3 : Ok t) (h : wrongD k p t = none) : ProgOk k p t := by
  unfold wrongD at h
  split at h
  · split at h
    · split at h
      · exact ⟨h1, h2, h3, by assumption, by assumption, by assumption⟩
      · cases h
    · cases h
  · cases h
theorem wrong_ok {k p t : D} (h : ProgOk k p t) : wrongD k p t = none := by
  unfold wrongD
  rw [if_pos h.hk, if_pos h.hp, if_pos h.ht]
/-- what the lines lead to: the index of the first that cannot come, or the state -/
def readX : Nat → RS → List (List Nat) → Nat ⊕ RS
  | _, s, [] => .inr s
  | i, s, l :: ls => match takesC s l with
    | some s' => readX (i + 1) s' ls
    | none => .inl i
inductive Rd where
  | text (i : Nat) | prog (p : Str) | val (s : RS)
def linesC (l : List Nat) : List (List Nat) := if (splitC l 10).getLast? = some [] then (splitC l 10).dropLast else splitC l 10
def endsC (l : List Nat) : Bool := decide ((splitC l 10).getLast? = some [])
def readR (l : List Nat) : Rd := match readX 0 ⟨[], [], []⟩ (linesC l) with
  | .inl i => .text i
  | .inr s => if endsC l = false ∨ s.ts = [] then .text (linesC l).length else match s.wrong with
    | some p => .prog p
    | none => .val s
theorem readX_step {l : List Nat} {f : Nat ⊕ RS} : ∀ {ls : List (List Nat)} {s s1 : RS} {i j : Nat}, readX j s ls = f → readC s (ls.take i) = some s1 → ls[i]? = some l → (takesC s1 l = none → f = .inl (j + i)) ∧ ∀ s2, takesC s1 l = some s2 → readC s (ls.take (i + 1)) = some s2
  | [], s, s1, i, j, _, _, h => by simp at h
  | x :: xs, s, s1, 0, j, hf, h1, h2 => by
    rw [List.take_zero, readC] at h1
    cases h1
    simp only [List.getElem?_cons_zero, Option.some.injEq] at h2
    subst h2
    refine ⟨fun e => ?_, fun s2 e => ?_⟩
    · rw [readX, e] at hf; exact hf.symm
    · rw [List.take_succ_cons, List.take_zero, readC, e]; rfl
  | x :: xs, s, s1, i + 1, j, hf, h1, h2 => by
    rw [List.take_succ_cons, readC] at h1
    rw [List.getElem?_cons_succ] at h2
    rw [readX] at hf
    cases e : takesC s x with
    | none => rw [e] at h1; cases h1
    | some s' =>
      rw [e] at h1 hf
      obtain ⟨a, b⟩ := readX_step (i := i) hf h1 h2
      refine ⟨fun z => by rw [a z]; congr 1; omega, fun s2 z => ?_⟩
      rw [List.take_succ_cons, readC, e]
      exact b s2 z
theorem readX_end : ∀ {ls : List (List Nat)} {s s1 : RS} {j : Nat}, readC s ls = some s1 → readX j s ls = .inr s1
  | [], s, s1, j, h => by rw [readC] at h; cases h; rfl
  | x :: xs, s, s1, j, h => by
    rw [readC] at h
    rw [readX]
    cases e : takesC s x with
    | none => rw [e] at h; cases h
    | some s' => rw [e] at h; exact readX_end h
theorem rs_inj {s s2 : RS} (h1 : s.kD = s2.kD) (h2 : s.pD = s2.pD) (h3 : s.tD = s2.tD) : s = s2 := by
  obtain ⟨a, b, c⟩ := s
  obtain ⟨a2, b2, c2⟩ := s2
  unfold RS.kD at h1; unfold RS.pD at h2; unfold RS.tD at h3
  rw [D.tup.injEq] at h1 h2 h3
  have e1 : a = a2 := kD_inj h1
  have e2 : b = b2 := pD_inj h2
  have e3 : c = c2 := tD_inj h3
  rw [e1, e2, e3]
theorem st_psD (s : RS) : (s.st.ps.map fun p => D.tup [p.1, .lst p.2]) = s.ps.map fun p => .tup [intsD p.1, .lst (p.2.map rowD)] := by
  unfold RS.st
  rw [List.map_map]
  rfl
theorem rd_inj {C : Addr} {s s2 : RS} (h : rdD C s.st = rdD C s2.st) : s = s2 := by
  have h' := h
  simp only [rdD, D.obj.injEq, List.cons.injEq, true_and, and_true] at h'
  obtain ⟨h1, h2, h3⟩ := h'
  rw [st_psD, st_psD] at h2
  refine rs_inj h1 ?_ ?_
  · unfold RS.pD
    rw [D.tup.injEq]
    rw [D.lst.injEq] at h2
    have : s.ps = s2.ps := map_inj (f := fun p : Pas => D.tup [intsD p.1, .lst (p.2.map rowD)]) (fun a b e => by
      simp only [D.tup.injEq, List.cons.injEq, D.lst.injEq, and_true] at e
      exact Prod.ext (intsD_inj e.1) (map_inj (fun a b e => rowD_inj e) e.2)) h2
    rw [this]
  · unfold RS.tD
    rw [D.lst.injEq] at h3
    rw [D.tup.injEq]
    exact h3
theorem RsOk.fdP {n : Nat} {s : RS} (h : RsOk n s) (hn : n ≤ 100000) : Ok s.kD ∧ Ok s.pD ∧ Ok s.tD := by
  refine ⟨h.okK, ?_, ?_⟩
  · refine fd_ok (n := 5) (fd_tup (by rw [List.length_map]; have := h.p.1; omega) fun x hx => ?_) (by omega)
    obtain ⟨p, hp, rfl⟩ := List.mem_map.mp hx
    obtain ⟨h1, h2, h3⟩ := h.p.2 p hp
    refine fd_tup (n := 3) (by simp) fun y hy => ?_
    rcases List.mem_cons.mp hy with rfl | hy
    · exact (fd_ints (by omega)).mono (by omega)
    · obtain rfl : y = rowsD p.2 := by simpa using hy
      refine fd_tup (n := 2) (by rw [List.length_map]; omega) fun z hz => ?_
      obtain ⟨r, hr, rfl⟩ := List.mem_map.mp hz
      exact fd_row (by have := h3 r hr; omega)
  · refine fd_ok (n := 2) (fd_tup (n := 1) (by rw [List.length_map]; have := h.t.1; omega) fun x hx => ?_) (by omega)
    obtain ⟨t, ht, rfl⟩ := List.mem_map.mp hx
    exact fd_tel (h.t.2 t ht)
/-- an order that a text tells -/
def wordsC (l : List Nat) : List (List Nat) := if l = [45] then [] else splitC l 32
def orderC (ks : List (List Nat)) (l : List Nat) : Option (List (List Nat)) := if (wordsC l).all (fun w => decide (w ∈ ks)) = true then some (wordsC l) else none
/-- a text that may be read: its lines are not too long, nor too many -/
structure TxOk (l : List Nat) : Prop where
  len : l.length ≤ 300000
  sg : ∀ c ∈ l, c < 1114112
  ln : ∀ w ∈ splitC l 10, w.length ≤ 2000
  cn : (splitC l 10).length ≤ 5000
theorem TxOk.line {l : List Nat} (h : TxOk l) : ∀ w ∈ splitC l 10, LnOk w := fun w hw => ⟨h.ln w hw, fun c hc => by
  rcases spl_sub hw c hc with z | z
  · cases z
  · exact h.sg c z⟩
theorem linesC_sub {l w : List Nat} (h : w ∈ linesC l) : w ∈ splitC l 10 := by
  unfold linesC at h
  split at h
  · exact List.dropLast_subset _ h
  · exact h
theorem linesC_len (l : List Nat) : (linesC l).length ≤ (splitC l 10).length := by
  unfold linesC
  split
  · rw [List.length_dropLast]; omega
  · exact Nat.le_refl _
end Sd
set_option Elab.async false
set_option linter.all false
set_option maxRecDepth 100000
set_option maxHeartbeats 4000000
/-! M15: the law's own looks, in plain lists. -/
namespace Sd
open PySem PySem.Spec L2
open SX (S S_len S_cat S_inj)
open TL (numL joinL spl)

/-- a sign that is not of a text -/
def offS (z : Str) : D → Bool
  | .str x => !(x.cps.toList.all fun c => decide (c ∈ z.cps.toList))
  | _ => false
theorem off_all (l : List Nat) (z : Str) : (((S l).cps.toList.map fun c => D.str ⟨#[c]⟩).all fun d => !offS z d) = l.all fun c => decide (c ∈ z.cps.toList) := by
  rw [List.all_map]
  have e : (S l).cps.toList = l := by simp [SX.S]
  rw [e]
  congr 1
  funext c
  simp [offS]
/-- a pass of the right form, read off plain lists -/
def pasOkC (size starts : Int) (p : Pas) : Bool := !p.2.isEmpty && (p.2.all fun r => decide ((r.length : Int) = size) && r.all fun q => decide (0 ≤ q.1) && decide (q.1 < p.2.length)) && decide ((p.1.length : Int) = starts) && p.1.all fun i => decide (0 ≤ i) && decide (i < p.2.length)
theorem pass_pas (size starts : Int) (p : Pas) : isPassD size starts (pasD p) = pasOkC size starts p := by
  have e1 : ∀ (n : Int) (r : Row), isRowD size n (rowD r) = (decide ((r.length : Int) = size) && r.all fun q => decide (0 ≤ q.1) && decide (q.1 < n)) := fun n r => by
    show (decide (((r.map pairD).length : Int) = size) && (r.map pairD).all (isPairD n)) = _
    rw [List.length_map, List.all_map]
    congr 2
    funext q
    show (isStateD n (.int q.1) && isIntD (.int q.2)) = _
    rw [show isIntD (.int q.2) = true from rfl, Bool.and_true]
    rfl
  show (areRowsD size (rowsD p.2) && decide (((p.1.map D.int).length : Int) = starts) && (p.1.map D.int).all (isStateD (lenT (rowsD p.2)))) = _
  have e2 : areRowsD size (rowsD p.2) = (!p.2.isEmpty && (p.2.all fun r => decide ((r.length : Int) = size) && r.all fun q => decide (0 ≤ q.1) && decide (q.1 < p.2.length))) := by
    show (!(p.2.map rowD).isEmpty && (p.2.map rowD).all (isRowD size (p.2.map rowD).length)) = _
    rw [List.all_map, List.length_map]
    congr 1
    · cases p.2 <;> rfl
    · congr 1
      funext r
      exact e1 _ r
  rw [e2, List.length_map, List.all_map]
  unfold pasOkC
  congr 1
  congr 1
  funext i
  show isStateD (lenT (rowsD p.2)) (.int i) = _
  show (decide (0 ≤ i) && decide (i < ((p.2.map rowD).length : Int))) = _
  rw [List.length_map]
theorem int_fd (i : Int) : okD (.int i) = true ∧ dep (.int i) ≤ 0 := ⟨rfl, Nat.le_refl _⟩
theorem off_dig (l : List Nat) : (((S l).cps.toList.map fun c => D.str ⟨#[c]⟩).all fun d => !offS "0123456789" d) = l.all digC := by
  rw [off_all]
  congr 1
  funext c
  exact dig_in c
theorem fd_sign {l : List Nat} (h : ∀ c ∈ l, c < 1114112) {d : D} (hd : d ∈ (S l).cps.toList.map fun c => D.str ⟨#[c]⟩) : okD d = true ∧ dep d ≤ 0 := by
  obtain ⟨c, hc', rfl⟩ := List.mem_map.mp hd
  have hc2 : c ∈ l := by simpa [SX.S] using hc'
  have := fd_str (l := [c]) (n := 0) (by simp) (fun y hy => by rw [List.mem_singleton.mp hy]; exact h c hc2)
  exact this
/-- the state of the law's reading -/
def RS.ls (s : RS) : List (List D) := [s.ks.map strD, s.ps.map pasD, s.ts.map telD]
theorem takesT_nil (s : RS) (q : List (List Nat)) : takesT s ([] :: q) = none := by
  unfold takesT
  rcases q with _ | ⟨b, _ | ⟨c, _ | ⟨d, r⟩⟩⟩
  · rfl
  · rfl
  · dsimp only
    rw [if_neg (by rintro ⟨z, _⟩; cases z)]
  · rfl
theorem takesR_eq {s : RS} {l : List Nat} (hk : s.ks ≠ []) : takesC s l = match takesP s (splitC l 32) with
    | some s' => some s'
    | none => match rowOf s.ks.length l with
      | some r => if s.ps ≠ [] ∧ s.ts = [] then some { s with ps := addRow s.ps r } else none
      | none => takesT s (splitC l 32) := by
  unfold takesC
  rw [if_neg hk]
  cases takesP s (splitC l 32) with
  | some s' => rfl
  | none =>
    dsimp only
    unfold takesR
    cases e : rowOf s.ks.length l with
    | none => rfl
    | some r =>
      dsimp only
      by_cases hc : s.ps ≠ [] ∧ s.ts = []
      · rw [if_pos hc]
      · rw [if_neg hc]
        have h2 : l.take 2 = [32, 32] := by
          unfold rowOf at e
          split at e
          · cases e
          · split at e
            · rename_i h; exact h.1
            · cases e
        obtain ⟨r2, hl⟩ : ∃ r2, l = 32 :: 32 :: r2 := by
          rcases l with _ | ⟨a, _ | ⟨b, r2⟩⟩
          · cases h2
          · cases h2
          · simp at h2
            exact ⟨r2, by rw [h2.1, h2.2]⟩
        have hs : splitC l 32 = [] :: spl [32] 0 [] (32 :: r2) := by
          rw [hl]
          unfold splitC
          rw [TL.spl_hit (by simp [TL.pre])]
          rfl
        rw [hs]
        exact takesT_nil s _
def rsO (K : PySem.W.Frag) : Addr → RS → OwnP := fun a s => lolP K a s.ls
theorem rsO_at {K : PySem.W.Frag} : AtRef (rsO K) := fun a s F H v qs h => h.1
section
variable {w : Wd} {G : List Ent} {Q : List Ent → D → Prop} {tas : TA} {E : XK} {i : Nat}
/-- a def whose first argument is a thing of one's own -/
theorem wpx_callO {S : Type} {own : Addr → S → OwnP} {a : Addr} {s : S} {pre : S → List D → Prop} {post : S → List D → D → S → Prop} (at_ : AtRef own) (e : G[i]? = some (.o (own a s)))
    (h : wpa w tas G fun ds => pre s ds ∧ ∀ d s', post s ds d s' → Q (G.set i (.o (own a s'))) d) : wpx w (tCall (spO w.K own pre post) [] E (tCons (tVar i) tas)) G Q := fun σ F H A k z => by
  obtain ⟨v, qs, h1, hok, h5, _⟩ := A.own1 e
  obtain rfl := at_ _ _ _ _ _ _ hok
  refine ⟨.ref a, h1, h σ F H A _ fun vs ds F1 H1 s1 A1 r1 q => ?_⟩
  obtain ⟨v', qs', g1, gok, g5, up⟩ := A1.own1 e
  rw [h1] at g1
  cases g1
  show spO w.K own pre post (V.ref a :: vs ++ []) H1 k E
  rw [List.append_nil]
  refine ⟨a, vs, F1, ds, s, qs', rfl, A1.fh, fun b hb => g5 b hb, gok, r1, q.1, fun r d s' H' qs2 k1 k2 k3 ok' rr ps => ?_⟩
  obtain ⟨A2, s2⟩ := up (own a s') H' qs2 k1 k2 k3 ok'
  exact z _ r d _ H' (s1.trans s2) A2 rr (q.2 d s' ps)
end
def resD : Rd → D
  | .text i => .tup [.str "text", .int i]
  | .prog p => .tup [.str "program", .str p]
  | .val s => .tup [.str "value", .tup [s.kD, s.pD, s.tD]]
theorem pk_rs {K : PySem.W.Frag} {a : Addr} {s : RS} : PkOk K (.o (rsO K a s)) (.d (lolD s.ls)) := pk_lol
end Sd
set_option Elab.async false
set_option linter.all false
set_option maxRecDepth 100000
set_option maxHeartbeats 4000000
/-! M16: beginnings of texts; what repr shows of what is told; a text so many times. -/
namespace Sd
open PySem PySem.Spec L2
open PyProof.Rows
open SX (S S_len S_cat S_inj)
open TL (numL joinL spl)
/-! ### a beginning of a text has no longer lines, and no more -/
theorem spl_first {c : Nat} : ∀ {l acc : List Nat}, ∃ w ∈ spl [c] 0 acc l, acc.length ≤ w.length
  | [], acc => ⟨acc, by rw [TL.spl_nil]; simp, Nat.le_refl _⟩
  | y :: l, acc => by
    by_cases hy : TL.pre [c] (y :: l) = true
    · rw [TL.spl_hit hy]
      exact ⟨acc, by simp, Nat.le_refl _⟩
    · rw [TL.spl_miss (by simpa using hy)]
      obtain ⟨w, h1, h2⟩ := spl_first (c := c) (l := l) (acc := acc ++ [y])
      exact ⟨w, h1, by rw [List.length_append] at h2; omega⟩
theorem spl_pos {c : Nat} {l acc : List Nat} : 1 ≤ (spl [c] 0 acc l).length := by
  have := spl_ne (c := c) (l := l) (acc := acc)
  exact List.length_pos_iff.mpr this
theorem spl_take {c m : Nat} : ∀ {l acc : List Nat} {n : Nat}, (∀ w ∈ spl [c] 0 acc l, w.length ≤ m) → (∀ w ∈ spl [c] 0 acc (l.take n), w.length ≤ m) ∧ (spl [c] 0 acc (l.take n)).length ≤ (spl [c] 0 acc l).length
  | l, acc, 0, h => by
    rw [List.take_zero, TL.spl_nil]
    refine ⟨fun w hw => ?_, spl_pos⟩
    rw [List.mem_singleton.mp hw]
    obtain ⟨w, h1, h2⟩ := spl_first (c := c) (l := l) (acc := acc)
    exact Nat.le_trans h2 (h w h1)
  | [], acc, n + 1, h => by
    rw [List.take_nil]
    exact ⟨h, Nat.le_refl _⟩
  | y :: l, acc, n + 1, h => by
    rw [List.take_succ_cons]
    by_cases hy : TL.pre [c] (y :: l) = true
    · have hy2 : TL.pre [c] (y :: l.take n) = true := hy
      rw [TL.spl_hit hy] at h
      rw [TL.spl_hit hy, TL.spl_hit hy2]
      obtain ⟨h1, h2⟩ := spl_take (n := n) fun w hw => h w (List.mem_cons_of_mem _ hw)
      refine ⟨fun w hw => ?_, ?_⟩
      · rcases List.mem_cons.mp hw with rfl | hw
        · exact h _ (by simp)
        · exact h1 w hw
      · rw [List.length_cons, List.length_cons]
        exact Nat.succ_le_succ h2
    · have hy1 : TL.pre [c] (y :: l) = false := by simpa using hy
      have hy2 : TL.pre [c] (y :: l.take n) = false := hy1
      rw [TL.spl_miss hy1] at h
      rw [TL.spl_miss hy1, TL.spl_miss hy2]
      exact spl_take h
theorem tx_take {ls : List (List Nat)} (hn : ls.length ≤ 303) (hw : ∀ l ∈ ls, l.length ≤ 808) (hc : ∀ l ∈ ls, ∀ c ∈ l, c < 1114112) (hf : ∀ l ∈ ls, 10 ∉ l) (n : Nat) : TxOk ((pageC ls).take n) := by
  have hp := split_page hf
  have h0 : ∀ w ∈ spl [10] 0 [] (pageC ls), w.length ≤ 808 := fun w h => by
    have h : w ∈ splitC (pageC ls) 10 := h
    rw [hp] at h
    rcases List.mem_append.mp h with h | h
    · exact hw w h
    · rw [List.mem_singleton.mp h]; simp
  obtain ⟨h1, h2⟩ := spl_take (n := n) h0
  have hlen : (pageC ls).length ≤ 303 * 809 := by
    have := joinL_len [] (m := 809) (ps := ls.map (· ++ [10])) fun q hq => by
      obtain ⟨l, hl, rfl⟩ := List.mem_map.mp hq
      have := hw l hl
      rw [List.length_append]
      show _ + 1 ≤ _
      omega
    rw [List.length_map] at this
    have e3 : ls.length * 809 ≤ 303 * 809 := Nat.mul_le_mul hn (Nat.le_refl _)
    unfold pageC
    exact Nat.le_trans this (by simpa using e3)
  refine ⟨?_, fun c hc' => ?_, fun w h => ?_, ?_⟩
  · rw [List.length_take]; omega
  · have hm := List.mem_of_mem_take hc'
    unfold pageC at hm
    rw [joinL_nil] at hm
    obtain ⟨q, hq, hcq⟩ := List.mem_flatten.mp hm
    obtain ⟨l, hl, rfl⟩ := List.mem_map.mp hq
    rcases List.mem_append.mp hcq with z | z
    · exact hc l hl c z
    · rw [List.mem_singleton.mp z]; omega
  · have := h1 w h; omega
  · show (spl [10] 0 [] _).length ≤ 5000
    have e : (spl [10] 0 [] (pageC ls)).length = ls.length + 1 := by
      show (splitC (pageC ls) 10).length = _
      rw [hp, List.length_append]
      rfl
    omega
/-! ### what repr shows -/
structure RpS (m k : Nat) (d : D) : Prop where
  pl : pl d = true
  sh : (toPy d).showable = true
  nd : (toPy d).hasDict = false
  dp : (toPy d).depth ≤ m
  ln : (toPy d).shown.length ≤ k
theorem rps_tup {m k n : Nat} {xs : List D} (hn : xs.length ≤ n) (h : ∀ x ∈ xs, RpS m k x) : RpS (m + 1) (n * (k + 2) + 2) (.tup xs) := by
  refine ⟨?_, ?_, ?_, ?_, ?_⟩
  · rw [Sd.pl]
    induction xs with
    | nil => rfl
    | cons x xs ih => rw [plL, (h x (by simp)).pl, ih (by rw [List.length_cons] at hn; omega) fun y hy => h y (by simp [hy])]; rfl
  · rw [toPy, PyData.showable]
    induction xs with
    | nil => simp [toPyL, PyData.showableAll]
    | cons x xs ih => rw [toPyL, PyData.showableAll, (h x (by simp)).sh, ih (by rw [List.length_cons] at hn; omega) fun y hy => h y (by simp [hy])]; rfl
  · rw [toPy, PyData.hasDict]
    induction xs with
    | nil => simp [toPyL, PyData.hasDictAll]
    | cons x xs ih => rw [toPyL, PyData.hasDictAll, (h x (by simp)).nd, ih (by rw [List.length_cons] at hn; omega) fun y hy => h y (by simp [hy])]; rfl
  · rw [dep_py, dep]
    have := depL_of (n := m) (xs := xs) fun x hx => by rw [← dep_py]; exact (h x hx).dp
    omega
  · rw [toPy, toPyL_map, PyData.shown, shownAll_map]
    have h1 := fmt_text ((xs.map toPy).map PyData.shown)
    have h2 := piled_le (m := k) (ts := (xs.map toPy).map PyData.shown) fun t ht => by
      obtain ⟨p, hp, rfl⟩ := List.mem_map.mp ht
      obtain ⟨d, hd, rfl⟩ := List.mem_map.mp hp
      exact (h d hd).ln
    rw [List.length_map, List.length_map] at h2
    have e : xs.length * (k + 2) ≤ n * (k + 2) := Nat.mul_le_mul hn (Nat.le_refl _)
    omega
theorem rps_name {w : List Nat} (h : nameC w = true) {m : Nat} : RpS m 82 (strD w) := by
  refine ⟨rfl, by simp [toPy, PyData.showable], by simp [toPy, PyData.hasDict], by rw [dep_py]; simp [dep], ?_⟩
  have := StrLaws.reprText_len (S w) fun c hc => by have := (nameC_iff.mp h).2 c hc; omega
  have e := S_len w
  have := (nameC_iff.mp h).1
  show (reprText (S w)).length ≤ 82
  omega
theorem rps_nat {i m : Nat} (h : i ≤ 100000) : RpS m 82 (.int i) := by
  refine ⟨rfl, ?_, by simp [toPy, PyData.hasDict], by rw [dep_py]; simp [dep], ?_⟩
  · rw [toPy, PyData.showable, Int.natAbs_natCast]
    refine decide_eq_true ?_
    by_cases h0 : i = 0
    · rw [h0]; decide
    · have h1 : i.log2 < 17 := (Nat.log2_lt h0).mpr (by have : 2 ^ 17 = 131072 := by decide
                                                        omega)
      omega
  · show (Str.ofString (toString (i : Int))).length ≤ 82
    rw [int_S, S_len]
    have := intL_len (i := i) (by unfold smI; omega)
    omega
theorem rps_str {x : Str} {m : Nat} (h : (reprText x).length ≤ 82) : RpS m 82 (.str x) := ⟨rfl, by simp [toPy, PyData.showable], by simp [toPy, PyData.hasDict], by rw [dep_py]; simp [dep], h⟩
theorem RpS.mono {m m2 k k2 : Nat} {d : D} (h : RpS m k d) (h1 : m ≤ m2) (h2 : k ≤ k2) : RpS m2 k2 d := ⟨h.pl, h.sh, h.nd, Nat.le_trans h.dp h1, Nat.le_trans h.ln h2⟩
theorem rps_told {m k : Nat} {x : Str} {d : D} (hx : (reprText x).length ≤ 82) (hd : RpS m k d) (hk : 82 ≤ k) : RpS (m + 1) (2 * (k + 2) + 2) (.tup [.str x, d]) := rps_tup (by simp) fun y hy => by
  simp only [List.mem_cons, List.not_mem_nil, or_false] at hy
  rcases hy with rfl | rfl
  · exact (rps_str hx).mono (Nat.le_refl _) hk
  · exact hd
theorem rps_names {ws : List (List Nat)} (hl : ws.length ≤ 2000) (h : ∀ w ∈ ws, nameC w = true) : RpS 1 168002 (.tup (ws.map strD)) := rps_tup (n := 2000) (k := 82) (m := 0) (by rw [List.length_map]; exact hl) fun x hx => by
  obtain ⟨w, hw, rfl⟩ := List.mem_map.mp hx
  exact rps_name (h w hw)
section
variable {K : PySem.W.Frag} {Q : D → Prop} {m k : Nat}
theorem rc_reprS {xs : List D} (h : RpS m k (.tup xs)) (hm : m ≤ 64) (hk : k ≤ 1000000) (q : Q (.str (toPy (.tup xs)).shown)) :
    RCD K (fun xs H Q => ∃ a d, xs = [.ref a] ∧ Dp K H (.ref a) d ∧ d.showable = true ∧ d.hasDict = false ∧ d.depth ≤ 64 ∧ d.shown.length ≤ sizeLine ∧ Q (.str d.shown) H) [.tup xs] Q :=
  rc_repr ⟨xs, .inr rfl⟩ h.pl h.sh h.nd (Nat.le_trans h.dp hm) (line_ok (Nat.le_trans h.ln hk)) q
end
/-! ### the words asked for, and their pages -/
def wordsW : List (List Nat) := [List.replicate 9 97, List.replicate 300 98, List.replicate 7 49, List.replicate 300 55, 45 :: List.replicate 300 55, [65], [45], []]
def pageA (w : List Nat) : List Nat := [107, 105, 110, 100, 115, 32, 97, 10, 112, 97, 115, 115, 32] ++ w ++ [10]
def pageB (w : List Nat) : List Nat := [107, 105, 110, 100, 115, 32, 97, 10, 116, 101, 108, 108, 32] ++ w ++ [32, 48, 10]
def Rd.isT : Rd → Nat → Bool
  | .text i, j => decide (i = j)
  | _, _ => false
theorem isT_is {r : Rd} {j : Nat} (h : r.isT j = true) : r = .text j := by
  cases r with
  | text i => rw [show i = j from of_decide_eq_true h]
  | prog _ => cases h
  | val _ => cases h
theorem pages_bad : (wordsW.all fun w => (readR (pageA w)).isT 1 && (readR (pageB w)).isT 1) = true := by decide +kernel
theorem read_empty : (readR []).isT 0 = true := by decide +kernel
def txB (l : List Nat) : Bool := decide (l.length ≤ 1900) && l.all (fun c => decide (c < 1114112))
theorem tx_small {l : List Nat} (h : txB l = true) : TxOk l := by
  have h1 := of_decide_eq_true (Bool.and_eq_true_iff.mp h).1
  have h2 := (Bool.and_eq_true_iff.mp h).2
  refine ⟨by omega, fun c hc => of_decide_eq_true (List.all_eq_true.mp h2 c hc), fun w hw => ?_, ?_⟩
  · have := spl_len (show w ∈ spl [10] 0 [] l from hw)
    rw [List.length_nil] at this
    omega
  · have := spl_cnt (l := l) (acc := []) (c := 10)
    unfold splitC
    omega
theorem pages_tx : (wordsW.all fun w => txB (pageA w) && txB (pageB w)) = true := by decide +kernel
theorem readX_lt : ∀ {ls : List (List Nat)} {s : RS} {j i : Nat}, readX j s ls = .inl i → i < j + ls.length
  | [], s, j, i, h => by rw [readX] at h; cases h
  | l :: ls, s, j, i, h => by
    rw [readX] at h
    split at h
    · have := readX_lt h
      rw [List.length_cons]
      omega
    · cases h
      rw [List.length_cons]
      omega
theorem readR_text {l : List Nat} {i : Nat} (h : TxOk l) (e : readR l = .text i) : i ≤ 5000 := by
  have h1 := linesC_len l
  have h2 := h.cn
  unfold readR at e
  split at e
  · rename_i i' e'
    cases e
    have := readX_lt e'
    omega
  · split at e
    · cases e
      omega
    · split at e <;> cases e
theorem readR_prog {l : List Nat} {p : Str} (e : readR l = .prog p) : p = "kinds" ∨ p = "passes" ∨ p = "tells" := by
  unfold readR at e
  split at e
  · cases e
  · split at e
    · cases e
    · split at e
      · rename_i s _ _ p' ep
        cases e
        unfold RS.wrong wrongD at ep
        split at ep
        · split at ep
          · split at ep
            · cases ep
            · cases ep
              exact .inr (.inr rfl)
          · cases ep
            exact .inr (.inl rfl)
        · cases ep
          exact .inl rfl
      · cases e
def toldOk (l : List Nat) (d : D) : Prop := (∃ v s, readR l = .val s ∧ d = .tup [.str "value", v]) ∨ ∃ (x : Str) (v : D), resD (readR l) = .tup [.str x, v] ∧ d = .tup [.str x, v] ∧ x ≠ "value" ∧ RpS 2 1000 (.tup [.str x, v])
theorem told_text {l : List Nat} {i : Nat} (h : TxOk l) (e : readR l = .text i) : toldOk l (.tup [.str "text", .int i]) := .inr ⟨"text", .int i, by rw [e]; rfl, rfl, by decide +kernel, (rps_told (k := 82) (m := 0) (by decide +kernel) (rps_nat (by have := readR_text h e; omega)) (by omega)).mono (by omega) (by omega)⟩
theorem told_prog {l : List Nat} {p : Str} (e : readR l = .prog p) : toldOk l (.tup [.str "program", .str p]) := .inr ⟨"program", .str p, by rw [e]; rfl, rfl, by decide +kernel, (rps_told (k := 82) (m := 0) (by decide +kernel) (rps_str (by rcases readR_prog e with rfl | rfl | rfl <;> decide +kernel)) (by omega)).mono (by omega) (by omega)⟩
theorem res_val {l : List Nat} {s : RS} (e : readR l = .val s) : ∃ v, resD (readR l) = .tup [.str "value", v] := ⟨_, by rw [e]; rfl⟩
end Sd
set_option Elab.async false
set_option linter.all false
set_option maxRecDepth 100000
set_option maxHeartbeats 4000000
namespace Sd
open PySem PySem.Spec L2
def topS (i : Nat) : Stmt := PySem.Challenge.pw_seedless_k82_what_is_no_text.main.body.getD i (.Pass ⟨0, 0, 0, 0⟩)
abbrev s_BadProgram_init : Stmt := inClass (topS 3) 0
abbrev s_BadText_init : Stmt := inClass (topS 4) 0
abbrev s_is_integer : Stmt := topS 10
abbrev N_is_integer : List Str := ["thing"]
theorem sc_is_integer : FnScope N_is_integer ["thing"] (defScope s_is_integer) := ⟨rfl, rfl, rfl, by decide +kernel, rfl, by decide +kernel, by decide +kernel⟩
abbrev s_is_name : Stmt := topS 11
abbrev N_is_name : List Str := ["thing", "sign"]
theorem sc_is_name : FnScope N_is_name ["thing"] (defScope s_is_name) := ⟨rfl, rfl, rfl, by decide +kernel, rfl, by decide +kernel, by decide +kernel⟩
abbrev s_are_kinds : Stmt := topS 12
abbrev N_are_kinds : List Str := ["thing", "one", "other"]
theorem sc_are_kinds : FnScope N_are_kinds ["thing"] (defScope s_are_kinds) := ⟨rfl, rfl, rfl, by decide +kernel, rfl, by decide +kernel, by decide +kernel⟩
abbrev s_is_state : Stmt := topS 13
abbrev N_is_state : List Str := ["many", "thing"]
theorem sc_is_state : FnScope N_is_state ["many", "thing"] (defScope s_is_state) := ⟨rfl, rfl, rfl, by decide +kernel, rfl, by decide +kernel, by decide +kernel⟩
abbrev s_is_pair : Stmt := topS 14
abbrev N_is_pair : List Str := ["many", "thing"]
theorem sc_is_pair : FnScope N_is_pair ["many", "thing"] (defScope s_is_pair) := ⟨rfl, rfl, rfl, by decide +kernel, rfl, by decide +kernel, by decide +kernel⟩
abbrev s_are_rows : Stmt := topS 15
abbrev N_are_rows : List Str := ["size", "thing", "row", "pair"]
theorem sc_are_rows : FnScope N_are_rows ["size", "thing"] (defScope s_are_rows) := ⟨rfl, rfl, rfl, by decide +kernel, rfl, by decide +kernel, by decide +kernel⟩
abbrev s_is_pass : Stmt := topS 16
abbrev N_is_pass : List Str := ["size", "begins", "thing", "state"]
theorem sc_is_pass : FnScope N_is_pass ["size", "begins", "thing"] (defScope s_is_pass) := ⟨rfl, rfl, rfl, by decide +kernel, rfl, by decide +kernel, by decide +kernel⟩
abbrev s_are_passes : Stmt := topS 17
abbrev N_are_passes : List Str := ["size", "thing", "one"]
theorem sc_are_passes : FnScope N_are_passes ["size", "thing"] (defScope s_are_passes) := ⟨rfl, rfl, rfl, by decide +kernel, rfl, by decide +kernel, by decide +kernel⟩
abbrev s_is_tell : Stmt := topS 18
abbrev N_is_tell : List Str := ["thing"]
theorem sc_is_tell : FnScope N_is_tell ["thing"] (defScope s_is_tell) := ⟨rfl, rfl, rfl, by decide +kernel, rfl, by decide +kernel, by decide +kernel⟩
abbrev s_Program_init : Stmt := inClass (topS 19) 0
abbrev N_Program_init : List Str := ["self", "kinds", "passes", "tells", "one"]
theorem sc_Program_init : FnScope N_Program_init ["self", "kinds", "passes", "tells"] (defScope s_Program_init) := ⟨rfl, rfl, rfl, by decide +kernel, rfl, by decide +kernel, by decide +kernel⟩
abbrev s_Program_kinds : Stmt := inClass (topS 19) 2
abbrev N_Program_kinds : List Str := ["self"]
theorem sc_Program_kinds : FnScope N_Program_kinds ["self"] (defScope s_Program_kinds) := ⟨rfl, rfl, rfl, by decide +kernel, rfl, by decide +kernel, by decide +kernel⟩
abbrev s_Program_passes : Stmt := inClass (topS 19) 3
abbrev N_Program_passes : List Str := ["self"]
theorem sc_Program_passes : FnScope N_Program_passes ["self"] (defScope s_Program_passes) := ⟨rfl, rfl, rfl, by decide +kernel, rfl, by decide +kernel, by decide +kernel⟩
abbrev s_Program_tells : Stmt := inClass (topS 19) 4
abbrev N_Program_tells : List Str := ["self"]
theorem sc_Program_tells : FnScope N_Program_tells ["self"] (defScope s_Program_tells) := ⟨rfl, rfl, rfl, by decide +kernel, rfl, by decide +kernel, by decide +kernel⟩
abbrev s_Program_parts : Stmt := inClass (topS 19) 5
abbrev N_Program_parts : List Str := ["self"]
theorem sc_Program_parts : FnScope N_Program_parts ["self"] (defScope s_Program_parts) := ⟨rfl, rfl, rfl, by decide +kernel, rfl, by decide +kernel, by decide +kernel⟩
abbrev s_Program_eq : Stmt := inClass (topS 19) 6
abbrev N_Program_eq : List Str := ["self", "other"]
theorem sc_Program_eq : FnScope N_Program_eq ["self", "other"] (defScope s_Program_eq) := ⟨rfl, rfl, rfl, by decide +kernel, rfl, by decide +kernel, by decide +kernel⟩
abbrev s_is_numeral : Stmt := topS 25
abbrev N_is_numeral : List Str := ["word", "digits", "sign"]
theorem sc_is_numeral : FnScope N_is_numeral ["word"] (defScope s_is_numeral) := ⟨rfl, rfl, rfl, by decide +kernel, rfl, by decide +kernel, by decide +kernel⟩
abbrev s_numbers_in : Stmt := topS 26
abbrev N_numbers_in : List Str := ["words", "word"]
theorem sc_numbers_in : FnScope N_numbers_in ["words"] (defScope s_numbers_in) := ⟨rfl, rfl, rfl, by decide +kernel, rfl, by decide +kernel, by decide +kernel⟩
abbrev s_read_row : Stmt := topS 27
abbrev N_read_row : List Str := ["size", "line", "numbers", "spot"]
theorem sc_read_row : FnScope N_read_row ["size", "line"] (defScope s_read_row) := ⟨rfl, rfl, rfl, by decide +kernel, rfl, by decide +kernel, by decide +kernel⟩
abbrev s_Reader_init : Stmt := inClass (topS 28) 0
abbrev N_Reader_init : List Str := ["self"]
theorem sc_Reader_init : FnScope N_Reader_init ["self"] (defScope s_Reader_init) := ⟨rfl, rfl, rfl, by decide +kernel, rfl, by decide +kernel, by decide +kernel⟩
abbrev s_Reader_takes_kinds : Stmt := inClass (topS 28) 1
abbrev N_Reader_takes_kinds : List Str := ["self", "words", "word"]
theorem sc_Reader_takes_kinds : FnScope N_Reader_takes_kinds ["self", "words"] (defScope s_Reader_takes_kinds) := ⟨rfl, rfl, rfl, by decide +kernel, rfl, by decide +kernel, by decide +kernel⟩
abbrev s_Reader_takes_pass : Stmt := inClass (topS 28) 2
abbrev N_Reader_takes_pass : List Str := ["self", "words", "begins"]
theorem sc_Reader_takes_pass : FnScope N_Reader_takes_pass ["self", "words"] (defScope s_Reader_takes_pass) := ⟨rfl, rfl, rfl, by decide +kernel, rfl, by decide +kernel, by decide +kernel⟩
abbrev s_Reader_takes_row : Stmt := inClass (topS 28) 3
abbrev N_Reader_takes_row : List Str := ["self", "line", "row"]
theorem sc_Reader_takes_row : FnScope N_Reader_takes_row ["self", "line"] (defScope s_Reader_takes_row) := ⟨rfl, rfl, rfl, by decide +kernel, rfl, by decide +kernel, by decide +kernel⟩
abbrev s_Reader_takes_tell : Stmt := inClass (topS 28) 4
abbrev N_Reader_takes_tell : List Str := ["self", "words"]
theorem sc_Reader_takes_tell : FnScope N_Reader_takes_tell ["self", "words"] (defScope s_Reader_takes_tell) := ⟨rfl, rfl, rfl, by decide +kernel, rfl, by decide +kernel, by decide +kernel⟩
abbrev s_Reader_takes : Stmt := inClass (topS 28) 5
abbrev N_Reader_takes : List Str := ["self", "line", "words"]
theorem sc_Reader_takes : FnScope N_Reader_takes ["self", "line"] (defScope s_Reader_takes) := ⟨rfl, rfl, rfl, by decide +kernel, rfl, by decide +kernel, by decide +kernel⟩
abbrev s_Reader_result : Stmt := inClass (topS 28) 6
abbrev N_Reader_result : List Str := ["self", "passes", "begins", "rows"]
theorem sc_Reader_result : FnScope N_Reader_result ["self"] (defScope s_Reader_result) := ⟨rfl, rfl, rfl, by decide +kernel, rfl, by decide +kernel, by decide +kernel⟩
abbrev s_read_program : Stmt := topS 29
abbrev N_read_program : List Str := ["text", "lines", "reader", "is_ended", "row", "line"]
theorem sc_read_program : FnScope N_read_program ["text"] (defScope s_read_program) := ⟨rfl, rfl, rfl, by decide +kernel, rfl, by decide +kernel, by decide +kernel⟩
abbrev s_read_order : Stmt := topS 30
abbrev N_read_order : List Str := ["program", "text", "words", "word"]
theorem sc_read_order : FnScope N_read_order ["program", "text"] (defScope s_read_order) := ⟨rfl, rfl, rfl, by decide +kernel, rfl, by decide +kernel, by decide +kernel⟩
abbrev s__law_state : Stmt := topS 32
abbrev N__law_state : List Str := ["_law_script", "_law_cell"]
theorem sc__law_state : FnScope N__law_state ["_law_script"] (defScope s__law_state) := ⟨rfl, rfl, rfl, by decide +kernel, rfl, by decide +kernel, by decide +kernel⟩
abbrev s__law_draw : Stmt := topS 33
abbrev N__law_draw : List Str := ["_law_draws", "_law_many", "_law_cells", "_law_spot", "_law_cell", "_law_mixed"]
theorem sc__law_draw : FnScope N__law_draw ["_law_draws", "_law_many"] (defScope s__law_draw) := ⟨rfl, rfl, rfl, by decide +kernel, rfl, by decide +kernel, by decide +kernel⟩
abbrev s__law_pick : Stmt := topS 34
abbrev N__law_pick : List Str := ["_law_draws", "_law_some"]
theorem sc__law_pick : FnScope N__law_pick ["_law_draws", "_law_some"] (defScope s__law_pick) := ⟨rfl, rfl, rfl, by decide +kernel, rfl, by decide +kernel, by decide +kernel⟩
abbrev s__law_labels : Stmt := topS 35
abbrev N__law_labels : List Str := ["_law_draws", "_law_many", "_law_letters", "_law_found", "_law_own", "_law_k", "_law_label", "_law_others", "_law_j", "_law_sign", "_law_word"]
theorem sc__law_labels : FnScope N__law_labels ["_law_draws", "_law_many"] (defScope s__law_labels) := ⟨rfl, rfl, rfl, by decide +kernel, rfl, by decide +kernel, by decide +kernel⟩
abbrev s__law_gain : Stmt := topS 36
abbrev N__law_gain : List Str := ["_law_draws", "_law_far"]
theorem sc__law_gain : FnScope N__law_gain ["_law_draws"] (defScope s__law_gain) := ⟨rfl, rfl, rfl, by decide +kernel, rfl, by decide +kernel, by decide +kernel⟩
abbrev s__law_lap : Stmt := topS 37
abbrev N__law_lap : List Str := ["_law_draws", "_law_size", "_law_starts", "_law_most", "_law_many", "_law_lines_here", "_law_at", "_law_line", "_law_k"]
theorem sc__law_lap : FnScope N__law_lap ["_law_draws", "_law_size", "_law_starts", "_law_most"] (defScope s__law_lap) := ⟨rfl, rfl, rfl, by decide +kernel, rfl, by decide +kernel, by decide +kernel⟩
abbrev s__law_parts : Stmt := topS 38
abbrev N__law_parts : List Str := ["_law_draws", "_law_many", "_law_most", "_law_sorts", "_law_laps", "_law_words", "_law_extras", "_law_says", "_law_line"]
theorem sc__law_parts : FnScope N__law_parts ["_law_draws", "_law_many", "_law_most"] (defScope s__law_parts) := ⟨rfl, rfl, rfl, by decide +kernel, rfl, by decide +kernel, by decide +kernel⟩
abbrev s__law_made : Stmt := topS 39
abbrev N__law_made : List Str := ["_law_parts_here"]
theorem sc__law_made : FnScope N__law_made ["_law_parts_here"] (defScope s__law_made) := ⟨rfl, rfl, rfl, by decide +kernel, rfl, by decide +kernel, by decide +kernel⟩
abbrev s__law_tour : Stmt := topS 40
abbrev N__law_tour : List Str := ["_law_draws", "_law_sorts", "_law_most", "_law_k"]
theorem sc__law_tour : FnScope N__law_tour ["_law_draws", "_law_sorts", "_law_most"] (defScope s__law_tour) := ⟨rfl, rfl, rfl, by decide +kernel, rfl, by decide +kernel, by decide +kernel⟩
abbrev s__law_is_name : Stmt := topS 41
abbrev N__law_is_name : List Str := ["_law_value", "_law_sign"]
theorem sc__law_is_name : FnScope N__law_is_name ["_law_value"] (defScope s__law_is_name) := ⟨rfl, rfl, rfl, by decide +kernel, rfl, by decide +kernel, by decide +kernel⟩
abbrev s__law_is_int : Stmt := topS 42
abbrev N__law_is_int : List Str := ["_law_value"]
theorem sc__law_is_int : FnScope N__law_is_int ["_law_value"] (defScope s__law_is_int) := ⟨rfl, rfl, rfl, by decide +kernel, rfl, by decide +kernel, by decide +kernel⟩
abbrev s__law_is_state : Stmt := topS 43
abbrev N__law_is_state : List Str := ["_law_many", "_law_value"]
theorem sc__law_is_state : FnScope N__law_is_state ["_law_many", "_law_value"] (defScope s__law_is_state) := ⟨rfl, rfl, rfl, by decide +kernel, rfl, by decide +kernel, by decide +kernel⟩
abbrev s__law_is_lap : Stmt := topS 44
abbrev N__law_is_lap : List Str := ["_law_size", "_law_starts", "_law_value", "_law_many", "_law_line", "_law_pair", "_law_state_here"]
theorem sc__law_is_lap : FnScope N__law_is_lap ["_law_size", "_law_starts", "_law_value"] (defScope s__law_is_lap) := ⟨rfl, rfl, rfl, by decide +kernel, rfl, by decide +kernel, by decide +kernel⟩
abbrev s__law_wrong_part : Stmt := topS 45
abbrev N__law_wrong_part : List Str := ["_law_sorts", "_law_laps", "_law_says", "_law_one", "_law_other"]
theorem sc__law_wrong_part : FnScope N__law_wrong_part ["_law_sorts", "_law_laps", "_law_says"] (defScope s__law_wrong_part) := ⟨rfl, rfl, rfl, by decide +kernel, rfl, by decide +kernel, by decide +kernel⟩
abbrev s__law_lines : Stmt := topS 46
abbrev N__law_lines : List Str := ["_law_parts_here", "_law_found", "_law_starts", "_law_lines_here", "_law_line", "_law_state_here", "_law_gain_here", "_law_label", "_law_extra"]
theorem sc__law_lines : FnScope N__law_lines ["_law_parts_here"] (defScope s__law_lines) := ⟨rfl, rfl, rfl, by decide +kernel, rfl, by decide +kernel, by decide +kernel⟩
abbrev s__law_page : Stmt := topS 47
abbrev N__law_page : List Str := ["_law_lines_here", "_law_line"]
theorem sc__law_page : FnScope N__law_page ["_law_lines_here"] (defScope s__law_page) := ⟨rfl, rfl, rfl, by decide +kernel, rfl, by decide +kernel, by decide +kernel⟩
abbrev s__law_is_numeral : Stmt := topS 48
abbrev N__law_is_numeral : List Str := ["_law_word", "_law_digits", "_law_sign"]
theorem sc__law_is_numeral : FnScope N__law_is_numeral ["_law_word"] (defScope s__law_is_numeral) := ⟨rfl, rfl, rfl, by decide +kernel, rfl, by decide +kernel, by decide +kernel⟩
abbrev s__law_numbers : Stmt := topS 49
abbrev N__law_numbers : List Str := ["_law_words", "_law_word"]
theorem sc__law_numbers : FnScope N__law_numbers ["_law_words"] (defScope s__law_numbers) := ⟨rfl, rfl, rfl, by decide +kernel, rfl, by decide +kernel, by decide +kernel⟩
abbrev s__law_taken : Stmt := topS 50
abbrev N__law_taken : List Str := ["_law_state_here", "_law_line", "_law_words", "_law_fits", "_law_numbers_here", "_law_pairs", "_law_word", "_law_k"]
theorem sc__law_taken : FnScope N__law_taken ["_law_state_here", "_law_line"] (defScope s__law_taken) := ⟨rfl, rfl, rfl, by decide +kernel, rfl, by decide +kernel, by decide +kernel⟩
abbrev s__law_read : Stmt := topS 51
abbrev N__law_read : List Str := ["_law_text", "_law_lines_here", "_law_state_here", "_law_is_ended", "_law_spot", "_law_line", "_law_parts_here", "_law_wrong"]
theorem sc__law_read : FnScope N__law_read ["_law_text"] (defScope s__law_read) := ⟨rfl, rfl, rfl, by decide +kernel, rfl, by decide +kernel, by decide +kernel⟩
abbrev s__law_text_told : Stmt := topS 52
abbrev N__law_text_told : List Str := ["_law_work", "_law_error", "_law_found", "e"]
theorem sc__law_text_told : FnScope N__law_text_told ["_law_work"] (defScope s__law_text_told) := ⟨rfl, rfl, rfl, by decide +kernel, rfl, by decide +kernel, by decide +kernel⟩
abbrev s__law_tour_of : Stmt := topS 53
abbrev N__law_tour_of : List Str := ["_law_sorts", "_law_text", "_law_words", "_law_word"]
theorem sc__law_tour_of : FnScope N__law_tour_of ["_law_sorts", "_law_text"] (defScope s__law_tour_of) := ⟨rfl, rfl, rfl, by decide +kernel, rfl, by decide +kernel, by decide +kernel⟩
abbrev s__law_bent_text : Stmt := topS 54
abbrev N__law_bent_text : List Str := ["_law_draws", "_law_sorts", "_law_words", "_law_text", "_law_change", "_law_spot", "_law_sign"]
theorem sc__law_bent_text : FnScope N__law_bent_text ["_law_draws", "_law_sorts"] (defScope s__law_bent_text) := ⟨rfl, rfl, rfl, by decide +kernel, rfl, by decide +kernel, by decide +kernel⟩
abbrev s_law : Stmt := topS 55
abbrev N_law : List Str := ["_law_script", "_law_draws", "_law_turn", "_law_parts_here", "_law_made_here", "_law_value", "_law_text", "_law_spot", "_law_due", "_law_told", "_law_word", "_law_page_here", "_law_again"]
theorem sc_law : FnScope N_law ["_law_script"] (defScope s_law) := ⟨rfl, rfl, rfl, by decide +kernel, rfl, by decide +kernel, by decide +kernel⟩
structure Tx (P : Program) (K : PySem.W.Frag) (mg : Str → Option Value) where
  a_Program : Addr
  g_Program : mg "Program" = some (.ref a_Program)
  c_Program : Cls K a_Program
  n_Program_p_kinds : NoAttr K a_Program "p_kinds"
  n_Program_p_passes : NoAttr K a_Program "p_passes"
  n_Program_p_tells : NoAttr K a_Program "p_tells"
  i_Program : IsC K a_Program
  self_Program : PySem.W.kitOne K (.ref a_Program) (.ref a_Program) = some true
  a_Reader : Addr
  g_Reader : mg "Reader" = some (.ref a_Reader)
  c_Reader : Cls K a_Reader
  n_Reader_r_kinds : NoAttr K a_Reader "r_kinds"
  n_Reader_r_passes : NoAttr K a_Reader "r_passes"
  n_Reader_r_tells : NoAttr K a_Reader "r_tells"
  a_SeedError : Addr
  g_SeedError : mg "SeedError" = some (.ref a_SeedError)
  m_super : mg "super" = none
  a_BadProgram : Addr
  g_BadProgram : mg "BadProgram" = some (.ref a_BadProgram)
  f_BadProgram_init : Addr
  d_BadProgram_init : FuncData
  I_BadProgram : IniF P K a_BadProgram f_BadProgram_init d_BadProgram_init "part" "part"
  E_BadProgram : ErrF K a_SeedError a_BadProgram f_BadProgram_init "part"
  b_BadProgram_init : Binds K d_BadProgram_init ["self", "part"] []
  a_BadText : Addr
  g_BadText : mg "BadText" = some (.ref a_BadText)
  f_BadText_init : Addr
  d_BadText_init : FuncData
  I_BadText : IniF P K a_BadText f_BadText_init d_BadText_init "row" "row"
  E_BadText : ErrF K a_SeedError a_BadText f_BadText_init "row"
  b_BadText_init : Binds K d_BadText_init ["self", "row"] []
  no_BadProgram_BadText : PySem.W.kitOne K (.ref a_BadProgram) (.ref a_BadText) = some false
  f_is_integer : Addr
  d_is_integer : FuncData
  F_is_integer : Fun K "is_integer" "is_integer" s_is_integer f_is_integer d_is_integer
  b_is_integer : Binds K d_is_integer ["thing"] []
  g_is_integer : mg "is_integer" = some (.ref f_is_integer)
  f_is_name : Addr
  d_is_name : FuncData
  F_is_name : Fun K "is_name" "is_name" s_is_name f_is_name d_is_name
  b_is_name : Binds K d_is_name ["thing"] []
  g_is_name : mg "is_name" = some (.ref f_is_name)
  f_are_kinds : Addr
  d_are_kinds : FuncData
  F_are_kinds : Fun K "are_kinds" "are_kinds" s_are_kinds f_are_kinds d_are_kinds
  b_are_kinds : Binds K d_are_kinds ["thing"] []
  g_are_kinds : mg "are_kinds" = some (.ref f_are_kinds)
  f_is_state : Addr
  d_is_state : FuncData
  F_is_state : Fun K "is_state" "is_state" s_is_state f_is_state d_is_state
  b_is_state : Binds K d_is_state ["many", "thing"] []
  g_is_state : mg "is_state" = some (.ref f_is_state)
  f_is_pair : Addr
  d_is_pair : FuncData
  F_is_pair : Fun K "is_pair" "is_pair" s_is_pair f_is_pair d_is_pair
  b_is_pair : Binds K d_is_pair ["many", "thing"] []
  g_is_pair : mg "is_pair" = some (.ref f_is_pair)
  f_are_rows : Addr
  d_are_rows : FuncData
  F_are_rows : Fun K "are_rows" "are_rows" s_are_rows f_are_rows d_are_rows
  b_are_rows : Binds K d_are_rows ["size", "thing"] []
  g_are_rows : mg "are_rows" = some (.ref f_are_rows)
  f_is_pass : Addr
  d_is_pass : FuncData
  F_is_pass : Fun K "is_pass" "is_pass" s_is_pass f_is_pass d_is_pass
  b_is_pass : Binds K d_is_pass ["size", "begins", "thing"] []
  g_is_pass : mg "is_pass" = some (.ref f_is_pass)
  f_are_passes : Addr
  d_are_passes : FuncData
  F_are_passes : Fun K "are_passes" "are_passes" s_are_passes f_are_passes d_are_passes
  b_are_passes : Binds K d_are_passes ["size", "thing"] []
  g_are_passes : mg "are_passes" = some (.ref f_are_passes)
  f_is_tell : Addr
  d_is_tell : FuncData
  F_is_tell : Fun K "is_tell" "is_tell" s_is_tell f_is_tell d_is_tell
  b_is_tell : Binds K d_is_tell ["thing"] []
  g_is_tell : mg "is_tell" = some (.ref f_is_tell)
  f_Program_init : Addr
  d_Program_init : FuncData
  F_Program_init : Fun K "__init__" "Program.__init__" s_Program_init f_Program_init d_Program_init
  b_Program_init : Binds K d_Program_init ["self", "kinds", "passes", "tells"] []
  K_Program : Mk K a_Program f_Program_init
  f_Program_kinds : Addr
  d_Program_kinds : FuncData
  F_Program_kinds : Fun K "kinds" "Program.kinds" s_Program_kinds f_Program_kinds d_Program_kinds
  b_Program_kinds : Binds K d_Program_kinds ["self"] []
  p_Program_kinds : Addr
  P_Program_kinds : PropOf K a_Program "kinds" p_Program_kinds f_Program_kinds
  f_Program_passes : Addr
  d_Program_passes : FuncData
  F_Program_passes : Fun K "passes" "Program.passes" s_Program_passes f_Program_passes d_Program_passes
  b_Program_passes : Binds K d_Program_passes ["self"] []
  p_Program_passes : Addr
  P_Program_passes : PropOf K a_Program "passes" p_Program_passes f_Program_passes
  f_Program_tells : Addr
  d_Program_tells : FuncData
  F_Program_tells : Fun K "tells" "Program.tells" s_Program_tells f_Program_tells d_Program_tells
  b_Program_tells : Binds K d_Program_tells ["self"] []
  p_Program_tells : Addr
  P_Program_tells : PropOf K a_Program "tells" p_Program_tells f_Program_tells
  f_Program_parts : Addr
  d_Program_parts : FuncData
  F_Program_parts : Fun K "parts" "Program.parts" s_Program_parts f_Program_parts d_Program_parts
  b_Program_parts : Binds K d_Program_parts ["self"] []
  M_Program_parts : Meth K a_Program "parts" f_Program_parts
  f_Program_eq : Addr
  d_Program_eq : FuncData
  F_Program_eq : Fun K "__eq__" "Program.__eq__" s_Program_eq f_Program_eq d_Program_eq
  b_Program_eq : Binds K d_Program_eq ["self", "other"] []
  e_Program : OwnCmp K a_Program f_Program_eq
  f_is_numeral : Addr
  d_is_numeral : FuncData
  F_is_numeral : Fun K "is_numeral" "is_numeral" s_is_numeral f_is_numeral d_is_numeral
  b_is_numeral : Binds K d_is_numeral ["word"] []
  g_is_numeral : mg "is_numeral" = some (.ref f_is_numeral)
  f_numbers_in : Addr
  d_numbers_in : FuncData
  F_numbers_in : Fun K "numbers_in" "numbers_in" s_numbers_in f_numbers_in d_numbers_in
  b_numbers_in : Binds K d_numbers_in ["words"] []
  g_numbers_in : mg "numbers_in" = some (.ref f_numbers_in)
  f_read_row : Addr
  d_read_row : FuncData
  F_read_row : Fun K "read_row" "read_row" s_read_row f_read_row d_read_row
  b_read_row : Binds K d_read_row ["size", "line"] []
  g_read_row : mg "read_row" = some (.ref f_read_row)
  f_Reader_init : Addr
  d_Reader_init : FuncData
  F_Reader_init : Fun K "__init__" "Reader.__init__" s_Reader_init f_Reader_init d_Reader_init
  b_Reader_init : Binds K d_Reader_init ["self"] []
  K_Reader : Mk K a_Reader f_Reader_init
  f_Reader_takes_kinds : Addr
  d_Reader_takes_kinds : FuncData
  F_Reader_takes_kinds : Fun K "takes_kinds" "Reader.takes_kinds" s_Reader_takes_kinds f_Reader_takes_kinds d_Reader_takes_kinds
  b_Reader_takes_kinds : Binds K d_Reader_takes_kinds ["self", "words"] []
  M_Reader_takes_kinds : Meth K a_Reader "takes_kinds" f_Reader_takes_kinds
  f_Reader_takes_pass : Addr
  d_Reader_takes_pass : FuncData
  F_Reader_takes_pass : Fun K "takes_pass" "Reader.takes_pass" s_Reader_takes_pass f_Reader_takes_pass d_Reader_takes_pass
  b_Reader_takes_pass : Binds K d_Reader_takes_pass ["self", "words"] []
  M_Reader_takes_pass : Meth K a_Reader "takes_pass" f_Reader_takes_pass
  f_Reader_takes_row : Addr
  d_Reader_takes_row : FuncData
  F_Reader_takes_row : Fun K "takes_row" "Reader.takes_row" s_Reader_takes_row f_Reader_takes_row d_Reader_takes_row
  b_Reader_takes_row : Binds K d_Reader_takes_row ["self", "line"] []
  M_Reader_takes_row : Meth K a_Reader "takes_row" f_Reader_takes_row
  f_Reader_takes_tell : Addr
  d_Reader_takes_tell : FuncData
  F_Reader_takes_tell : Fun K "takes_tell" "Reader.takes_tell" s_Reader_takes_tell f_Reader_takes_tell d_Reader_takes_tell
  b_Reader_takes_tell : Binds K d_Reader_takes_tell ["self", "words"] []
  M_Reader_takes_tell : Meth K a_Reader "takes_tell" f_Reader_takes_tell
  f_Reader_takes : Addr
  d_Reader_takes : FuncData
  F_Reader_takes : Fun K "takes" "Reader.takes" s_Reader_takes f_Reader_takes d_Reader_takes
  b_Reader_takes : Binds K d_Reader_takes ["self", "line"] []
  M_Reader_takes : Meth K a_Reader "takes" f_Reader_takes
  f_Reader_result : Addr
  d_Reader_result : FuncData
  F_Reader_result : Fun K "result" "Reader.result" s_Reader_result f_Reader_result d_Reader_result
  b_Reader_result : Binds K d_Reader_result ["self"] []
  M_Reader_result : Meth K a_Reader "result" f_Reader_result
  f_read_program : Addr
  d_read_program : FuncData
  F_read_program : Fun K "read_program" "read_program" s_read_program f_read_program d_read_program
  b_read_program : Binds K d_read_program ["text"] []
  g_read_program : mg "read_program" = some (.ref f_read_program)
  f_read_order : Addr
  d_read_order : FuncData
  F_read_order : Fun K "read_order" "read_order" s_read_order f_read_order d_read_order
  b_read_order : Binds K d_read_order ["program", "text"] []
  g_read_order : mg "read_order" = some (.ref f_read_order)
  f__law_state : Addr
  d__law_state : FuncData
  F__law_state : Fun K "_law_state" "_law_state" s__law_state f__law_state d__law_state
  b__law_state : Binds K d__law_state ["_law_script"] []
  g__law_state : mg "_law_state" = some (.ref f__law_state)
  f__law_draw : Addr
  d__law_draw : FuncData
  F__law_draw : Fun K "_law_draw" "_law_draw" s__law_draw f__law_draw d__law_draw
  b__law_draw : Binds K d__law_draw ["_law_draws", "_law_many"] []
  g__law_draw : mg "_law_draw" = some (.ref f__law_draw)
  f__law_pick : Addr
  d__law_pick : FuncData
  F__law_pick : Fun K "_law_pick" "_law_pick" s__law_pick f__law_pick d__law_pick
  b__law_pick : Binds K d__law_pick ["_law_draws", "_law_some"] []
  g__law_pick : mg "_law_pick" = some (.ref f__law_pick)
  f__law_labels : Addr
  d__law_labels : FuncData
  F__law_labels : Fun K "_law_labels" "_law_labels" s__law_labels f__law_labels d__law_labels
  b__law_labels : Binds K d__law_labels ["_law_draws", "_law_many"] []
  g__law_labels : mg "_law_labels" = some (.ref f__law_labels)
  f__law_gain : Addr
  d__law_gain : FuncData
  F__law_gain : Fun K "_law_gain" "_law_gain" s__law_gain f__law_gain d__law_gain
  b__law_gain : Binds K d__law_gain ["_law_draws"] []
  g__law_gain : mg "_law_gain" = some (.ref f__law_gain)
  f__law_lap : Addr
  d__law_lap : FuncData
  F__law_lap : Fun K "_law_lap" "_law_lap" s__law_lap f__law_lap d__law_lap
  b__law_lap : Binds K d__law_lap ["_law_draws", "_law_size", "_law_starts", "_law_most"] []
  g__law_lap : mg "_law_lap" = some (.ref f__law_lap)
  f__law_parts : Addr
  d__law_parts : FuncData
  F__law_parts : Fun K "_law_parts" "_law_parts" s__law_parts f__law_parts d__law_parts
  b__law_parts : Binds K d__law_parts ["_law_draws", "_law_many", "_law_most"] []
  g__law_parts : mg "_law_parts" = some (.ref f__law_parts)
  f__law_made : Addr
  d__law_made : FuncData
  F__law_made : Fun K "_law_made" "_law_made" s__law_made f__law_made d__law_made
  b__law_made : Binds K d__law_made ["_law_parts_here"] []
  g__law_made : mg "_law_made" = some (.ref f__law_made)
  f__law_tour : Addr
  d__law_tour : FuncData
  F__law_tour : Fun K "_law_tour" "_law_tour" s__law_tour f__law_tour d__law_tour
  b__law_tour : Binds K d__law_tour ["_law_draws", "_law_sorts", "_law_most"] []
  g__law_tour : mg "_law_tour" = some (.ref f__law_tour)
  f__law_is_name : Addr
  d__law_is_name : FuncData
  F__law_is_name : Fun K "_law_is_name" "_law_is_name" s__law_is_name f__law_is_name d__law_is_name
  b__law_is_name : Binds K d__law_is_name ["_law_value"] []
  g__law_is_name : mg "_law_is_name" = some (.ref f__law_is_name)
  f__law_is_int : Addr
  d__law_is_int : FuncData
  F__law_is_int : Fun K "_law_is_int" "_law_is_int" s__law_is_int f__law_is_int d__law_is_int
  b__law_is_int : Binds K d__law_is_int ["_law_value"] []
  g__law_is_int : mg "_law_is_int" = some (.ref f__law_is_int)
  f__law_is_state : Addr
  d__law_is_state : FuncData
  F__law_is_state : Fun K "_law_is_state" "_law_is_state" s__law_is_state f__law_is_state d__law_is_state
  b__law_is_state : Binds K d__law_is_state ["_law_many", "_law_value"] []
  g__law_is_state : mg "_law_is_state" = some (.ref f__law_is_state)
  f__law_is_lap : Addr
  d__law_is_lap : FuncData
  F__law_is_lap : Fun K "_law_is_lap" "_law_is_lap" s__law_is_lap f__law_is_lap d__law_is_lap
  b__law_is_lap : Binds K d__law_is_lap ["_law_size", "_law_starts", "_law_value"] []
  g__law_is_lap : mg "_law_is_lap" = some (.ref f__law_is_lap)
  f__law_wrong_part : Addr
  d__law_wrong_part : FuncData
  F__law_wrong_part : Fun K "_law_wrong_part" "_law_wrong_part" s__law_wrong_part f__law_wrong_part d__law_wrong_part
  b__law_wrong_part : Binds K d__law_wrong_part ["_law_sorts", "_law_laps", "_law_says"] []
  g__law_wrong_part : mg "_law_wrong_part" = some (.ref f__law_wrong_part)
  f__law_lines : Addr
  d__law_lines : FuncData
  F__law_lines : Fun K "_law_lines" "_law_lines" s__law_lines f__law_lines d__law_lines
  b__law_lines : Binds K d__law_lines ["_law_parts_here"] []
  g__law_lines : mg "_law_lines" = some (.ref f__law_lines)
  f__law_page : Addr
  d__law_page : FuncData
  F__law_page : Fun K "_law_page" "_law_page" s__law_page f__law_page d__law_page
  b__law_page : Binds K d__law_page ["_law_lines_here"] []
  g__law_page : mg "_law_page" = some (.ref f__law_page)
  f__law_is_numeral : Addr
  d__law_is_numeral : FuncData
  F__law_is_numeral : Fun K "_law_is_numeral" "_law_is_numeral" s__law_is_numeral f__law_is_numeral d__law_is_numeral
  b__law_is_numeral : Binds K d__law_is_numeral ["_law_word"] []
  g__law_is_numeral : mg "_law_is_numeral" = some (.ref f__law_is_numeral)
  f__law_numbers : Addr
  d__law_numbers : FuncData
  F__law_numbers : Fun K "_law_numbers" "_law_numbers" s__law_numbers f__law_numbers d__law_numbers
  b__law_numbers : Binds K d__law_numbers ["_law_words"] []
  g__law_numbers : mg "_law_numbers" = some (.ref f__law_numbers)
  f__law_taken : Addr
  d__law_taken : FuncData
  F__law_taken : Fun K "_law_taken" "_law_taken" s__law_taken f__law_taken d__law_taken
  b__law_taken : Binds K d__law_taken ["_law_state_here", "_law_line"] []
  g__law_taken : mg "_law_taken" = some (.ref f__law_taken)
  f__law_read : Addr
  d__law_read : FuncData
  F__law_read : Fun K "_law_read" "_law_read" s__law_read f__law_read d__law_read
  b__law_read : Binds K d__law_read ["_law_text"] []
  g__law_read : mg "_law_read" = some (.ref f__law_read)
  f__law_text_told : Addr
  d__law_text_told : FuncData
  F__law_text_told : Fun K "_law_text_told" "_law_text_told" s__law_text_told f__law_text_told d__law_text_told
  b__law_text_told : Binds K d__law_text_told ["_law_work"] []
  g__law_text_told : mg "_law_text_told" = some (.ref f__law_text_told)
  f__law_tour_of : Addr
  d__law_tour_of : FuncData
  F__law_tour_of : Fun K "_law_tour_of" "_law_tour_of" s__law_tour_of f__law_tour_of d__law_tour_of
  b__law_tour_of : Binds K d__law_tour_of ["_law_sorts", "_law_text"] []
  g__law_tour_of : mg "_law_tour_of" = some (.ref f__law_tour_of)
  f__law_bent_text : Addr
  d__law_bent_text : FuncData
  F__law_bent_text : Fun K "_law_bent_text" "_law_bent_text" s__law_bent_text f__law_bent_text d__law_bent_text
  b__law_bent_text : Binds K d__law_bent_text ["_law_draws", "_law_sorts"] []
  g__law_bent_text : mg "_law_bent_text" = some (.ref f__law_bent_text)
  f_law : Addr
  d_law : FuncData
  c_law : Addr
  t_law : Addr
  F_law : FunC K "law" "law" s_law f_law d_law c_law
  b_law : Binds K d_law ["_law_script"] []
  g_law : mg "law" = some (.ref f_law)
  m_isinstance : mg "isinstance" = none
  m_len : mg "len" = none
  m_all : mg "all" = none
  m_abs : mg "abs" = none
  m_min : mg "min" = none
  m_int : mg "int" = none
  m_str : mg "str" = none
  m_bool : mg "bool" = none
  m_tuple : mg "tuple" = none
  m_list : mg "list" = none
  m_sorted : mg "sorted" = none
  m_repr : mg "repr" = none
  m_range : mg "range" = none
  m_enumerate : mg "enumerate" = none
  m_zip : mg "zip" = none
  m_LETTERS : ∃ t, mg "LETTERS" = some (.str "abcdefghijklmnopqrstuvwxyz" t)
  m_MOST_LETTERS : ∃ t, mg "MOST_LETTERS" = some (.int 8 t)
  m_MOST_KINDS : ∃ t, mg "MOST_KINDS" = some (.int 4 t)
  m_MOST_PASSES : ∃ t, mg "MOST_PASSES" = some (.int 2 t)
  m_DIGITS : ∃ t, mg "DIGITS" = some (.str "0123456789" t)
  m_MOST_DIGITS : ∃ t, mg "MOST_DIGITS" = some (.int 6 t)
  m_MARGIN : ∃ t, mg "MARGIN" = some (.str "  " t)
  m_EMPTY : ∃ t, mg "EMPTY" = some (.str "-" t)
end Sd
set_option Elab.async false
set_option linter.all false
set_option maxRecDepth 100000
set_option maxHeartbeats 4000000
namespace Sd
open PySem PySem.Spec L2
local macro_rules | `(tactic| walk_at "r") => `(tactic| (first | (dsimp only [cxOf, Cx.nox, Cx.wish, Cx.blk]; done) | (dsimp only [cxOf, Cx.nox, Cx.wish, Cx.blk]; rfl) | rfl))
local macro_rules | `(tactic| walk_at "k") => `(tactic| kernel_rfl)
local macro_rules | `(tactic| walk_at "s") => `(tactic| try dsimp only [cxOf, List.map_cons, List.map_nil])
local macro_rules | `(tactic| walk_at "d") => `(tactic| first
  | (with_reducible refine wps_seq ?_)
  | (with_reducible refine wps_ret ?_)
  | (with_reducible refine wps_if ?_)
  | (with_reducible refine wps_next ?_)
  | (with_reducible refine wps_drop ?_)
  | (with_reducible refine wpt_test ?_)
  | (with_reducible refine wpt_B ?_)
  | (with_reducible refine wpt_not ?_)
  | (with_reducible refine wpt_or ?_)
  | (with_reducible refine wpt_and ?_)
  | (with_reducible refine wp_andV ?_)
  | (with_reducible refine wp_orV ?_)
  | (with_reducible refine wp_notV ?_)
  | (refine wp_isiB (by decide) ?_)
  | (with_reducible refine wp_chain ?_)
  | (with_reducible refine wp_op ?_)
  | (with_reducible refine wp_tup ?_)
  | (with_reducible refine wpl_lst ?_)
  | (with_reducible refine wp_m1 ?_)
  | (with_reducible refine wp_m0 ?_)
  | (with_reducible refine wp_cb ?_)
  | (with_reducible refine wpa_cons ?_)
  | (with_reducible refine wpa_nil ?_)
  | (with_reducible refine wp_int ?_)
  | (with_reducible refine wp_str ?_)
  | (with_reducible refine wp_bl ?_)
  | (with_reducible refine wp_non ?_)
  | (refine wp_var rfl ?_)
  | (refine rc_len rfl ?_)
  | (refine r2_ii ?_)
  | (refine r2_ib ?_)
  | (refine ⟨_, rfl, ?_⟩))
variable {P : Program} {wd : World} {mg : Str → Option Value} {base : Heap} {K : PySem.W.Frag}
theorem ok_BadProgram_init (T : Tx P K mg) : FnOk P wd K mg base CX0 1 T.f_BadProgram_init T.d_BadProgram_init ["self", "part"] (spInit T.a_BadProgram "part") := T.I_BadProgram.ok wd mg base T.m_super
theorem ok_BadText_init (T : Tx P K mg) : FnOk P wd K mg base CX0 1 T.f_BadText_init T.d_BadText_init ["self", "row"] (spInit T.a_BadText "row") := T.I_BadText.ok wd mg base T.m_super
abbrev sp_is_integer (K : PySem.W.Frag) : Sp := spP K (pre1 Ok) (post1 fun x r => r = .bl (isIntD x))
theorem ok_is_integer (T : Tx P K mg) : FnOk P wd K mg base CX0 1 T.f_is_integer T.d_is_integer ["thing"] (sp_is_integer K) := by
  refine fn_P T.F_is_integer sc_is_integer (fun ds h => by obtain ⟨_, rfl, _⟩ := pre1_inv h; rfl) (fun cdv A outer s H E hr => ⟨_, (have nd := sc_is_integer.nd; (pss_one (ps_ret (pe_and (pe_callB call_isi rfl T.m_isinstance (by decide +kernel) (pa_cons (pv 0) (pa_cons (pe_bltn (v := .ty "int") (u := .type "int") rfl T.m_int (by decide +kernel) rfl) pa_nil))) (pe_one (pe_not (pe_callB call_isi rfl T.m_isinstance (by decide +kernel) (pa_cons (pv 0) (pa_cons (pe_bltn (v := .ty "bool") (u := .type "bool") rfl T.m_bool (by decide +kernel) rfl) pa_nil))))))))), fun F0 H0 ds hp => ?_⟩)
  walk_at "s"
  obtain ⟨x, rfl, hx⟩ := pre1_inv hp
  show wps _ _ [.d x] _ _
  repeat walk_at "d"
  refine ⟨hx.noObj, _, rfl, ?_⟩
  cases x with
  | int i => exact ite_t rfl (wp_notV (wp_isiB (by decide) (wp_var rfl ⟨rfl, _, rfl, rfl⟩)))
  | bl i => exact ite_t rfl (wp_notV (wp_isiB (by decide) (wp_var rfl ⟨rfl, _, rfl, rfl⟩)))
  | obj => cases hx.noObj
  | _ => exact ite_f rfl rfl
abbrev sp_is_name (K : PySem.W.Frag) : Sp := spP K (pre1 Ok) (post1 fun x r => r = .bl (isNameD x))
theorem ok_is_name (T : Tx P K mg) : FnOk P wd K mg base CX0 1 T.f_is_name T.d_is_name ["thing"] (sp_is_name K) := by
  refine fn_P T.F_is_name sc_is_name (fun ds h => by obtain ⟨_, rfl, _⟩ := pre1_inv h; rfl) (fun cdv A outer s H E hr => ⟨_, (have nd := sc_is_name.nd; (pss_cons (ps_if (PW.pt (pw_or (pt_not (pt_val (pe_callB call_isi rfl T.m_isinstance (by decide +kernel) (pa_cons (pv 0) (pa_cons (pe_bltn (v := .ty "str") (u := .type "str") rfl T.m_str (by decide +kernel) rfl) pa_nil))))) (pw_or1 (pt_not (pt_chain op_le op_le pe_int (pe_callB call_len rfl T.m_len (by decide +kernel) (pa_cons (pv 0) pa_nil)) (pe_glob (v := .int 8) rfl (T.m_MOST_LETTERS).choose_spec ⟨_, rfl⟩)))))) (pss_one (ps_ret pe_bl)) pss_nil)
      (pss_one (ps_ret (pe_callB (cr_all rfl) rfl T.m_all (by decide +kernel) (pa_cons (pe_lc (own := [("sign", 1)]) (g := gName 1) rfl nd (pi_str (pv 0)) (blkOk_by (N := N_is_name) (sc := defScope s_is_name) (by decide +kernel)) (fun _ _ _ _ _ => (pg_name (i := 1) nd rfl (.inl rfl))) (fun _ _ _ _ _ => pts_nil) (fun _ _ _ _ _ => (castE (pe_cmpR op_in_sign (pv 1) (pe_glob (v := .str "abcdefghijklmnopqrstuvwxyz") rfl (T.m_LETTERS).choose_spec ⟨_, rfl⟩) rfl) (by walk_at "r")))) pa_nil)))))), fun F0 H0 ds hp => ?_⟩)
  walk_at "s"
  obtain ⟨x, rfl, hx⟩ := pre1_inv hp
  show wps _ _ [.d x, .no] _ _
  refine wps_seq (wps_if ?_)
  refine wpt_or (wpt_not (wpt_B (wp_isiB (by decide) (wp_var rfl ⟨hx.noObj, _, rfl, ?_⟩))))
  cases hs : isT "str" x with
  | false =>
    refine ite_t rfl (ite_t rfl (wps_ret (wp_bl ?_)))
    cases x <;> first | rfl | (simp [isT] at hs)
  | true =>
    obtain ⟨s, rfl⟩ := isT_str hs
    refine ite_f rfl (wpt_not (wpt_test (wp_chainI 8 (wp_int rfl) (wp_int (wp_cb (wpa_cons (wp_var rfl (wpa_nil (rc_len (len_str hx.str.1) ⟨1, _, rfl, rfl, _, rfl, ?_⟩)))))))))
    have e0 : (decide ((1 : Int) ≤ (s.length : Nat)) && decide (((s.length : Nat) : Int) ≤ 8)) = (decide (1 ≤ s.length) && decide (s.length ≤ 8)) := by
      congr 1 <;> exact decide_eq_decide.mpr (by omega)
    rw [e0]
    refine ite_b (fun h2 => ?_) (fun h2 => ?_)
    · repeat walk_at "d"
      show D.bl false = D.bl (isNameS s)
      unfold isNameS
      rw [show (decide (1 ≤ s.length) && decide (s.length ≤ 8)) = false from nb_t h2]
      rfl
    · refine wps_next (wps_ret ?_)
      refine wp_allLc (fun d => match d with | .str ⟨⟨[c]⟩⟩ => decide (c ∈ letters.cps.toList) | _ => false) rfl (wpi_str ?_)
      refine wp_var rfl ⟨s, rfl, ?_, fun d a o hd => ?_, ?_⟩
      · rw [List.length_map]; exact hx.str.1
      · obtain ⟨c, hc, rfl⟩ := List.mem_map.mp hd
        exact wp_op (wp_var rfl (wp_glob (fun F => .str _) (r2_inS rfl)))
      · show D.bl _ = D.bl (isNameS s)
        unfold isNameS
        rw [show (decide (1 ≤ s.length) && decide (s.length ≤ 8)) = true from nb_f h2, List.all_map]
        rfl
abbrev sp_are_kinds (K : PySem.W.Frag) : Sp := spP K (pre1 Ok) (post1 fun x r => r = .bl (areKindsD x))
theorem ok_are_kinds (T : Tx P K mg) : FnOk P wd K mg base CX0 2 T.f_are_kinds T.d_are_kinds ["thing"] (sp_are_kinds K) := by
  refine fn_P T.F_are_kinds sc_are_kinds (fun ds h => by obtain ⟨_, rfl, _⟩ := pre1_inv h; rfl) (fun cdv A outer s H E hr => ⟨_, (have nd := sc_are_kinds.nd; (pss_cons (ps_if (PW.pt (pw_or (pt_not (pt_val (pe_callB call_isi rfl T.m_isinstance (by decide +kernel) (pa_cons (pv 0) (pa_cons (pe_bltn (v := .ty "tuple") (u := .type "tuple") rfl T.m_tuple (by decide +kernel) rfl) pa_nil))))) (pw_or1 (pt_not (pt_chain op_le op_le pe_int (pe_callB call_len rfl T.m_len (by decide +kernel) (pa_cons (pv 0) pa_nil)) (pe_glob (v := .int 4) rfl (T.m_MOST_KINDS).choose_spec ⟨_, rfl⟩)))))) (pss_one (ps_ret pe_bl)) pss_nil)
      (pss_cons (ps_if (pt_not (pt_val (pe_callB (cr_all rfl) rfl T.m_all (by decide +kernel) (pa_cons (pe_lc (own := [("one", 1)]) (g := gName 1) rfl nd (pi_tup (pv 0)) (blkOk_by (N := N_are_kinds) (sc := defScope s_are_kinds) (by decide +kernel)) (fun _ _ _ _ _ => (pg_name (i := 1) nd rfl (.inl rfl))) (fun _ _ _ _ _ => pts_nil) (fun _ _ _ _ _ => (castE (pe_call (ok_is_name T) (hr.mono (by decide)) rfl T.g_is_name T.F_is_name.kp T.b_is_name .nil pass0 (pa_cons (pv 1) pa_nil)) (by walk_at "r")))) pa_nil)))) (pss_one (ps_ret pe_bl)) pss_nil)
      (pss_one (ps_ret (pe_callB (cr_all rfl) rfl T.m_all (by decide +kernel) (pa_cons (pe_lc (own := [("one", 1), ("other", 2)]) (g := gTup _ 2 (gCons (gName 1) (gCons (gName 2) gNil))) rfl nd (RZ.pi_zipA rfl T.m_zip (pa_cons (pv 0) (pa_cons (pe_slice sl_tupA (pv 0) (po_some pe_int) po_none) pa_nil))) (blkOk_by (N := N_are_kinds) (sc := defScope s_are_kinds) (by decide +kernel)) (fun _ _ _ _ _ => (pg_tup rfl (pgs_cons (pg_name (i := 1) nd rfl (.inl rfl)) (pgs_cons (pg_name (i := 2) nd rfl (.inl rfl)) pgs_nil)))) (fun _ _ _ _ _ => pts_nil) (fun _ _ _ _ _ => (castE (pe_cmpR op_lt_str (pv 1) (pv 2) (nomark _)) (by walk_at "r")))) pa_nil))))))), fun F0 H0 ds hp => ?_⟩)
  walk_at "s"
  obtain ⟨x, rfl, hx⟩ := pre1_inv hp
  show wps _ _ [.d x, .no, .no] _ _
  refine wps_seq (wps_if ?_)
  refine wpt_or (wpt_not (wpt_B (wp_isiB (by decide) (wp_var rfl ⟨hx.noObj, _, rfl, ?_⟩))))
  cases hs : isT "tuple" x with
  | false =>
    refine ite_t rfl (ite_t rfl (wps_ret (wp_bl ?_)))
    cases x <;> first | rfl | (simp [isT] at hs)
  | true =>
    obtain ⟨xs, rfl⟩ := isT_tup hs
    refine ite_f rfl (wpt_not (wpt_test (wp_chainI 4 (wp_int rfl) (wp_int (wp_cb (wpa_cons (wp_var rfl (wpa_nil (rc_len rfl ⟨1, _, rfl, rfl, _, rfl, ?_⟩)))))))))
    have e0 : (decide ((1 : Int) ≤ (xs.length : Nat)) && decide (((xs.length : Nat) : Int) ≤ 4)) = (decide (1 ≤ xs.length) && decide (xs.length ≤ 4)) := by
      congr 1 <;> exact decide_eq_decide.mpr (by omega)
    rw [e0]
    have key : areKindsD (.tup xs) = ((decide (1 ≤ xs.length) && decide (xs.length ≤ 4)) && xs.all isNameD && ascD xs) := rfl
    refine ite_b (fun h2 => ?_) (fun h2 => ?_)
    · repeat walk_at "d"
      show D.bl false = D.bl _
      rw [key, nb_t h2]
      rfl
    · rw [nb_f h2] at key
      refine wps_next (wps_seq (wps_if ?_))
      refine wpt_not (wpt_B ?_)
      refine wp_allLc isNameD rfl (wpi_tup ?_)
      refine wp_var rfl ⟨xs, rfl, hx.tup.1, fun d a o hd => ?_, _, rfl, ?_⟩
      · exact wp_callP (wpa_cons (wp_var rfl (wpa_nil ⟨hx.tup.2 d hd, fun r e => e⟩)))
      · refine ite_b (fun h3 => ?_) (fun h3 => ?_)
        · repeat walk_at "d"
          show D.bl false = D.bl _
          rw [key, nb_t h3]
          rfl
        · rw [nb_f h3] at key
          refine wps_next (wps_ret ?_)
          refine wp_allLc2 ltP rfl rfl (wpi_zipT ?_)
          refine wpa_cons (wp_var rfl (wpa_cons (wp_sl (wp_var rfl (wpo_some (wp_int ⟨1, rfl, wpo_none (rs_tup (wpa_nil ⟨xs, cutD xs (some 1) none, rfl, ?_⟩))⟩))))))
          rw [cut1]
          show (zipD xs (xs.drop 1)).length ≤ 1000000 ∧ (∀ d a o, d ∈ zipD xs (xs.drop 1) → _) ∧ _ = D.bl _
          refine ⟨?_, fun d a o hd => ?_, ?_⟩
          · rw [zipD_len]; have := hx.tup.1; omega
          · obtain ⟨u, v, rfl, hu, hv⟩ := zipD_mem hd
            have ha := List.all_eq_true.mp (nb_f h3)
            obtain ⟨s1, rfl⟩ := name_str (ha u hu)
            obtain ⟨s2, rfl⟩ := name_str (ha v (List.mem_of_mem_drop hv))
            exact ⟨_, _, rfl, wp_op (wp_var rfl (wp_var rfl (r2_lts rfl)))⟩
          · rw [key]
            show D.bl ((zipD xs (xs.drop 1)).all ltP) = D.bl _
            rw [asc_zip (nb_f h3)]
            rfl
abbrev sp_is_state (K : PySem.W.Frag) : Sp := spP K (pre2 fun m x => (∃ n : Int, m = .int n) ∧ Ok x) (post2 fun m x r => ∀ n : Int, m = .int n → r = .bl (isStateD n x))
theorem ok_is_state (T : Tx P K mg) : FnOk P wd K mg base CX0 2 T.f_is_state T.d_is_state ["many", "thing"] (sp_is_state K) := by
  refine fn_P T.F_is_state sc_is_state (fun ds h => by obtain ⟨_, _, rfl, _⟩ := pre2_inv h; rfl) (fun cdv A outer s H E hr => ⟨_, (have nd := sc_is_state.nd; (pss_one (ps_ret (pe_and (pe_call (ok_is_integer T) (hr.mono (by decide)) rfl T.g_is_integer T.F_is_integer.kp T.b_is_integer .nil pass0 (pa_cons (pv 1) pa_nil)) (pe_one (pe_chain op_le op_lt pe_int (pv 1) (pv 0))))))), fun F0 H0 ds hp => ?_⟩)
  walk_at "s"
  obtain ⟨m, x, rfl, ⟨n, rfl⟩, hx⟩ := pre2_inv hp
  show wps _ _ [.d (.int n), .d x] _ _
  refine wps_ret (wp_andV (wp_callP (wpa_cons (wp_var rfl (wpa_nil ⟨hx, fun r e => ⟨_, e, ?_⟩⟩)))))
  refine ite_b (fun h => ?_) (fun h => ?_)
  · cases x with
    | int i =>
      refine wp_chainI n (wp_var rfl rfl) (wp_int (wp_var rfl ⟨0, i, rfl, rfl, fun k e => ?_⟩))
      cases e
      rfl
    | _ => cases h
  · intro k e
    cases x with
    | int i => cases h
    | _ => rfl
abbrev sp_is_pair (K : PySem.W.Frag) : Sp := spP K (pre2 fun m x => (∃ n : Int, m = .int n) ∧ Ok x) (post2 fun m x r => ∀ n : Int, m = .int n → r = .bl (isPairD n x))
theorem ok_is_pair (T : Tx P K mg) : FnOk P wd K mg base CX0 3 T.f_is_pair T.d_is_pair ["many", "thing"] (sp_is_pair K) := by
  refine fn_P T.F_is_pair sc_is_pair (fun ds h => by obtain ⟨_, _, rfl, _⟩ := pre2_inv h; rfl) (fun cdv A outer s H E hr => ⟨_, (have nd := sc_is_pair.nd; (pss_one (ps_ret (pe_and (pe_callB call_isi rfl T.m_isinstance (by decide +kernel) (pa_cons (pv 1) (pa_cons (pe_bltn (v := .ty "tuple") (u := .type "tuple") rfl T.m_tuple (by decide +kernel) rfl) pa_nil))) (pe_and (pe_cmpR op_eq (pe_callB call_len rfl T.m_len (by decide +kernel) (pa_cons (pv 1) pa_nil)) pe_int (nomark _)) (pe_and (pe_call (ok_is_state T) (hr.mono (by decide)) rfl T.g_is_state T.F_is_state.kp T.b_is_state .nil pass0 (pa_cons (pv 0) (pa_cons (pe_ix ix_tup (pv 1) pe_int (fun _ _ => rfl)) pa_nil))) (pe_one (pe_call (ok_is_integer T) (hr.mono (by decide)) rfl T.g_is_integer T.F_is_integer.kp T.b_is_integer .nil pass0 (pa_cons (pe_ix ix_tup (pv 1) pe_int (fun _ _ => rfl)) pa_nil))))))))), fun F0 H0 ds hp => ?_⟩)
  walk_at "s"
  obtain ⟨m, x, rfl, ⟨n, rfl⟩, hx⟩ := pre2_inv hp
  show wps _ _ [.d (.int n), .d x] _ _
  refine wps_ret (wp_andV (wp_isiB (by decide) (wp_var rfl ⟨hx.noObj, _, rfl, ?_⟩)))
  refine ite_b (fun h => ?_) (fun h => ?_)
  · obtain ⟨xs, rfl⟩ := isT_tup h
    refine wp_andV (wp_op (wp_cb (wpa_cons (wp_var rfl (wpa_nil (rc_len rfl (wp_int (r2_eqI ⟨_, rfl, ?_⟩))))))))
    refine ite_b (fun h2 => ?_) (fun h2 => ?_)
    · have h2' : xs.length = 2 := by have := of_decide_eq_true h2; omega
      match xs, h2', hx with
      | [u, v], _, hx =>
        have hu := hx.tup.2 u (by simp)
        have hv := hx.tup.2 v (by simp)
        refine wp_andV (wp_callP (wpa_cons (wp_var rfl (wpa_cons (wp_op (wp_var rfl (wp_int (r2_ixT rfl (wpa_nil ⟨⟨⟨n, rfl⟩, hu⟩, fun r e => ⟨_, e n rfl, ?_⟩⟩)))))))))
        refine ite_b (fun h3 => ?_) (fun h3 => ?_)
        · refine wp_callP (wpa_cons (wp_op (wp_var rfl (wp_int (r2_ixT rfl (wpa_nil ⟨hv, fun r e => ?_⟩))))))
          intro k ek
          cases ek
          rw [show isPairD n (.tup [u, v]) = (isStateD n u && isIntD v) from rfl, h3]
          exact e
        · intro k ek
          cases ek
          rw [show isPairD n (.tup [u, v]) = (isStateD n u && isIntD v) from rfl, h3]
          rfl
    · intro k ek
      cases ek
      match xs, h2 with
      | [], _ => rfl
      | [_], _ => rfl
      | [_, _], h2 => exact absurd rfl (of_decide_eq_false h2)
      | _ :: _ :: _ :: _, _ => rfl
  · intro k e
    cases x <;> first | rfl | (simp [isT] at h)
abbrev sp_are_rows (K : PySem.W.Frag) : Sp := spP K (pre2 fun m x => (∃ n : Int, m = .int n) ∧ Ok x) (post2 fun m x r => ∀ n : Int, m = .int n → r = .bl (areRowsD n x))
theorem ok_are_rows (T : Tx P K mg) : FnOk P wd K mg base CX0 4 T.f_are_rows T.d_are_rows ["size", "thing"] (sp_are_rows K) := by
  refine fn_P T.F_are_rows sc_are_rows (fun ds h => by obtain ⟨_, _, rfl, _⟩ := pre2_inv h; rfl) (fun cdv A outer s H E hr => ⟨_, (have nd := sc_are_rows.nd; (pss_cons (ps_if (PW.pt (pw_or (pt_not (pt_val (pe_callB call_isi rfl T.m_isinstance (by decide +kernel) (pa_cons (pv 1) (pa_cons (pe_bltn (v := .ty "tuple") (u := .type "tuple") rfl T.m_tuple (by decide +kernel) rfl) pa_nil))))) (pw_or1 (pt_cmpR (op_eqD hr.units) (pv 1) (pe_tup pa_nil) (nomark _))))) (pss_one (ps_ret pe_bl)) pss_nil)
      (pss_cons (ps_if (pt_not (pt_val (pe_callB (cr_all rfl) rfl T.m_all (by decide +kernel) (pa_cons (pe_lc (own := [("row", 2)]) (g := gName 2) rfl nd (pi_tup (pv 1)) (blkOk_by (N := N_are_rows) (sc := defScope s_are_rows) (by decide +kernel)) (fun _ _ _ _ _ => (pg_name (i := 2) nd rfl (.inl rfl))) (fun _ _ _ _ _ => pts_nil) (fun _ _ _ _ _ => (castE (pe_and (pe_callB call_isi rfl T.m_isinstance (by decide +kernel) (pa_cons (pv 2) (pa_cons (pe_bltn (v := .ty "tuple") (u := .type "tuple") rfl T.m_tuple (by decide +kernel) rfl) pa_nil))) (pe_one (pe_cmpR op_eq (pe_callB call_len rfl T.m_len (by decide +kernel) (pa_cons (pv 2) pa_nil)) (pv 0) (nomark _)))) (by walk_at "r")))) pa_nil)))) (pss_one (ps_ret pe_bl)) pss_nil)
      (pss_one (ps_ret (pe_callB (cr_all rfl) rfl T.m_all (by decide +kernel) (pa_cons (pe_lc (own := [("row", 2)]) (g := gName 2) rfl nd (pi_tup (pv 1)) (blkOk_by (N := N_are_rows) (sc := defScope s_are_rows) (by decide +kernel)) (fun _ _ _ _ _ => (pg_name (i := 2) nd rfl (.inl rfl))) (fun _ _ _ _ _ => pts_nil) (fun _ _ _ _ _ => (castE (pe_callB (cr_all rfl) rfl T.m_all (by decide +kernel) (pa_cons (pe_lc (own := [("pair", 3)]) (g := gName 3) rfl nd (pi_tup (pv 2)) (blkOk_by (N := N_are_rows) (by walk_at "k")) (fun _ _ _ _ _ => (pg_name (i := 3) nd rfl (.inl rfl))) (fun _ _ _ _ _ => pts_nil) (fun _ _ _ _ _ => (castE (pe_call (ok_is_pair T) (hr.mono (by decide)) rfl T.g_is_pair T.F_is_pair.kp T.b_is_pair .nil pass0 (pa_cons (pe_callB call_len rfl T.m_len (by decide +kernel) (pa_cons (pv 1) pa_nil)) (pa_cons (pv 3) pa_nil))) (by walk_at "r")))) pa_nil)) (by walk_at "r")))) pa_nil))))))), fun F0 H0 ds hp => ?_⟩)
  walk_at "s"
  obtain ⟨m, x, rfl, ⟨n, rfl⟩, hx⟩ := pre2_inv hp
  show wps _ _ [.d (.int n), .d x, .no, .no] _ _
  refine wps_seq (wps_if ?_)
  refine wpt_or (wpt_not (wpt_B (wp_isiB (by decide) (wp_var rfl ⟨hx.noObj, _, rfl, ?_⟩))))
  cases hs : isT "tuple" x with
  | false =>
    refine ite_t rfl (ite_t rfl (wps_ret (wp_bl fun k e => ?_)))
    cases x <;> first | rfl | (simp [isT] at hs)
  | true =>
    obtain ⟨xs, rfl⟩ := isT_tup hs
    have key := areRows_tup n xs
    refine ite_f rfl (wpt_test (wp_op (wp_var rfl (wp_tup (wpa_nil ⟨by decide, r2_eqD hx.cmp ok_nil.cmp ⟨_, rfl, ?_⟩⟩)))))
    rw [eqv_nil]
    refine ite_b (fun h2 => wps_ret (wp_bl fun k e => ?_)) (fun h2 => ?_)
    · cases e
      rw [key, h2]
      rfl
    · rw [h2] at key
      refine wps_next (wps_seq (wps_if (wpt_not (wpt_B ?_))))
      refine wp_allLc (isRow1 n) rfl (wpi_tup ?_)
      refine wp_var rfl ⟨xs, rfl, hx.tup.1, fun d a o hd => ?_, _, rfl, ?_⟩
      · refine wp_andV (wp_isiB (by decide) (wp_var rfl ⟨(hx.tup.2 d hd).noObj, _, rfl, ?_⟩))
        refine ite_b (fun h => ?_) (fun h => ?_)
        · obtain ⟨ys, rfl⟩ := isT_tup h
          exact wp_op (wp_cb (wpa_cons (wp_var rfl (wpa_nil (rc_len rfl (wp_var rfl (r2_eqI rfl)))))))
        · cases d <;> first | rfl | (simp [isT] at h)
      · refine ite_b (fun h3 => ?_) (fun h3 => ?_)
        · refine wps_ret (wp_bl fun k e => ?_)
          cases e
          rw [key, nb_t h3]
          rfl
        · rw [nb_f h3] at key
          refine wps_next (wps_ret ?_)
          refine wp_allLc (isRow2 xs.length) rfl (wpi_tup ?_)
          refine wp_var rfl ⟨xs, rfl, hx.tup.1, fun d a o hd => ?_, fun k e => ?_⟩
          · have hr1 := List.all_eq_true.mp (nb_f h3) d hd
            have hdo := hx.tup.2 d hd
            cases d with
            | tup ys =>
              refine wp_allLc (isPairD xs.length) rfl (wpi_tup ?_)
              refine wp_var rfl ⟨ys, rfl, hdo.tup.1, fun q a o hq => ?_, rfl⟩
              exact wp_callP (wpa_cons (wp_cb (wpa_cons (wp_var rfl (wpa_nil (rc_len rfl (wpa_cons (wp_var rfl (wpa_nil ⟨⟨⟨_, rfl⟩, hdo.tup.2 q hq⟩, fun r e => e _ rfl⟩)))))))))
            | _ => cases hr1
          · cases e
            rw [key]
            rfl
abbrev sp_is_pass (K : PySem.W.Frag) : Sp := spP K (pre3 fun m b x => (∃ n : Int, m = .int n) ∧ (∃ n : Int, b = .int n) ∧ Ok x) (post3 fun m b x r => ∀ n k : Int, m = .int n → b = .int k → r = .bl (isPassD n k x))
theorem ok_is_pass (T : Tx P K mg) : FnOk P wd K mg base CX0 5 T.f_is_pass T.d_is_pass ["size", "begins", "thing"] (sp_is_pass K) := by
  refine fn_P T.F_is_pass sc_is_pass (fun ds h => by obtain ⟨_, _, _, rfl, _⟩ := pre3_inv h; rfl) (fun cdv A outer s H E hr => ⟨_, (have nd := sc_is_pass.nd; (pss_cons (ps_if (PW.pt (pw_or (pt_not (pt_val (pe_callB call_isi rfl T.m_isinstance (by decide +kernel) (pa_cons (pv 2) (pa_cons (pe_bltn (v := .ty "tuple") (u := .type "tuple") rfl T.m_tuple (by decide +kernel) rfl) pa_nil))))) (pw_or (pt_cmpR op_ne (pe_callB call_len rfl T.m_len (by decide +kernel) (pa_cons (pv 2) pa_nil)) pe_int (nomark _)) (pw_or1 (pt_not (pt_val (pe_call (ok_are_rows T) (hr.mono (by decide)) rfl T.g_are_rows T.F_are_rows.kp T.b_are_rows .nil pass0 (pa_cons (pv 0) (pa_cons (pe_ix ix_tup (pv 2) pe_int (fun _ _ => rfl)) pa_nil))))))))) (pss_one (ps_ret pe_bl)) pss_nil)
      (pss_cons (ps_if (PW.pt (pw_or (pt_not (pt_val (pe_callB call_isi rfl T.m_isinstance (by decide +kernel) (pa_cons (pe_ix ix_tup (pv 2) pe_int (fun _ _ => rfl)) (pa_cons (pe_bltn (v := .ty "tuple") (u := .type "tuple") rfl T.m_tuple (by decide +kernel) rfl) pa_nil))))) (pw_or1 (pt_cmpR op_ne (pe_callB call_len rfl T.m_len (by decide +kernel) (pa_cons (pe_ix ix_tup (pv 2) pe_int (fun _ _ => rfl)) pa_nil)) (pv 1) (nomark _))))) (pss_one (ps_ret pe_bl)) pss_nil)
      (pss_one (ps_ret (pe_callB (cr_all rfl) rfl T.m_all (by decide +kernel) (pa_cons (pe_lc (own := [("state", 3)]) (g := gName 3) rfl nd (pi_tup (pe_ix ix_tup (pv 2) pe_int (fun _ _ => rfl))) (blkOk_by (N := N_is_pass) (sc := defScope s_is_pass) (by decide +kernel)) (fun _ _ _ _ _ => (pg_name (i := 3) nd rfl (.inl rfl))) (fun _ _ _ _ _ => pts_nil) (fun _ _ _ _ _ => (castE (pe_call (ok_is_state T) (hr.mono (by decide)) rfl T.g_is_state T.F_is_state.kp T.b_is_state .nil pass0 (pa_cons (pe_callB call_len rfl T.m_len (by decide +kernel) (pa_cons (pe_ix ix_tup (pv 2) pe_int (fun _ _ => rfl)) pa_nil)) (pa_cons (pv 3) pa_nil))) (by walk_at "r")))) pa_nil))))))), fun F0 H0 ds hp => ?_⟩)
  walk_at "s"
  obtain ⟨m, b, x, rfl, ⟨n, rfl⟩, ⟨k, rfl⟩, hx⟩ := pre3_inv hp
  show wps _ _ [.d (.int n), .d (.int k), .d x, .no] _ _
  refine wps_seq (wps_if ?_)
  refine wpt_or (wpt_not (wpt_B (wp_isiB (by decide) (wp_var rfl ⟨hx.noObj, _, rfl, ?_⟩))))
  cases hs : isT "tuple" x with
  | false =>
    refine ite_t rfl (ite_t rfl (wps_ret (wp_bl fun k e => ?_)))
    cases x <;> first | (exact fun _ _ => rfl) | (simp [isT] at hs)
  | true =>
    obtain ⟨xs, rfl⟩ := isT_tup hs
    refine ite_f rfl (wpt_or (wpt_test (wp_op (wp_cb (wpa_cons (wp_var rfl (wpa_nil (rc_len rfl (wp_int (r2_neI ⟨_, rfl, ?_⟩)))))))))) 
    refine ite_b (fun h2 => ?_) (fun h2 => ?_)
    · refine ite_t rfl (wps_ret (wp_bl fun a b e1 e2 => ?_))
      have h2' : ¬ (xs.length : Int) = 2 := of_decide_eq_false (nb_t h2)
      match xs, h2' with
      | [], _ => rfl
      | [_], _ => exact congrArg D.bl (pass_short (by simp)).symm
      | [_, _], h2' => exact absurd rfl h2'
      | _ :: _ :: _ :: _, _ => exact congrArg D.bl (pass_short (by simp)).symm
    · have h2' : xs.length = 2 := by have := of_decide_eq_true (nb_f h2); omega
      match xs, h2', hx with
      | [u, v], _, hx =>
        have hu := hx.tup.2 u (by simp)
        have hv := hx.tup.2 v (by simp)
        refine wpt_not (wpt_B (wp_callP (wpa_cons (wp_var rfl (wpa_cons (wp_op (wp_var rfl (wp_int (r2_ixT rfl (wpa_nil ⟨⟨⟨n, rfl⟩, hv⟩, fun r e => ⟨_, e n rfl, ?_⟩⟩))))))))))
        refine ite_b (fun h3 => ?_) (fun h3 => ?_)
        · refine wps_ret (wp_bl fun a b e1 e2 => ?_)
          cases e1
          cases e2
          cases u with
          | tup us => show D.bl false = D.bl (areRowsD n v && _ && _); rw [nb_t h3]; rfl
          | _ => rfl
        · obtain ⟨rows, rfl⟩ := rows_tup (nb_f h3)
          refine wps_next (wps_seq (wps_if ?_))
          refine wpt_or (wpt_not (wpt_B (wp_isiB (by decide) (wp_op (wp_var rfl (wp_int (r2_ixT rfl ⟨hu.noObj, _, rfl, ?_⟩)))))))
          cases hs2 : isT "tuple" u with
          | false =>
            refine ite_t rfl (ite_t rfl (wps_ret (wp_bl fun k e _ _ => ?_)))
            cases u <;> first | rfl | (simp [isT] at hs2)
          | true =>
            obtain ⟨us, rfl⟩ := isT_tup hs2
            have key : isPassD n k (.tup [.tup us, .tup rows]) = (areRowsD n (.tup rows) && decide ((us.length : Int) = k) && us.all (isStateD rows.length)) := rfl
            rw [nb_f h3] at key
            refine ite_f rfl (wpt_test (wp_op (wp_cb (wpa_cons (wp_op (wp_var rfl (wp_int (r2_ixT rfl (wpa_nil (rc_len rfl (wp_var rfl (r2_neI ⟨_, rfl, ?_⟩))))))))))))
            refine ite_b (fun h4 => ?_) (fun h4 => ?_)
            · refine wps_ret (wp_bl fun a b e1 e2 => ?_)
              cases e1
              cases e2
              rw [key, nb_t h4]
              rfl
            · rw [nb_f h4] at key
              refine wps_next (wps_ret ?_)
              refine wp_allLc (isStateD rows.length) rfl (wpi_tup ?_)
              refine wp_op (wp_var rfl (wp_int (r2_ixT rfl ⟨us, rfl, hu.tup.1, fun q a o hq => ?_, fun a b e1 e2 => ?_⟩)))
              · exact wp_callP (wpa_cons (wp_cb (wpa_cons (wp_op (wp_var rfl (wp_int (r2_ixT rfl (wpa_nil (rc_len rfl (wpa_cons (wp_var rfl (wpa_nil ⟨⟨⟨_, rfl⟩, hu.tup.2 q hq⟩, fun r e => e _ rfl⟩))))))))))))
              · cases e1
                cases e2
                rw [key]
                rfl
abbrev sp_are_passes (K : PySem.W.Frag) : Sp := spP K (pre2 fun m x => (∃ n : Int, m = .int n) ∧ Ok x) (post2 fun m x r => ∀ n : Int, m = .int n → r = .bl (arePassesD n x))
theorem ok_are_passes (T : Tx P K mg) : FnOk P wd K mg base CX0 6 T.f_are_passes T.d_are_passes ["size", "thing"] (sp_are_passes K) := by
  refine fn_P T.F_are_passes sc_are_passes (fun ds h => by obtain ⟨_, _, rfl, _⟩ := pre2_inv h; rfl) (fun cdv A outer s H E hr => ⟨_, (have nd := sc_are_passes.nd; (pss_cons (ps_if (PW.pt (pw_or (pt_not (pt_val (pe_callB call_isi rfl T.m_isinstance (by decide +kernel) (pa_cons (pv 1) (pa_cons (pe_bltn (v := .ty "tuple") (u := .type "tuple") rfl T.m_tuple (by decide +kernel) rfl) pa_nil))))) (pw_or (pt_not (pt_chain op_le op_le pe_int (pe_callB call_len rfl T.m_len (by decide +kernel) (pa_cons (pv 1) pa_nil)) (pe_glob (v := .int 2) rfl (T.m_MOST_PASSES).choose_spec ⟨_, rfl⟩))) (pw_or1 (pt_not (pt_val (pe_call (ok_is_pass T) (hr.mono (by decide)) rfl T.g_is_pass T.F_is_pass.kp T.b_is_pass .nil pass0 (pa_cons (pv 0) (pa_cons pe_int (pa_cons (pe_ix ix_tup (pv 1) pe_int (fun _ _ => rfl)) pa_nil)))))))))) (pss_one (ps_ret pe_bl)) pss_nil)
      (pss_one (ps_ret (pe_callB (cr_all rfl) rfl T.m_all (by decide +kernel) (pa_cons (pe_lc (own := [("one", 2)]) (g := gName 2) rfl nd (pi_tup (pe_slice sl_tupA (pv 1) (po_some pe_int) po_none)) (blkOk_by (N := N_are_passes) (sc := defScope s_are_passes) (by decide +kernel)) (fun _ _ _ _ _ => (pg_name (i := 2) nd rfl (.inl rfl))) (fun _ _ _ _ _ => pts_nil) (fun _ _ _ _ _ => (castE (pe_call (ok_is_pass T) (hr.mono (by decide)) rfl T.g_is_pass T.F_is_pass.kp T.b_is_pass .nil pass0 (pa_cons (pv 0) (pa_cons (pe_callB call_len rfl T.m_len (by decide +kernel) (pa_cons (pe_ix ix_tup (pe_ix ix_tup (pv 1) pe_int (fun _ _ => rfl)) pe_int (fun _ _ => rfl)) pa_nil)) (pa_cons (pv 2) pa_nil)))) (by walk_at "r")))) pa_nil)))))), fun F0 H0 ds hp => ?_⟩)
  walk_at "s"
  obtain ⟨m, x, rfl, ⟨n, rfl⟩, hx⟩ := pre2_inv hp
  show wps _ _ [.d (.int n), .d x, .no] _ _
  refine wps_seq (wps_if ?_)
  refine wpt_or (wpt_not (wpt_B (wp_isiB (by decide) (wp_var rfl ⟨hx.noObj, _, rfl, ?_⟩))))
  cases hs : isT "tuple" x with
  | false =>
    refine ite_t rfl (ite_t rfl (wps_ret (wp_bl fun k e => ?_)))
    cases x <;> first | rfl | (simp [isT] at hs)
  | true =>
    obtain ⟨xs, rfl⟩ := isT_tup hs
    refine ite_f rfl (wpt_or (wpt_not (wpt_test (wp_chainI 2 (wp_glob (fun F => .int _) rfl) (wp_int (wp_cb (wpa_cons (wp_var rfl (wpa_nil (rc_len rfl ⟨1, _, rfl, rfl, _, rfl, ?_⟩))))))))))
    have e0 : (decide ((1 : Int) ≤ (xs.length : Nat)) && decide (((xs.length : Nat) : Int) ≤ 2)) = (decide (1 ≤ xs.length) && decide (xs.length ≤ 2)) := by
      congr 1 <;> exact decide_eq_decide.mpr (by omega)
    rw [e0]
    refine ite_b (fun h2 => ?_) (fun h2 => ?_)
    · refine ite_t rfl (wps_ret (wp_bl fun a e1 => ?_))
      have := nb_t h2
      match xs, this with
      | [], _ => rfl
      | [_], h => simp at h
      | [_, _], h => simp at h
      | _ :: _ :: _ :: _, _ => rfl
    · have h2' := nb_f h2
      match xs, h2', hx with
      | [], h, _ => exact absurd h (by decide)
      | p :: ps, h, hx =>
        have hl : ps.length ≤ 1 := by simpa using h
        have hu := hx.tup.2 p (by simp)
        have key : arePassesD n (.tup (p :: ps)) = (decide (ps.length ≤ 1) && isPassD n 1 p && ps.all (isPassD n (lenT (rowsOf p)))) := rfl
        rw [decide_eq_true hl] at key
        refine wpt_not (wpt_B (wp_callP (wpa_cons (wp_var rfl (wpa_cons (wp_int (wpa_cons (wp_op (wp_var rfl (wp_int (r2_ixT (at0 _ _) (wpa_nil ⟨⟨⟨n, rfl⟩, ⟨1, rfl⟩, hu⟩, fun r e => ⟨_, e n 1 rfl rfl, ?_⟩⟩))))))))))))
        refine ite_b (fun h3 => ?_) (fun h3 => ?_)
        · refine wps_ret (wp_bl fun a e1 => ?_)
          cases e1
          rw [key, nb_t h3]
          rfl
        · rw [nb_f h3] at key
          refine wps_next (wps_ret ?_)
          obtain ⟨bs, rows, rfl, _⟩ := pass_form (nb_f h3)
          refine wp_allLc (isPassD n rows.length) rfl (wpi_tup ?_)
          refine wp_sl (wp_var rfl (wpo_some (wp_int ⟨1, rfl, wpo_none (rs_tup ?_)⟩)))
          rw [cut1, List.drop_one, List.tail_cons]
          refine ⟨ps, rfl, by omega, fun q a o hq => ?_, fun a e1 => ?_⟩
          · refine wp_callP (wpa_cons (wp_var rfl (wpa_cons (wp_cb (wpa_cons (wp_op (wp_op (wp_var rfl (wp_int (r2_ixT (at0 _ _) (wp_int (r2_ixT rfl ?_))))))))))))
            exact wpa_nil (rc_len rfl (wpa_cons (wp_var rfl (wpa_nil ⟨⟨⟨_, rfl⟩, ⟨_, rfl⟩, hx.tup.2 q (by simp [hq])⟩, fun r e => e _ _ rfl rfl⟩))))
          · cases e1
            rw [key]
            rfl
abbrev sp_is_tell (K : PySem.W.Frag) : Sp := spP K (pre1 Ok) (post1 fun x r => r = .bl (isTellD x))
theorem ok_is_tell (T : Tx P K mg) : FnOk P wd K mg base CX0 2 T.f_is_tell T.d_is_tell ["thing"] (sp_is_tell K) := by
  refine fn_P T.F_is_tell sc_is_tell (fun ds h => by obtain ⟨_, rfl, _⟩ := pre1_inv h; rfl) (fun cdv A outer s H E hr => ⟨_, (have nd := sc_is_tell.nd; (pss_one (ps_ret (pe_and (pe_callB call_isi rfl T.m_isinstance (by decide +kernel) (pa_cons (pv 0) (pa_cons (pe_bltn (v := .ty "tuple") (u := .type "tuple") rfl T.m_tuple (by decide +kernel) rfl) pa_nil))) (pe_and (pe_cmpR op_eq (pe_callB call_len rfl T.m_len (by decide +kernel) (pa_cons (pv 0) pa_nil)) pe_int (nomark _)) (pe_and (pe_call (ok_is_name T) (hr.mono (by decide)) rfl T.g_is_name T.F_is_name.kp T.b_is_name .nil pass0 (pa_cons (pe_ix ix_tup (pv 0) pe_int (fun _ _ => rfl)) pa_nil)) (pe_one (pe_call (ok_is_integer T) (hr.mono (by decide)) rfl T.g_is_integer T.F_is_integer.kp T.b_is_integer .nil pass0 (pa_cons (pe_ix ix_tup (pv 0) pe_int (fun _ _ => rfl)) pa_nil))))))))), fun F0 H0 ds hp => ?_⟩)
  walk_at "s"
  obtain ⟨x, rfl, hx⟩ := pre1_inv hp
  show wps _ _ [.d x] _ _
  refine wps_ret (wp_andV (wp_isiB (by decide) (wp_var rfl ⟨hx.noObj, _, rfl, ?_⟩)))
  refine ite_b (fun h => ?_) (fun h => ?_)
  · obtain ⟨xs, rfl⟩ := isT_tup h
    refine wp_andV (wp_op (wp_cb (wpa_cons (wp_var rfl (wpa_nil (rc_len rfl (wp_int (r2_eqI ⟨_, rfl, ?_⟩))))))))
    refine ite_b (fun h2 => ?_) (fun h2 => ?_)
    · have h2' : xs.length = 2 := by have := of_decide_eq_true h2; omega
      match xs, h2', hx with
      | [u, v], _, hx =>
        have hu := hx.tup.2 u (by simp)
        have hv := hx.tup.2 v (by simp)
        refine wp_andV (wp_callP (wpa_cons (wp_op (wp_var rfl (wp_int (r2_ixT rfl (wpa_nil ⟨hu, fun r e => ⟨_, e, ?_⟩⟩)))))))
        refine ite_b (fun h3 => ?_) (fun h3 => ?_)
        · refine wp_callP (wpa_cons (wp_op (wp_var rfl (wp_int (r2_ixT rfl (wpa_nil ⟨hv, fun r e => ?_⟩))))))
          show r = D.bl (isNameD u && isIntD v)
          rw [h3]
          exact e
        · show D.bl false = D.bl (isNameD u && isIntD v)
          rw [h3]
          rfl
    · match xs, h2 with
      | [], _ => rfl
      | [_], _ => rfl
      | [_, _], h2 => exact absurd rfl (of_decide_eq_false h2)
      | _ :: _ :: _ :: _, _ => rfl
  · cases x <;> first | rfl | (simp [isT] at h)
end Sd
set_option Elab.async false
set_option linter.all false
set_option maxRecDepth 100000
set_option maxHeartbeats 4000000
namespace Sd
open PySem PySem.Spec L2
local macro_rules | `(tactic| walk_at "r") => `(tactic| (first | (dsimp only [cxOf, Cx.nox, Cx.wish, Cx.blk]; done) | (dsimp only [cxOf, Cx.nox, Cx.wish, Cx.blk]; rfl) | rfl))
local macro_rules | `(tactic| walk_at "k") => `(tactic| kernel_rfl)
local macro_rules | `(tactic| walk_at "s") => `(tactic| try dsimp only [cxOf, List.map_cons, List.map_nil])
local macro_rules | `(tactic| walk_at "d") => `(tactic| first
  | (with_reducible refine wps_seq ?_)
  | (with_reducible refine wps_ret ?_)
  | (with_reducible refine wps_if ?_)
  | (with_reducible refine wps_next ?_)
  | (with_reducible refine wps_drop ?_)
  | (with_reducible refine wpt_test ?_)
  | (with_reducible refine wpt_B ?_)
  | (with_reducible refine wpt_not ?_)
  | (with_reducible refine wpt_or ?_)
  | (with_reducible refine wpt_and ?_)
  | (with_reducible refine wp_andV ?_)
  | (with_reducible refine wp_orV ?_)
  | (with_reducible refine wp_notV ?_)
  | (refine wp_isiB (by decide) ?_)
  | (with_reducible refine wp_chain ?_)
  | (with_reducible refine wp_op ?_)
  | (with_reducible refine wp_tup ?_)
  | (with_reducible refine wpl_lst ?_)
  | (with_reducible refine wp_m1 ?_)
  | (with_reducible refine wp_m0 ?_)
  | (with_reducible refine wp_cb ?_)
  | (with_reducible refine wpa_cons ?_)
  | (with_reducible refine wpa_nil ?_)
  | (with_reducible refine wp_int ?_)
  | (with_reducible refine wp_str ?_)
  | (with_reducible refine wp_bl ?_)
  | (with_reducible refine wp_non ?_)
  | (refine wp_var rfl ?_)
  | (refine rc_len rfl ?_)
  | (refine r2_ii ?_)
  | (refine r2_ib ?_)
  | (refine ⟨_, rfl, ?_⟩))
variable {P : Program} {wd : World} {mg : Str → Option Value} {base : Heap} {K : PySem.W.Frag}
abbrev sp_Program_init {P : Program} {K : PySem.W.Frag} {mg : Str → Option Value} (T : Tx P K mg) : Sp := spOX K (obP K T.a_Program) (fun s ds => s = ([], []) ∧ pre3 (fun k p t => Ok k ∧ Ok p ∧ Ok t) ds) (fun s ds d s' => d = .non ∧ ∃ k p t, ds = [k, p, t] ∧ wrongD k p t = none ∧ s' = (pf, ds)) (fun s ds x s' => ∃ k p t pt, ds = [k, p, t] ∧ wrongD k p t = some pt ∧ x = .e1 T.a_BadProgram "part" (.str pt))
theorem ok_Program_init (T : Tx P K mg) : FnOk P wd K mg base (L2N.CX P wd) 7 T.f_Program_init T.d_Program_init ["self", "kinds", "passes", "tells"] (sp_Program_init T) := by
  refine fn_OX obP_at T.F_Program_init sc_Program_init (fun s ds h => by have h := h.2; obtain ⟨_, _, _, rfl, _⟩ := pre3_inv h; rfl) (fun cdv A outer s H E hr => ⟨_, (have nd := sc_Program_init.nd; (pss_cons (ps_if (pt_not (pt_val (pe_call (ok_are_kinds T) (hr.mono (by decide)) rfl T.g_are_kinds T.F_are_kinds.kp T.b_are_kinds .nil pass0 (pa_cons (pv 1) pa_nil)))) (pss_one (ps_err (W := fun cls d _ H => E cls d H) rfl takesX T.E_BadProgram (ok_BadProgram_init T) (hr.mono (by decide)) T.b_BadProgram_init rfl T.g_BadProgram pe_str)) pss_nil)
      (pss_cons (ps_if (pt_not (pt_val (pe_call (ok_are_passes T) (hr.mono (by decide)) rfl T.g_are_passes T.F_are_passes.kp T.b_are_passes .nil pass0 (pa_cons (pe_callB call_len rfl T.m_len (by decide +kernel) (pa_cons (pv 1) pa_nil)) (pa_cons (pv 2) pa_nil))))) (pss_one (ps_err (W := fun cls d _ H => E cls d H) rfl takesX T.E_BadProgram (ok_BadProgram_init T) (hr.mono (by decide)) T.b_BadProgram_init rfl T.g_BadProgram pe_str)) pss_nil)
      (pss_cons (ps_if (PW.pt (pw_or (pt_not (pt_val (pe_callB call_isi rfl T.m_isinstance (by decide +kernel) (pa_cons (pv 3) (pa_cons (pe_bltn (v := .ty "tuple") (u := .type "tuple") rfl T.m_tuple (by decide +kernel) rfl) pa_nil))))) (pw_or (pt_cmpR op_ne (pe_callB call_len rfl T.m_len (by decide +kernel) (pa_cons (pv 3) pa_nil)) (pe_callB call_len rfl T.m_len (by decide +kernel) (pa_cons (pe_ix ix_tup (pe_ix ix_tup (pv 2) (pe_un un_neg pe_int) (fun _ _ => rfl)) pe_int (fun _ _ => rfl)) pa_nil)) (nomark _)) (pw_or1 (pt_not (pt_val (pe_callB (cr_all rfl) rfl T.m_all (by decide +kernel) (pa_cons (pe_lc (own := [("one", 4)]) (g := gName 4) rfl nd (pi_tup (pv 3)) (blkOk_by (N := N_Program_init) (sc := defScope s_Program_init) (by decide +kernel)) (fun _ _ _ _ _ => (pg_name (i := 4) nd rfl (.inl rfl))) (fun _ _ _ _ _ => pts_nil) (fun _ _ _ _ _ => (castE (pe_call (ok_is_tell T) (hr.mono (by decide)) rfl T.g_is_tell T.F_is_tell.kp T.b_is_tell .nil pass0 (pa_cons (pv 4) pa_nil)) (by walk_at "r")))) pa_nil)))))))) (pss_one (ps_err (W := fun cls d _ H => E cls d H) rfl takesX T.E_BadProgram (ok_BadProgram_init T) (hr.mono (by decide)) T.b_BadProgram_init rfl T.g_BadProgram pe_str)) pss_nil)
      (pss_cons (ps_fld (pv 0) (pv 1) rfl)
      (pss_cons (ps_fld (pv 0) (pv 2) rfl)
      (pss_one (ps_fld (pv 0) (pv 3) rfl)))))))), fun F0 H0 O a s ds hp hX => ?_⟩)
  walk_at "s"
  obtain ⟨rfl, hp⟩ := hp
  obtain ⟨k, p, t, rfl, hk, hpp, ht⟩ := pre3_inv hp
  show wps _ _ [.o (obP K T.a_Program a ([], [])), .d k, .d p, .d t, .no] _ _
  have bad : ∀ (pt : Str) (x : D) (N : List Ent → Prop) (R : List Ent → D → Prop), wrongD k p t = some pt → wps ⟨K, F0, H0, O, []⟩ (tRaise T.a_BadProgram "part" (fun cls d _ H => E cls d H) (tC (.str pt))) [.o (obP K T.a_Program a ([], [])), .d k, .d p, .d t, .no] N R := fun pt x N R e => wps_raise hX (wp_str ⟨_, rfl, _, _, _, pt, rfl, e, rfl⟩)
  by_cases ek : areKindsD k = true
  case neg =>
    refine wps_seq (wps_ifD true ?_ (fun _ => ?_) (fun h => nomatch h))
    · exact wpt_notD (b := false) (wpt_B (wp_callP (wpa_cons (wp_var rfl (wpa_nil ⟨hk, fun r e => ⟨_, e, by simpa using ek⟩⟩)))))
    · exact bad "kinds" .non _ _ (by unfold wrongD; rw [if_neg ek])
  have kf : ∃ ks, k = .tup ks := by
    cases k <;> first | exact ⟨_, rfl⟩ | cases ek
  obtain ⟨ks, rfl⟩ := kf
  refine wps_seq (wps_ifD false ?_ (fun h => nomatch h) (fun _ => ?_))
  · exact wpt_notD (b := true) (wpt_B (wp_callP (wpa_cons (wp_var rfl (wpa_nil ⟨hk, fun r e => ⟨_, e, ek⟩⟩)))))
  refine wps_next ?_
  by_cases ep : arePassesD (lenT (.tup ks)) p = true
  case neg =>
    refine wps_seq (wps_ifD true ?_ (fun _ => ?_) (fun h => nomatch h))
    · exact wpt_notD (b := false) (wpt_B (wp_callP (wpa_cons (wp_cb (wpa_cons (wp_var rfl (wpa_nil (rc_len rfl (wpa_cons (wp_var rfl (wpa_nil ⟨⟨⟨_, rfl⟩, hpp⟩, fun r e => ⟨_, e _ rfl, show arePassesD (lenT (.tup ks)) p = false by simpa using ep⟩⟩)))))))))))
    · exact bad "passes" .non _ _ (by unfold wrongD; rw [if_pos ek, if_neg ep])
  refine wps_seq (wps_ifD false ?_ (fun h => nomatch h) (fun _ => ?_))
  · exact wpt_notD (b := true) (wpt_B (wp_callP (wpa_cons (wp_cb (wpa_cons (wp_var rfl (wpa_nil (rc_len rfl (wpa_cons (wp_var rfl (wpa_nil ⟨⟨⟨_, rfl⟩, hpp⟩, fun r e => ⟨_, e _ rfl, ep⟩⟩)))))))))))
  refine wps_next ?_
  obtain ⟨xs, bs, rows, rfl, e1, e2, b, e3⟩ := passes_last ep
  refine wps_seq (wps_ifD (!tellsD (.tup xs) t) ?_ (fun h => bad "tells" .non _ _ (by unfold wrongD; rw [if_pos ek, if_pos ep, if_neg (by rw [nb_t h]; exact Bool.noConfusion)])) (fun h => wps_next ?_))
  · cases tt : isT "tuple" t with
    | false =>
      have z : tellsD (.tup xs) t = false := by cases t <;> first | rfl | cases tt
      rw [z]
      refine wpt_or (wpt_not (wpt_B (wp_isiB (by decide) (wp_var rfl ⟨ht.noObj, _, rfl, ?_⟩))))
      rw [tt]
      exact ite_t rfl rfl
    | true =>
      obtain ⟨ts, rfl⟩ := isT_tup tt
      have e5 : (false || (decide (ts.length ≠ rows.length) || !ts.all isTellD)) = !tellsD (.tup xs) (.tup ts) := by
        show _ = !(decide (ts.length = lenT (rowsOf (lastD (.tup xs)))) && ts.all isTellD)
        rw [e2]
        show _ = !(decide (ts.length = rows.length) && ts.all isTellD)
        by_cases hl : ts.length = rows.length <;> simp [hl]
      refine (wpt_orD (b := false) (c := decide (ts.length ≠ rows.length) || !ts.all isTellD) ?_ fun _ => ?_).imp fun c e => e.trans e5
      · exact wpt_notD (b := true) (wpt_B (wp_isiB (by decide) (wp_var rfl ⟨rfl, _, rfl, rfl⟩)))
      · refine wpt_orD ?_ fun _ => ?_
        · refine wpt_test (wp_op (wp_cb (wpa_cons (wp_var rfl (wpa_nil (rc_len rfl ?_))))))
          refine wp_cb (wpa_cons (wp_op (wp_op (wp_var rfl (wp_un (wp_int (ru_ii (r2_ixT e1 (wp_int (r2_ixT rfl ?_))))))))))
          refine wpa_nil (rc_len rfl (r2_neI ⟨_, rfl, ?_⟩))
          show (!decide ((ts.length : Int) = (rows.length : Int))) = decide (ts.length ≠ rows.length)
          by_cases hl : ts.length = rows.length
          · simp [hl]
          · have hl' : ¬ ((ts.length : Int) = (rows.length : Int)) := by omega
            simp [hl, hl']
        · refine wpt_notD (wpt_B ?_)
          refine wp_allLc isTellD rfl (wpi_tup ?_)
          refine wp_var rfl ⟨ts, rfl, ht.tup.1, fun d a o hd => ?_, _, rfl, rfl⟩
          exact wp_callP (wpa_cons (wp_var rfl (wpa_nil ⟨ht.tup.2 d hd, fun r e => e⟩)))
  have et : tellsD (.tup xs) t = true := nb_f h
  refine wps_seq (wps_fldN T.c_Program T.n_Program_p_kinds rfl (by decide) (by decide) (wp_var rfl ?_))
  refine wps_seq (wps_fldN T.c_Program T.n_Program_p_passes rfl (by decide +kernel) (by decide) (wp_var rfl ?_))
  refine wps_fldN T.c_Program T.n_Program_p_tells rfl (by decide +kernel) (by decide) (wp_var rfl ?_)
  exact ⟨_, rfl, rfl, _, _, _, rfl, by unfold wrongD; rw [if_pos ek, if_pos ep, if_pos et], rfl⟩
abbrev sp_Program_kinds {P : Program} {K : PySem.W.Frag} {mg : Str → Option Value} (T : Tx P K mg) : Sp := spP K (pre1 fun x => ∃ k p t, x = pgD T.a_Program k p t) (post1 fun x r => ∀ k p t, x = pgD T.a_Program k p t → r = k)
theorem ok_Program_kinds (T : Tx P K mg) : FnOk P wd K mg base CX0 1 T.f_Program_kinds T.d_Program_kinds ["self"] (sp_Program_kinds T) := by
  refine fn_P T.F_Program_kinds sc_Program_kinds (fun ds h => by obtain ⟨_, rfl, _⟩ := pre1_inv h; rfl) (fun cdv A outer s H E hr => ⟨_, (have nd := sc_Program_kinds.nd; (pss_one (ps_ret (pe_fld (pv 0) rfl)))), fun F0 H0 ds hp => ?_⟩)
  walk_at "s"
  obtain ⟨x, rfl, k, p, t, rfl⟩ := pre1_inv hp
  show wps _ _ [.d (pgD T.a_Program k p t)] _ _
  refine wps_ret (wp_fld T.c_Program T.n_Program_p_kinds (wp_var rfl ⟨_, _, k, rfl, rfl, fun k2 p2 t2 e => ?_⟩))
  cases e
  rfl
abbrev sp_Program_passes {P : Program} {K : PySem.W.Frag} {mg : Str → Option Value} (T : Tx P K mg) : Sp := spP K (pre1 fun x => ∃ k p t, x = pgD T.a_Program k p t) (post1 fun x r => ∀ k p t, x = pgD T.a_Program k p t → r = p)
theorem ok_Program_passes (T : Tx P K mg) : FnOk P wd K mg base CX0 1 T.f_Program_passes T.d_Program_passes ["self"] (sp_Program_passes T) := by
  refine fn_P T.F_Program_passes sc_Program_passes (fun ds h => by obtain ⟨_, rfl, _⟩ := pre1_inv h; rfl) (fun cdv A outer s H E hr => ⟨_, (have nd := sc_Program_passes.nd; (pss_one (ps_ret (pe_fld (pv 0) rfl)))), fun F0 H0 ds hp => ?_⟩)
  walk_at "s"
  obtain ⟨x, rfl, k, p, t, rfl⟩ := pre1_inv hp
  show wps _ _ [.d (pgD T.a_Program k p t)] _ _
  refine wps_ret (wp_fld T.c_Program T.n_Program_p_passes (wp_var rfl ⟨_, _, p, rfl, rfl, fun k2 p2 t2 e => ?_⟩))
  cases e
  rfl
abbrev sp_Program_tells {P : Program} {K : PySem.W.Frag} {mg : Str → Option Value} (T : Tx P K mg) : Sp := spP K (pre1 fun x => ∃ k p t, x = pgD T.a_Program k p t) (post1 fun x r => ∀ k p t, x = pgD T.a_Program k p t → r = t)
theorem ok_Program_tells (T : Tx P K mg) : FnOk P wd K mg base CX0 1 T.f_Program_tells T.d_Program_tells ["self"] (sp_Program_tells T) := by
  refine fn_P T.F_Program_tells sc_Program_tells (fun ds h => by obtain ⟨_, rfl, _⟩ := pre1_inv h; rfl) (fun cdv A outer s H E hr => ⟨_, (have nd := sc_Program_tells.nd; (pss_one (ps_ret (pe_fld (pv 0) rfl)))), fun F0 H0 ds hp => ?_⟩)
  walk_at "s"
  obtain ⟨x, rfl, k, p, t, rfl⟩ := pre1_inv hp
  show wps _ _ [.d (pgD T.a_Program k p t)] _ _
  refine wps_ret (wp_fld T.c_Program T.n_Program_p_tells (wp_var rfl ⟨_, _, t, rfl, rfl, fun k2 p2 t2 e => ?_⟩))
  cases e
  rfl
abbrev sp_Program_parts {P : Program} {K : PySem.W.Frag} {mg : Str → Option Value} (T : Tx P K mg) : Sp := spP K (pre1 fun x => ∃ k p t, x = pgD T.a_Program k p t) (post1 fun x r => ∀ k p t, x = pgD T.a_Program k p t → r = .tup [k, p, t])
theorem ok_Program_parts (T : Tx P K mg) : FnOk P wd K mg base CX0 1 T.f_Program_parts T.d_Program_parts ["self"] (sp_Program_parts T) := by
  refine fn_P T.F_Program_parts sc_Program_parts (fun ds h => by obtain ⟨_, rfl, _⟩ := pre1_inv h; rfl) (fun cdv A outer s H E hr => ⟨_, (have nd := sc_Program_parts.nd; (pss_one (ps_ret (pe_tup (pa_cons (pe_fld (pv 0) rfl) (pa_cons (pe_fld (pv 0) rfl) (pa_cons (pe_fld (pv 0) rfl) pa_nil))))))), fun F0 H0 ds hp => ?_⟩)
  walk_at "s"
  obtain ⟨x, rfl, k, p, t, rfl⟩ := pre1_inv hp
  show wps _ _ [.d (pgD T.a_Program k p t)] _ _
  refine wps_ret (wp_tup (wpa_cons (wp_fld T.c_Program T.n_Program_p_kinds (wp_var rfl ⟨_, _, k, rfl, rfl, ?_⟩))))
  refine wpa_cons (wp_fld T.c_Program T.n_Program_p_passes (wp_var rfl ⟨_, _, p, rfl, rfl, ?_⟩))
  refine wpa_cons (wp_fld T.c_Program T.n_Program_p_tells (wp_var rfl ⟨_, _, t, rfl, rfl, ?_⟩))
  refine wpa_nil ⟨by simp, fun k2 p2 t2 e => ?_⟩
  cases e
  rfl
abbrev sp_Program_eq {P : Program} {K : PySem.W.Frag} {mg : Str → Option Value} (T : Tx P K mg) : Sp := spP K (pre2 fun x y => (∃ k p t, x = pgD T.a_Program k p t ∧ ProgOk k p t) ∧ ∃ k p t, y = pgD T.a_Program k p t ∧ ProgOk k p t) (post2 fun x y r => ∀ k p t k2 p2 t2, x = pgD T.a_Program k p t → y = pgD T.a_Program k2 p2 t2 → r = .bl (eqvD (.tup [k, p, t]) (.tup [k2, p2, t2])))
theorem ok_Program_eq (T : Tx P K mg) : FnOk P wd K mg base CX0 2 T.f_Program_eq T.d_Program_eq ["self", "other"] (sp_Program_eq T) := by
  refine fn_P T.F_Program_eq sc_Program_eq (fun ds h => by obtain ⟨_, _, rfl, _⟩ := pre2_inv h; rfl) (fun cdv A outer s H E hr => ⟨_, (have nd := sc_Program_eq.nd; (pss_one (ps_ret (pe_and (pe_callB call_isi rfl T.m_isinstance (by decide +kernel) (pa_cons (pv 1) (pa_cons (pe_glob (v := .ref T.a_Program) rfl T.g_Program rfl) pa_nil))) (pe_one (pe_cmpR (op_eqD hr.units) (pe_meth0 (pv 0) T.c_Program T.M_Program_parts (ok_Program_parts T) (hr.mono (by decide)) T.b_Program_parts .nil pass0) (pe_meth0 (pv 1) T.c_Program T.M_Program_parts (ok_Program_parts T) (hr.mono (by decide)) T.b_Program_parts .nil pass0) (nomark _))))))), fun F0 H0 ds hp => ?_⟩)
  walk_at "s"
  obtain ⟨x, y, rfl, ⟨k, p, t, rfl, hv⟩, k2, p2, t2, rfl, hv2⟩ := pre2_inv hp
  show wps _ _ [.d (pgD T.a_Program k p t), .d (pgD T.a_Program k2 p2 t2)] _ _
  refine wps_ret (wp_andV (wp_isiC (wp_var rfl ⟨fun C ns ds e => by cases e; exact T.i_Program, true, T.self_Program, _, rfl, ite_t rfl ?_⟩)))
  refine wp_op (wp_methP (wp_var rfl ⟨_, _, rfl, by decide +kernel, wpa_nil ⟨⟨_, _, _, rfl⟩, fun r e => ?_⟩⟩))
  refine wp_methP (wp_var rfl ⟨_, _, rfl, by decide +kernel, wpa_nil ⟨⟨_, _, _, rfl⟩, fun r2 e2 => ?_⟩⟩)
  obtain rfl := e _ _ _ rfl
  obtain rfl := e2 _ _ _ rfl
  refine r2_eqD hv.cmp hv2.cmp fun k3 p3 t3 k4 p4 t4 e3 e4 => ?_
  cases e3
  cases e4
  rfl
end Sd
set_option Elab.async false
set_option linter.all false
set_option maxRecDepth 100000
set_option maxHeartbeats 4000000
namespace Sd
open PySem PySem.Spec L2
open SX (S S_len S_cat S_inj)
open TL (numL joinL spl)
local macro_rules | `(tactic| walk_at "r") => `(tactic| (first | (dsimp only [cxOf, Cx.nox, Cx.wish, Cx.blk]; done) | (dsimp only [cxOf, Cx.nox, Cx.wish, Cx.blk]; rfl) | rfl))
local macro_rules | `(tactic| walk_at "k") => `(tactic| kernel_rfl)
local macro_rules | `(tactic| walk_at "s") => `(tactic| try dsimp only [cxOf, List.map_cons, List.map_nil])
local macro_rules | `(tactic| walk_at "d") => `(tactic| first
  | (with_reducible refine wps_seq ?_)
  | (with_reducible refine wps_ret ?_)
  | (with_reducible refine wps_if ?_)
  | (with_reducible refine wps_next ?_)
  | (with_reducible refine wps_drop ?_)
  | (with_reducible refine wpt_test ?_)
  | (with_reducible refine wpt_B ?_)
  | (with_reducible refine wpt_not ?_)
  | (with_reducible refine wpt_or ?_)
  | (with_reducible refine wpt_and ?_)
  | (with_reducible refine wp_andV ?_)
  | (with_reducible refine wp_orV ?_)
  | (with_reducible refine wp_notV ?_)
  | (refine wp_isiB (by decide) ?_)
  | (with_reducible refine wp_chain ?_)
  | (with_reducible refine wp_op ?_)
  | (with_reducible refine wp_tup ?_)
  | (with_reducible refine wpl_lst ?_)
  | (with_reducible refine wp_m1 ?_)
  | (with_reducible refine wp_m0 ?_)
  | (with_reducible refine wp_cb ?_)
  | (with_reducible refine wpa_cons ?_)
  | (with_reducible refine wpa_nil ?_)
  | (with_reducible refine wp_int ?_)
  | (with_reducible refine wp_str ?_)
  | (with_reducible refine wp_bl ?_)
  | (with_reducible refine wp_non ?_)
  | (refine wp_var rfl ?_)
  | (refine rc_len rfl ?_)
  | (refine r2_ii ?_)
  | (refine r2_ib ?_)
  | (refine ⟨_, rfl, ?_⟩))
variable {P : Program} {wd : World} {mg : Str → Option Value} {base : Heap} {K : PySem.W.Frag}
abbrev sp_is_numeral (K : PySem.W.Frag) : Sp := spP K (pre1 fun x => ∃ l : List Nat, x = strD l ∧ l.length ≤ 1000000) (post1 fun x r => ∀ l : List Nat, x = strD l → r = .bl (numC l))
theorem ok_is_numeral (T : Tx P K mg) : FnOk P wd K mg base CX0 1 T.f_is_numeral T.d_is_numeral ["word"] (sp_is_numeral K) := by
  refine fn_P T.F_is_numeral sc_is_numeral (fun ds h => by obtain ⟨_, rfl, _⟩ := pre1_inv h; rfl) (fun cdv A outer s H E hr => ⟨_, (have nd := sc_is_numeral.nd; (pss_cons (ps_set (i := 1) nd rfl (.inl rfl) (pe_ifExp (pt_cmpR op_eq (pe_slice sl_str (pv 0) po_none (po_some pe_int)) pe_str (nomark _)) (pe_slice sl_str (pv 0) (po_some pe_int) po_none) (pv 0)))
      (pss_cons (ps_if (PW.pt (pw_or (pt_not (pt_chain op_le op_le pe_int (pe_callB call_len rfl T.m_len (by decide +kernel) (pa_cons (pv 1) pa_nil)) (pe_glob (v := .int 6) rfl (T.m_MOST_DIGITS).choose_spec ⟨_, rfl⟩))) (pw_or1 (pt_not (pt_val (pe_callB (cr_all rfl) rfl T.m_all (by decide +kernel) (pa_cons (pe_lc (own := [("sign", 2)]) (g := gName 2) rfl nd (pi_str (pv 1)) (blkOk_by (N := N_is_numeral) (sc := defScope s_is_numeral) (by decide +kernel)) (fun _ _ _ _ _ => (pg_name (i := 2) nd rfl (.inl rfl))) (fun _ _ _ _ _ => pts_nil) (fun _ _ _ _ _ => (castE (pe_cmpR op_in_sign (pv 2) (pe_glob (v := .str "0123456789") rfl (T.m_DIGITS).choose_spec ⟨_, rfl⟩) rfl) (by walk_at "r")))) pa_nil))))))) (pss_one (ps_ret pe_bl)) pss_nil)
      (pss_one (ps_ret (pe_or (pe_cmpR op_eq (pv 0) pe_str (nomark _)) (pe_one (pe_cmpR op_ne (pe_ix ix_str (pv 1) pe_int (fun _ _ => rfl)) pe_str (nomark _))))))))), fun F0 H0 ds hp => ?_⟩)
  walk_at "s"
  obtain ⟨x, rfl, l, rfl, hl⟩ := pre1_inv hp
  show wps _ _ [.d (strD l), .no, .no] _ _
  have hS : (S l).length ≤ 1000000 := by rw [S_len]; exact hl
  have hal : (absC l).length ≤ 1000000 := by unfold absC; split <;> first | omega | (rw [List.length_drop]; omega)
  have hA : (S (absC l)).length ≤ 1000000 := by rw [S_len]; exact hal
  refine wps_seq (wps_asgV (strD (absC l)) (wp_ifD (decide (l.take 1 = [45])) ?_ (fun h => ?_) (fun h => ?_)) ?_)
  · refine wpt_test (wp_op (wp_sl (wp_var rfl (wpo_none (wpo_some (wp_int ⟨1, rfl, rs_str hS ?_⟩))))))
    rw [show cutS (S l) none (some 1) = S (l.take 1) from cut_to l 1]
    refine wp_str (r2_eqS ⟨_, rfl, ?_⟩)
    rw [show ("-" : Str) = S [45] by decide +kernel]
    exact S_eq
  · refine wp_sl (wp_var rfl (wpo_some (wp_int ⟨1, rfl, wpo_none (rs_str hS ?_)⟩)))
    rw [show cutS (S l) (some 1) none = S (l.drop 1) from cut_from l 1]
    unfold absC
    rw [if_pos (of_decide_eq_true h)]
  · refine wp_var rfl ?_
    unfold absC
    rw [if_neg (of_decide_eq_false h)]
  show wps _ _ [.d (strD l), .d (strD (absC l)), .no] _ _
  have e0 : (decide ((1 : Int) ≤ ((S (absC l)).length : Nat)) && decide ((((S (absC l)).length : Nat) : Int) ≤ 6)) = (decide (1 ≤ (absC l).length) && decide ((absC l).length ≤ 6)) := by
    rw [S_len]
    congr 1 <;> exact decide_eq_decide.mpr (by omega)
  have c1 : wpt ⟨K, F0, H0, [], []⟩ (tTest (tChain (rI0 fun i j => V.bl (decide (i ≤ j))) (rI0 fun i j => V.bl (decide (i ≤ j))) (tC (V.int 1)) (tCB (fun xs H Q => ∃ x n, xs = [x] ∧ LenV K x H n ∧ Q (V.int ↑n) H) (tCons (tVar 1) tNil)) (tC (V.int 6)))) [.d (strD l), .d (strD (absC l)), .no] (fun b => b = (decide (1 ≤ (absC l).length) && decide ((absC l).length ≤ 6))) := by
    exact wpt_test (wp_chainI 6 (wp_glob (fun F => .int _) rfl) (wp_int (wp_cb (wpa_cons (wp_var rfl (wpa_nil (rc_len (len_str hA) ⟨1, _, rfl, rfl, _, rfl, e0⟩)))))))
  have c2 : wp ⟨K, F0, H0, [], []⟩ (tCB (rAll K) (tCons (tLc (iStr (tVar 1)) (gName 2) tYes (tOp (fun x y H Q => ∃ c z, x = V.str { cps := #[c] } ∧ y = V.str z ∧ Q (V.bl (decide (c ∈ z.cps.toList))) H) (tVar 2) (tC (V.str (Str.ofString "0123456789")))) [2]) tNil)) [.d (strD l), .d (strD (absC l)), .no] (fun d => d = .bl ((absC l).all digC)) := by
    refine wp_allLc (fun d => match d with | .str ⟨⟨[c]⟩⟩ => digC c | _ => false) rfl (wpi_str ?_)
    refine wp_var rfl ⟨S (absC l), rfl, ?_, fun d a o hd => ?_, ?_⟩
    · rw [List.length_map]; exact hal
    · obtain ⟨c, hc, rfl⟩ := List.mem_map.mp hd
      refine wp_op (wp_var rfl (wp_glob (fun F => .str _) (r2_inS ?_)))
      exact congrArg D.bl (dig_in c)
    · rw [List.all_map]
      rfl
  have key : numC l = ((decide (1 ≤ (absC l).length) && decide ((absC l).length ≤ 6)) && (absC l).all digC && (decide (l = [48]) || !decide ((absC l).head? = some 48))) := rfl
  refine wps_seq (wps_ifD _ (wpt_orD (wpt_notD c1) fun _ => wpt_notD (wpt_B (c2.imp fun d e => ⟨_, e, rfl⟩))) (fun h => ?_) (fun h => ?_))
  · refine wps_ret (wp_bl fun l2 e => ?_)
    cases e
    rw [key]
    cases h1 : (decide (1 ≤ (absC l).length) && decide ((absC l).length ≤ 6)) with
    | false => rfl
    | true =>
      rw [h1] at h
      rw [nb_t (b := (absC l).all digC) (by simpa using h)]
      rfl
  · rw [show ((decide (1 ≤ (absC l).length) && decide ((absC l).length ≤ 6)) && (absC l).all digC) = true by
      cases h1 : (decide (1 ≤ (absC l).length) && decide ((absC l).length ≤ 6)) <;> cases h2 : (absC l).all digC <;> rw [h1, h2] at h <;> first | rfl | cases h] at key
    refine wps_next (wps_ret (wp_orV (wp_op (wp_var rfl (wp_str (r2_eqS ⟨_, rfl, ?_⟩))))))
    rw [show ("0" : Str) = S [48] by decide +kernel, S_eq]
    refine ite_b (fun h3 => ?_) (fun h3 => ?_)
    · intro l2 e
      cases e
      rw [key, h3]
      rfl
    · have h1 : 1 ≤ (absC l).length := by
        cases h1 : (decide (1 ≤ (absC l).length) && decide ((absC l).length ≤ 6)) with
        | false => rw [h1] at h; cases h
        | true => exact of_decide_eq_true (Bool.and_eq_true_iff.mp h1).1
      obtain ⟨c, r, hc⟩ : ∃ c r, absC l = c :: r := by
        cases e : absC l with
        | nil => rw [e] at h1; exact absurd h1 (by decide)
        | cons c r => exact ⟨c, r, rfl⟩
      refine wp_op (wp_op (wp_var rfl (wp_int (r2_ixS (c := c) hA ?_ (wp_str (r2_neS fun l2 e => ?_))))))
      · show L2.atI (absC l) 0 = some c
        rw [hc]
        exact at0 _ _
      · cases e
        rw [key, h3, hc]
        show D.bl (!decide (S [c] = S [48])) = _
        rw [S_eq]
        congr 1
        rw [Bool.true_and, Bool.false_or]
        congr 1
        exact decide_eq_decide.mpr (by simp)
abbrev sp_numbers_in (K : PySem.W.Frag) : Sp := spP K (pre1 fun x => ∃ ws : List (List Nat), x = .lst (ws.map strD) ∧ ws.length ≤ 1000000 ∧ ∀ w ∈ ws, w.length ≤ 1000000) (post1 fun x r => ∀ ws : List (List Nat), x = .lst (ws.map strD) → r = numsD (numsC ws))
theorem ok_numbers_in (T : Tx P K mg) : FnOk P wd K mg base CX0 2 T.f_numbers_in T.d_numbers_in ["words"] (sp_numbers_in K) := by
  refine fn_P T.F_numbers_in sc_numbers_in (fun ds h => by obtain ⟨_, rfl, _⟩ := pre1_inv h; rfl) (fun cdv A outer s H E hr => ⟨_, (have nd := sc_numbers_in.nd; (pss_one (ps_ret (pe_ifExp (pt_val (pe_callB (cr_all rfl) rfl T.m_all (by decide +kernel) (pa_cons (pe_lc (own := [("word", 1)]) (g := gName 1) rfl nd (pi_list (pv 0)) (blkOk_by (N := N_numbers_in) (sc := defScope s_numbers_in) (by decide +kernel)) (fun _ _ _ _ _ => (pg_name (i := 1) nd rfl (.inl rfl))) (fun _ _ _ _ _ => pts_nil) (fun _ _ _ _ _ => (castE (pe_call (ok_is_numeral T) (hr.mono (by decide)) rfl T.g_is_numeral T.F_is_numeral.kp T.b_is_numeral .nil pass0 (pa_cons (pv 1) pa_nil)) (by walk_at "r")))) pa_nil))) (pe_callTy call_tuple_of rfl T.m_tuple (by decide +kernel) (pa_cons (pe_lc (own := [("word", 1)]) (g := gName 1) rfl nd (pi_list (pv 0)) (blkOk_by (N := N_numbers_in) (sc := defScope s_numbers_in) (by decide +kernel)) (fun _ _ _ _ _ => (pg_name (i := 1) nd rfl (.inl rfl))) (fun _ _ _ _ _ => pts_nil) (fun _ _ _ _ _ => (castE (pe_callTy call_int_str rfl T.m_int (by decide +kernel) (pa_cons (pv 1) pa_nil)) (by walk_at "r")))) pa_nil)) pe_non)))), fun F0 H0 ds hp => ?_⟩)
  walk_at "s"
  obtain ⟨x, rfl, ws, rfl, hl, hw⟩ := pre1_inv hp
  show wps _ _ [.d (.lst (ws.map strD)), .no] _ _
  have hws : (ws.map strD).length ≤ 1000000 := by rw [List.length_map]; exact hl
  have inj : ∀ ws2 : List (List Nat), D.lst (ws.map strD) = .lst (ws2.map strD) → ws2 = ws := fun ws2 e => by
    have e' : ws.map strD = ws2.map strD := D.lst.inj e
    exact (List.map_inj_right (f := strD) fun a b h => S_inj (D.str.inj h)).mp e'.symm
  refine wps_ret (wp_ifD (ws.all numC) ?_ (fun h => ?_) (fun h => ?_))
  · refine wpt_B ?_
    refine wp_allLc (fun d => match d with | .str s => numC (TL.tl s) | _ => false) rfl (wpi_lst ?_)
    refine wp_var rfl ⟨_, rfl, hws, fun d a o hd => ?_, _, rfl, ?_⟩
    · obtain ⟨c, hc, rfl⟩ := List.mem_map.mp hd
      exact wp_callP (wpa_cons (wp_var rfl (wpa_nil ⟨⟨c, rfl, hw c hc⟩, fun r e => e c rfl⟩)))
    · rw [List.all_map]
      rfl
  · refine wp_cb (wpa_cons (wp_l (wpl_map (fun d => match d with | .str s => .int (valC (TL.tl s)) | _ => .non) rfl (wpi_lst ?_))))
    refine wp_var rfl ⟨_, rfl, hws, fun d a o hd => ?_, wpa_nil (rc_tupL fun ws2 e => ?_)⟩
    · obtain ⟨c, hc, rfl⟩ := List.mem_map.mp hd
      obtain ⟨h1, h2⟩ := numC_val (List.all_eq_true.mp h c hc)
      exact wp_cb (wpa_cons (wp_var rfl (wpa_nil (rc_intS h1 (by rw [S_len]; omega) rfl))))
    · rw [inj ws2 e]
      unfold numsC
      rw [if_pos h]
      show D.tup _ = D.tup _
      rw [List.map_map, List.map_map]
      rfl
  · refine wp_non fun ws2 e => ?_
    rw [inj ws2 e]
    unfold numsC
    rw [if_neg (by rw [h]; exact Bool.false_ne_true)]
    rfl
abbrev sp_read_row (K : PySem.W.Frag) : Sp := spP K (pre2 fun m x => (∃ n : Nat, m = .int n ∧ n ≤ 100000) ∧ ∃ l : List Nat, x = strD l ∧ l.length ≤ 500000) (post2 fun m x r => ∀ (n : Nat) (l : List Nat), m = .int n → x = strD l → r = rowOD (rowOf n l))
theorem ok_read_row (T : Tx P K mg) : FnOk P wd K mg base CX0 3 T.f_read_row T.d_read_row ["size", "line"] (sp_read_row K) := by
  refine fn_P T.F_read_row sc_read_row (fun ds h => by obtain ⟨_, _, rfl, _⟩ := pre2_inv h; rfl) (fun cdv A outer s H E hr => ⟨_, (have nd := sc_read_row.nd; (pss_cons (ps_set (i := 2) nd rfl (.inr rfl) (pe_call (ok_numbers_in T) (hr.mono (by decide)) rfl T.g_numbers_in T.F_numbers_in.kp T.b_numbers_in .nil pass0 (pa_cons (pe_split (pe_slice sl_str (pv 1) (po_some (pe_callB call_len rfl T.m_len (by decide +kernel) (pa_cons (pe_glob (v := .str "  ") rfl (T.m_MARGIN).choose_spec ⟨_, rfl⟩) pa_nil))) po_none) pe_str) pa_nil)))
      (pss_cons (ps_if (PW.pt (pw_or (pt_cmpR op_ne (pe_slice sl_str (pv 1) po_none (po_some (pe_callB call_len rfl T.m_len (by decide +kernel) (pa_cons (pe_glob (v := .str "  ") rfl (T.m_MARGIN).choose_spec ⟨_, rfl⟩) pa_nil)))) (pe_glob (v := .str "  ") rfl (T.m_MARGIN).choose_spec ⟨_, rfl⟩) (nomark _)) (pw_or (pt_cmpR op_isN (pv 2) pe_non (nomark _)) (pw_or1 (pt_cmpR op_ne (pe_callB call_len rfl T.m_len (by decide +kernel) (pa_cons (pv 2) pa_nil)) (pe_op op_mul pe_int (pv 0)) (nomark _)))))) (pss_one (ps_ret pe_non)) pss_nil)
      (pss_one (ps_ret (pe_callTy call_tuple_of rfl T.m_tuple (by decide +kernel) (pa_cons (pe_lc (own := [("spot", 3)]) (g := gName 3) rfl nd (pi_range1 rfl T.m_range (pa_cons (pv 0) pa_nil)) (blkOk_by (N := N_read_row) (sc := defScope s_read_row) (by decide +kernel)) (fun _ _ _ _ _ => (pg_name (i := 3) nd rfl (.inl rfl))) (fun _ _ _ _ _ => pts_nil) (fun _ _ _ _ _ => (castE (pe_tup (pa_cons (pe_ix ix_tup (pv 2) (pe_op op_mul pe_int (pv 3)) (fun _ _ => rfl)) (pa_cons (pe_ix ix_tup (pv 2) (pe_op op_add (pe_op op_mul pe_int (pv 3)) pe_int) (fun _ _ => rfl)) pa_nil))) (by walk_at "r")))) pa_nil))))))), fun F0 H0 ds hp => ?_⟩)
  walk_at "s"
  obtain ⟨m, x, rfl, ⟨n, rfl, hn⟩, l, rfl, hl⟩ := pre2_inv hp
  show wps _ _ [.d (.int n), .d (strD l), .no, .no] _ _
  have hS : (S l).length ≤ 1000000 := by rw [S_len]; omega
  have lenM : ∀ (G : List Ent) (Q : D → Prop), Q (.int 2) → wp ⟨K, F0, H0, [], []⟩ (tCB (fun xs H Q => ∃ x n, xs = [x] ∧ LenV K x H n ∧ Q (V.int ↑n) H) (tCons (tC (.str "  ")) tNil)) G Q := fun G Q q =>
    wp_cb (wpa_cons (wp_glob (fun F => .str _) (wpa_nil (rc_len (d := .str "  ") (n := 2) (by decide +kernel) q))))
  have hsp : ∀ w ∈ splitC (l.drop 2) 32, w.length ≤ 1000000 := fun w hw => by
    have := spl_len (l := l.drop 2) (acc := []) hw
    rw [List.length_drop] at this
    simp only [List.length_nil] at this
    omega
  have hcnt : (splitC (l.drop 2) 32).length ≤ 1000000 := by
    have := spl_cnt (l := l.drop 2) (acc := []) (c := 32)
    rw [List.length_drop] at this
    unfold splitC
    omega
  refine wps_seq (wps_asgV (numsD (numsC (splitC (l.drop 2) 32))) ?_ ?_)
  · refine wp_callP (wpa_cons (wp_l (wpl_m1 (wp_sl (wp_var rfl (wpo_some (lenM _ _ ⟨2, rfl, wpo_none (rs_str hS ⟨⟨_, rfl⟩, wp_str ?_⟩)⟩)))))))
    rw [show cutS (S l) (some 2) none = S (l.drop 2) from cut_from l 2, show (" " : Str) = S [32] by decide +kernel]
    refine rm_split (by decide +kernel) (by rw [S_len, List.length_drop]; omega) ?_
    rw [split_C _ _ (by decide), ← strs_map]
    exact wpa_nil ⟨⟨_, rfl, hcnt, hsp⟩, fun r e => e _ rfl⟩
  show wps _ _ [.d (.int n), .d (strD l), .d (numsD (numsC (splitC (l.drop 2) 32))), .no] _ _
  refine wps_seq (wps_if (wpt_or (wpt_test (wp_op (wp_sl (wp_var rfl (wpo_none (wpo_some (lenM _ _ ⟨2, rfl, rs_str hS ?_⟩)))))))))
  rw [show cutS (S l) none (some 2) = S (l.take 2) from cut_to l 2]
  refine wp_glob (fun F => .str _) (r2_neS ⟨_, rfl, ?_⟩)
  rw [show ("  " : Str) = S [32, 32] by decide +kernel, S_eq]
  cases hm : decide (l.take 2 = [32, 32]) with
  | false =>
    refine ite_t rfl (ite_t rfl (wps_ret (wp_non fun n2 l2 e1 e2 => ?_)))
    cases Int.ofNat.inj (D.int.inj e1)
    cases S_inj (D.str.inj e2)
    unfold rowOf
    cases numsC (splitC (l.drop 2) 32) with
    | none => rfl
    | some ns => dsimp only; rw [if_neg fun z => of_decide_eq_false hm z.1]; rfl
  | true =>
    refine ite_f rfl (wpt_or (wpt_test (wp_op (wp_var rfl (wp_non (r2_isN ⟨_, rfl, ?_⟩))))))
    cases hns : numsC (splitC (l.drop 2) 32) with
    | none =>
      refine ite_t rfl (ite_t rfl (wps_ret (wp_non fun n2 l2 e1 e2 => ?_)))
      cases Int.ofNat.inj (D.int.inj e1)
      cases S_inj (D.str.inj e2)
      unfold rowOf
      rw [hns]
      rfl
    | some ns =>
      have hnl : ns.length ≤ 1000000 := by
        unfold numsC at hns
        split at hns
        · cases hns
          rw [List.length_map]
          exact hcnt
        · cases hns
      refine ite_f rfl (wpt_test (wp_op (wp_cb (wpa_cons (wp_var rfl (wpa_nil (rc_len rfl (wp_op (wp_int (wp_var rfl (r2_ic (.inl (by decide)) (r2_neI ⟨_, rfl, ?_⟩))))))))))))
      rw [List.length_map]
      cases h2 : decide ((ns.length : Int) = 2 * (n : Int)) with
      | false =>
        refine ite_t rfl (wps_ret (wp_non fun n2 l2 e1 e2 => ?_))
        cases Int.ofNat.inj (D.int.inj e1)
        cases S_inj (D.str.inj e2)
        unfold rowOf
        rw [hns]
        dsimp only
        rw [if_neg fun z => of_decide_eq_false h2 (by have := z.2; omega)]
        rfl
      | true =>
        have h2' : ns.length = 2 * n := by have := of_decide_eq_true h2; omega
        refine ite_f rfl (wps_next (wps_ret ?_))
        refine wp_cb (wpa_cons (wp_l (wpl_map (fun d => match d with | .int i => pairD (ns.getD (2 * i.toNat) 0, ns.getD (2 * i.toNat + 1) 0) | _ => .non) rfl (wpi_rng ?_))))
        refine wpa_cons (wp_var rfl (wpa_nil ⟨n, rfl, by omega, ?_, fun d a o hd => ?_, wpa_nil (rc_tupL fun n2 l2 e1 e2 => ?_)⟩))
        · rw [List.length_map, List.length_range]; omega
        · obtain ⟨i, hi, rfl⟩ := List.mem_map.mp hd
          have hi' : i < n := by have := List.mem_range.mp hi; omega
          have g1 : L2.atI (ns.map D.int) (2 * (i : Int)) = some (.int (ns.getD (2 * i) 0)) := by
            rw [show (2 : Int) * (i : Int) = ((2 * i : Nat) : Int) by omega, atN (by rw [List.length_map]; omega), List.getElem?_map, List.getElem?_eq_getElem (by omega), List.getD_eq_getElem?_getD, List.getElem?_eq_getElem (by omega)]
            rfl
          have g2 : L2.atI (ns.map D.int) (2 * (i : Int) + 1) = some (.int (ns.getD (2 * i + 1) 0)) := by
            rw [show (2 : Int) * (i : Int) + 1 = ((2 * i + 1 : Nat) : Int) by omega, atN (by rw [List.length_map]; omega), List.getElem?_map, List.getElem?_eq_getElem (by omega), List.getD_eq_getElem?_getD, List.getElem?_eq_getElem (by omega)]
            rfl
          refine wp_tup (wpa_cons (wp_op (wp_var rfl (wp_op (wp_int (wp_var rfl (r2_ic (.inl (by decide)) (r2_ixT g1 ?_))))))))
          refine wpa_cons (wp_op (wp_var rfl (wp_op (wp_op (wp_int (wp_var rfl (r2_ic (.inl (by decide)) (wp_int (r2_ii (r2_ixT g2 ?_))))))))))
          exact wpa_nil ⟨by simp, rfl⟩
        · cases Int.ofNat.inj (D.int.inj e1)
          cases S_inj (D.str.inj e2)
          unfold rowOf
          rw [hns]
          dsimp only
          rw [if_pos ⟨of_decide_eq_true hm, h2'⟩]
          show D.tup _ = D.tup _
          unfold pairsC
          rw [show (n : Int).toNat = n from Int.toNat_natCast n, List.map_map, List.map_map]
          rfl
end Sd
set_option Elab.async false
set_option linter.all false
set_option maxRecDepth 100000
set_option maxHeartbeats 4000000
namespace Sd
open PySem PySem.Spec L2
open SX (S S_len S_cat S_inj)
open TL (numL joinL spl)
local macro_rules | `(tactic| walk_at "r") => `(tactic| (first | (dsimp only [cxOf, Cx.nox, Cx.wish, Cx.blk]; done) | (dsimp only [cxOf, Cx.nox, Cx.wish, Cx.blk]; rfl) | rfl))
local macro_rules | `(tactic| walk_at "k") => `(tactic| kernel_rfl)
local macro_rules | `(tactic| walk_at "s") => `(tactic| try dsimp only [cxOf, List.map_cons, List.map_nil])
local macro_rules | `(tactic| walk_at "d") => `(tactic| first
  | (with_reducible refine wps_seq ?_)
  | (with_reducible refine wps_ret ?_)
  | (with_reducible refine wps_if ?_)
  | (with_reducible refine wps_next ?_)
  | (with_reducible refine wps_drop ?_)
  | (with_reducible refine wpt_test ?_)
  | (with_reducible refine wpt_B ?_)
  | (with_reducible refine wpt_not ?_)
  | (with_reducible refine wpt_or ?_)
  | (with_reducible refine wpt_and ?_)
  | (with_reducible refine wp_andV ?_)
  | (with_reducible refine wp_orV ?_)
  | (with_reducible refine wp_notV ?_)
  | (refine wp_isiB (by decide) ?_)
  | (with_reducible refine wp_chain ?_)
  | (with_reducible refine wp_op ?_)
  | (with_reducible refine wp_tup ?_)
  | (with_reducible refine wpl_lst ?_)
  | (with_reducible refine wp_m1 ?_)
  | (with_reducible refine wp_m0 ?_)
  | (with_reducible refine wp_cb ?_)
  | (with_reducible refine wpa_cons ?_)
  | (with_reducible refine wpa_nil ?_)
  | (with_reducible refine wp_int ?_)
  | (with_reducible refine wp_str ?_)
  | (with_reducible refine wp_bl ?_)
  | (with_reducible refine wp_non ?_)
  | (refine wp_var rfl ?_)
  | (refine rc_len rfl ?_)
  | (refine r2_ii ?_)
  | (refine r2_ib ?_)
  | (refine ⟨_, rfl, ?_⟩))
variable {P : Program} {wd : World} {mg : Str → Option Value} {base : Heap} {K : PySem.W.Frag}
abbrev sp_read_order {P : Program} {K : PySem.W.Frag} {mg : Str → Option Value} (T : Tx P K mg) : Sp := spX K (pre2 fun x y => ∃ (ks : List (List Nat)) (pp tt : D), x = pgD T.a_Program (.tup (ks.map strD)) pp tt ∧ noObj y = true ∧ ∀ l, y = strD l → l.length ≤ 100000) (post2 fun x y r => ∀ (ks : List (List Nat)) (pp tt : D), x = pgD T.a_Program (.tup (ks.map strD)) pp tt → ∃ l ws, y = strD l ∧ orderC ks l = some ws ∧ r = .tup (ws.map strD)) (fun ds e => e = .e1 T.a_BadText "row" (.int 0) ∧ ∀ x y, ds = [x, y] → ∀ (ks : List (List Nat)) (pp tt : D), x = pgD T.a_Program (.tup (ks.map strD)) pp tt → ∀ l, y = strD l → orderC ks l = none)
theorem ok_read_order (T : Tx P K mg) : FnOk P wd K mg base (L2N.CX P wd) 3 T.f_read_order T.d_read_order ["program", "text"] (sp_read_order T) := by
  refine fn_X T.F_read_order sc_read_order (fun ds h => by obtain ⟨_, _, rfl, _⟩ := pre2_inv h; rfl) (fun cdv A outer s H E hr => ⟨_, (have nd := sc_read_order.nd; (pss_cons (ps_if (pt_not (pt_val (pe_callB call_isi rfl T.m_isinstance (by decide +kernel) (pa_cons (pv 1) (pa_cons (pe_bltn (v := .ty "str") (u := .type "str") rfl T.m_str (by decide +kernel) rfl) pa_nil))))) (pss_one (ps_err (W := fun cls d _ H => E cls d H) rfl takesX T.E_BadText (ok_BadText_init T) (hr.mono (by decide)) T.b_BadText_init rfl T.g_BadText pe_int)) pss_nil)
      (pss_cons (ps_set (i := 2) nd rfl (.inl rfl) (pe_ifExp (pt_cmpR op_eq (pv 1) (pe_glob (v := .str "-") rfl (T.m_EMPTY).choose_spec ⟨_, rfl⟩) (nomark _)) (pe_lst pa_nil) (pe_split (pv 1) pe_str)))
      (pss_cons (ps_if (pt_not (pt_val (pe_callB (cr_all rfl) rfl T.m_all (by decide +kernel) (pa_cons (pe_lc (own := [("word", 3)]) (g := gName 3) rfl nd (pi_list (pv 2)) (blkOk_by (N := N_read_order) (sc := defScope s_read_order) (by decide +kernel)) (fun _ _ _ _ _ => (pg_name (i := 3) nd rfl (.inl rfl))) (fun _ _ _ _ _ => pts_nil) (fun _ _ _ _ _ => (castE (pe_cmpR op_in_seq (pv 3) (pe_prop (pv 0) T.c_Program T.P_Program_kinds (ok_Program_kinds T) (hr.mono (by decide)) T.b_Program_kinds .nil pass0 rfl) (by rfl)) (by walk_at "r")))) pa_nil)))) (pss_one (ps_err (W := fun cls d _ H => E cls d H) rfl takesX T.E_BadText (ok_BadText_init T) (hr.mono (by decide)) T.b_BadText_init rfl T.g_BadText pe_int)) pss_nil)
      (pss_one (ps_ret (pe_callTy call_tuple_of rfl T.m_tuple (by decide +kernel) (pa_cons (pv 2) pa_nil)))))))), fun F0 H0 ds hp hX => ?_⟩)
  walk_at "s"
  obtain ⟨x, y, rfl, ks, pp, tt, rfl, hy, hl⟩ := pre2_inv hp
  show wps _ _ [.d (pgD T.a_Program (.tup (ks.map strD)) pp tt), .d y, .no, .no] _ _
  have kin : ∀ (ks2 : List (List Nat)) (p2 t2 : D), pgD T.a_Program (.tup (ks.map strD)) pp tt = pgD T.a_Program (.tup (ks2.map strD)) p2 t2 → ks2 = ks := fun ks2 p2 t2 e => by
    simp only [pgD, D.obj.injEq, List.cons.injEq, D.tup.injEq, true_and, and_true] at e
    exact (kD_inj e.1).symm
  cases ht : isT "str" y with
  | false =>
    refine wps_seq (wps_ifD true ?_ (fun _ => ?_) (fun h => nomatch h))
    · exact wpt_notD (b := false) (wpt_B (wp_isiB (by decide) (wp_var rfl ⟨hy, _, rfl, ht⟩)))
    · refine wps_raise hX (wp_int ⟨rfl, fun x' y' e ks2 p2 t2 _ l el => ?_⟩)
      cases e
      rw [el] at ht
      cases ht
  | true =>
    obtain ⟨s, rfl⟩ := isT_str ht
    obtain ⟨l, rfl⟩ : ∃ l, s = S l := ⟨_, str_S s⟩
    have hl := hl l rfl
    refine wps_seq (wps_ifD false ?_ (fun h => nomatch h) (fun _ => wps_next ?_))
    · exact wpt_notD (b := true) (wpt_B (wp_isiB (by decide) (wp_var rfl ⟨rfl, _, rfl, rfl⟩)))
    have ed : ("-" : Str) = S [45] := by decide +kernel
    have hcnt : (wordsC l).length ≤ 1000000 := by
      unfold wordsC
      split
      · simp
      · have := spl_cnt (l := l) (acc := []) (c := 32)
        unfold splitC
        omega
    refine wps_seq (wps_asgV (.lst ((wordsC l).map strD)) (wp_ifD (decide (l = [45])) ?_ (fun h => ?_) (fun h => ?_)) ?_)
    · refine wpt_test (wp_op (wp_var rfl (wp_glob (fun F => .str _) (r2_eqS ⟨_, rfl, ?_⟩))))
      rw [ed, S_eq]
    · refine wp_l (wpl_lst (wpa_nil ⟨by simp, ?_⟩))
      unfold wordsC
      rw [if_pos (of_decide_eq_true h)]
      rfl
    · refine wp_l (wpl_m1 (wp_var rfl ⟨⟨_, rfl⟩, wp_str ?_⟩))
      rw [show (" " : Str) = S [32] by decide +kernel]
      refine rm_split (by decide +kernel) (by rw [S_len]; omega) ?_
      unfold wordsC
      rw [split_C _ _ (by decide), ← strs_map, if_neg (of_decide_eq_false h)]
    show wps _ _ [.d (pgD T.a_Program (.tup (ks.map strD)) pp tt), .d (strD l), .d (.lst ((wordsC l).map strD)), .no] _ _
    refine wps_seq (wps_ifD (!(wordsC l).all fun w => decide (w ∈ ks)) ?_ (fun h => ?_) (fun h => wps_next ?_))
    · refine wpt_notD (wpt_B ?_)
      refine wp_allLc (fun d => match d with | .str x => decide (x ∈ ks.map S) | _ => false) rfl (wpi_lst ?_)
      refine wp_var rfl ⟨_, rfl, by rw [List.length_map]; exact hcnt, fun d a o hd => ?_, _, rfl, ?_⟩
      · obtain ⟨w, hw, rfl⟩ := List.mem_map.mp hd
        refine wp_op (wp_var rfl (wp_propP (wp_var rfl ⟨_, _, rfl, ⟨_, _, _, rfl⟩, fun r e => ?_⟩)))
        rw [show r = _ from e _ _ _ rfl]
        refine r2_inT rfl (by rw [strs_map]; exact flat_strs _) ?_
        show D.bl (inD (strD w) (ks.map strD)) = _
        rw [strs_map, inD_strs]
      · rw [List.all_map]
        congr 1
        funext w
        show decide (S w ∈ ks.map S) = decide (w ∈ ks)
        refine decide_eq_decide.mpr ⟨fun h => ?_, fun h => List.mem_map.mpr ⟨w, h, rfl⟩⟩
        obtain ⟨v, hv, e⟩ := List.mem_map.mp h
        rw [← S_inj e]; exact hv
    · refine wps_raise hX (wp_int ⟨rfl, fun x' y' e ks2 p2 t2 ex l2 el => ?_⟩)
      cases e
      obtain rfl := kin _ _ _ ex
      obtain rfl := strD_inj el
      unfold orderC
      rw [if_neg (by rw [nb_t h]; exact Bool.noConfusion)]
    · refine wps_ret (wp_cb (wpa_cons (wp_var rfl (wpa_nil (rc_tupL fun ks2 p2 t2 ex => ?_)))))
      obtain rfl := kin _ _ _ ex
      refine ⟨l, wordsC l, rfl, ?_, rfl⟩
      unfold orderC
      rw [if_pos (nb_f h)]
end Sd
set_option Elab.async false
set_option linter.all false
set_option maxRecDepth 100000
set_option maxHeartbeats 4000000
namespace Sd
open PySem PySem.Spec L2
open SX (S S_len S_cat S_inj)
open TL (numL joinL spl)
local macro_rules | `(tactic| walk_at "r") => `(tactic| (first | (dsimp only [cxOf, Cx.nox, Cx.wish, Cx.blk]; done) | (dsimp only [cxOf, Cx.nox, Cx.wish, Cx.blk]; rfl) | rfl))
local macro_rules | `(tactic| walk_at "k") => `(tactic| kernel_rfl)
local macro_rules | `(tactic| walk_at "s") => `(tactic| try dsimp only [cxOf, List.map_cons, List.map_nil])
local macro_rules | `(tactic| walk_at "d") => `(tactic| first
  | (with_reducible refine wps_seq ?_)
  | (with_reducible refine wps_ret ?_)
  | (with_reducible refine wps_if ?_)
  | (with_reducible refine wps_next ?_)
  | (with_reducible refine wps_drop ?_)
  | (with_reducible refine wpt_test ?_)
  | (with_reducible refine wpt_B ?_)
  | (with_reducible refine wpt_not ?_)
  | (with_reducible refine wpt_or ?_)
  | (with_reducible refine wpt_and ?_)
  | (with_reducible refine wp_andV ?_)
  | (with_reducible refine wp_orV ?_)
  | (with_reducible refine wp_notV ?_)
  | (refine wp_isiB (by decide) ?_)
  | (with_reducible refine wp_chain ?_)
  | (with_reducible refine wp_op ?_)
  | (with_reducible refine wp_tup ?_)
  | (with_reducible refine wpl_lst ?_)
  | (with_reducible refine wp_m1 ?_)
  | (with_reducible refine wp_m0 ?_)
  | (with_reducible refine wp_cb ?_)
  | (with_reducible refine wpa_cons ?_)
  | (with_reducible refine wpa_nil ?_)
  | (with_reducible refine wp_int ?_)
  | (with_reducible refine wp_str ?_)
  | (with_reducible refine wp_bl ?_)
  | (with_reducible refine wp_non ?_)
  | (refine wp_var rfl ?_)
  | (refine rc_len rfl ?_)
  | (refine r2_ii ?_)
  | (refine r2_ib ?_)
  | (refine ⟨_, rfl, ?_⟩))
variable {P : Program} {wd : World} {mg : Str → Option Value} {base : Heap} {K : PySem.W.Frag}
theorem ok_Reader_init (T : Tx P K mg) : FnOk P wd K mg base CX0 1 T.f_Reader_init T.d_Reader_init ["self"] (spRd K T.a_Reader) := by
  exact T.F_Reader_init.ok sc_Reader_init (fun vs H Q E h => by obtain ⟨_, _, rfl, _⟩ := h; rfl) (fun cdv A outer s H vs Q E hr h => ⟨_, (have nd := sc_Reader_init.nd; (pss_cons (ps_fld (pv 0) (pe_tup pa_nil) rfl)
      (pss_cons (ps_fld (pv 0) (pe_lst pa_nil) rfl)
      (pss_one (ps_fld (pv 0) (pe_lst pa_nil) rfl))))), spRd_body (by decide) T.c_Reader T.n_Reader_r_kinds T.n_Reader_r_passes T.n_Reader_r_tells h⟩)
abbrev sp_Reader_takes_kinds {P : Program} {K : PySem.W.Frag} {mg : Str → Option Value} (T : Tx P K mg) : Sp := spO K (rdO K T.a_Reader) (fun s ds => (∃ n, n ≤ 100000 ∧ RsOk n s) ∧ pre1 (fun x => wordsP x) ds) (fun s ds d s' => ∀ ws : List (List Nat), ds = [.lst (ws.map strD)] → outc (takesK s ws) s d s')
theorem ok_Reader_takes_kinds (T : Tx P K mg) : FnOk P wd K mg base CX0 2 T.f_Reader_takes_kinds T.d_Reader_takes_kinds ["self", "words"] (sp_Reader_takes_kinds T) := by
  refine fn_O rdO_at T.F_Reader_takes_kinds sc_Reader_takes_kinds (fun s ds h => by have h := h.2; obtain ⟨_, rfl, _⟩ := pre1_inv h; rfl) (fun cdv A outer s H E hr => ⟨_, (have nd := sc_Reader_takes_kinds.nd; (pss_cons (ps_if (PW.pt (pw_or (pt_cmpR op_ne (pe_ix ix_list (pv 1) pe_int (fun _ _ => rfl)) pe_str (nomark _)) (pw_or (pt_cmpR op_eq (pe_callB call_len rfl T.m_len (by decide +kernel) (pa_cons (pv 1) pa_nil)) pe_int (nomark _)) (pw_or1 (pt_not (pt_val (pe_callB (cr_all rfl) rfl T.m_all (by decide +kernel) (pa_cons (pe_lc (own := [("word", 2)]) (g := gName 2) rfl nd (pi_list (pe_slice sl_list (pv 1) (po_some pe_int) po_none)) (blkOk_by (N := N_Reader_takes_kinds) (sc := defScope s_Reader_takes_kinds) (by decide +kernel)) (fun _ _ _ _ _ => (pg_name (i := 2) nd rfl (.inl rfl))) (fun _ _ _ _ _ => pts_nil) (fun _ _ _ _ _ => (castE (pe_call (ok_is_name T) (hr.mono (by decide)) rfl T.g_is_name T.F_is_name.kp T.b_is_name .nil pass0 (pa_cons (pv 2) pa_nil)) (by walk_at "r")))) pa_nil)))))))) (pss_one (ps_ret pe_bl)) pss_nil)
      (pss_cons (ps_fld (pv 0) (pe_callTy call_tuple_of rfl T.m_tuple (by decide +kernel) (pa_cons (pe_slice sl_list (pv 1) (po_some pe_int) po_none) pa_nil)) rfl)
      (pss_one (ps_ret pe_bl))))), fun F0 H0 O a s ds hp => ?_⟩)
  walk_at "s"
  obtain ⟨⟨n, hn, hs⟩, hp⟩ := hp
  obtain ⟨x, rfl, ws, rfl, hne, hwl, hw⟩ := pre1_inv hp
  obtain ⟨w0, wr, rfl⟩ : ∃ w0 wr, ws = w0 :: wr := by
    cases ws with
    | nil => exact absurd rfl hne
    | cons a b => exact ⟨a, b, rfl⟩
  have hcut : cutD ((w0 :: wr).map strD) (some 1) none = wr.map strD := by rw [cut1]; rfl
  have hlen : ((w0 :: wr).map strD).length = wr.length + 1 := by simp
  have l1 : wr.length + 1 ≤ 2001 := by simpa using hwl

  show wps _ _ [.o (rdO K T.a_Reader a s), .d (.lst ((w0 :: wr).map strD)), .no] _ _
  have inj : ∀ ws2 : List (List Nat), [D.lst ((w0 :: wr).map strD)] = [.lst (ws2.map strD)] → ws2 = w0 :: wr := fun ws2 e => by
    simp only [List.cons.injEq, D.lst.injEq, and_true] at e
    exact (kD_inj e).symm
  have key : takesK s (w0 :: wr) = if decide (w0 = wKinds) = true ∧ decide (((wr.length + 1 : Nat) : Int) = 1) = false ∧ wr.all nameC = true then some { s with ks := wr } else none := by
    unfold takesK
    congr 1
    rw [decide_eq_true_eq, decide_eq_false_iff_not]
    simp only [List.head?_cons, Option.some.injEq, List.length_cons, List.tail_cons, eq_iff_iff]
    constructor
    · rintro ⟨h1, h2, h3⟩; exact ⟨h1, by omega, h3⟩
    · rintro ⟨h1, h2, h3⟩; exact ⟨h1, by omega, h3⟩
  refine wps_seq (wps_ifD ((!decide (w0 = wKinds)) || (decide (((wr.length + 1 : Nat) : Int) = 1) || !wr.all nameC)) (wpt_orD ?_ fun _ => wpt_orD ?_ fun _ => ?_) (fun h => ?_) (fun h => ?_))
  · refine wpt_test (wp_op (wp_op (wp_var rfl (wp_int (r2_ixL (at0 _ _) (wp_str (r2_neS ⟨_, rfl, ?_⟩)))))))
    rw [show ("kinds" : Str) = S wKinds by decide +kernel, S_eq]
  · refine wpt_test (wp_op (wp_cb (wpa_cons (wp_var rfl (wpa_nil (rc_len rfl (wp_int (r2_eqI ⟨_, rfl, ?_⟩))))))))
    rw [hlen]
  · refine wpt_notD (wpt_B ?_)
    refine wp_allLc isNameD rfl (wpi_lst (wp_l (wpl_sl (wp_var rfl (wpo_some (wp_int ⟨1, rfl, wpo_none (rs_list ?_)⟩))))))
    rw [hcut]
    refine ⟨_, rfl, by rw [List.length_map]; omega, fun d a o hd => ?_, _, rfl, ?_⟩
    · obtain ⟨w, hw2, rfl⟩ := List.mem_map.mp hd
      exact wp_callP (wpa_cons (wp_var rfl (wpa_nil ⟨(hw w (by simp [hw2])).ok, fun r e => e⟩)))
    · rw [List.all_map]
      show wr.all _ = wr.all _
      congr 1
      funext w
      exact name_is
  · refine wps_ret (wp_bl ⟨s, rfl, fun ws2 e => ?_⟩)
    rw [inj ws2 e, key, if_neg fun z => by rw [z.1, z.2.1, z.2.2] at h; cases h]
    exact ⟨rfl, rfl⟩
  · have hh : decide (w0 = wKinds) = true ∧ decide (((wr.length + 1 : Nat) : Int) = 1) = false ∧ wr.all nameC = true := by
      simp only [Bool.or_eq_false_iff, Bool.not_eq_false'] at h
      exact h
    refine wps_next (wps_seq (wps_rdK (st := s.st) rfl T.c_Reader T.n_Reader_r_kinds (wp_cb (wpa_cons (wp_l (wpl_sl (wp_var rfl (wpo_some (wp_int ⟨1, rfl, wpo_none (rs_list ?_)⟩)))))))))
    rw [hcut]
    refine wpa_nil (rc_tupL (wps_ret (wp_bl ⟨{ s with ks := wr }, rfl, fun ws2 e => ?_⟩)))
    rw [inj ws2 e, key, if_pos hh]
    exact ⟨rfl, rfl⟩
abbrev sp_Reader_takes_pass {P : Program} {K : PySem.W.Frag} {mg : Str → Option Value} (T : Tx P K mg) : Sp := spO K (rdO K T.a_Reader) (fun s ds => (∃ n, n ≤ 100000 ∧ RsOk n s) ∧ pre1 (fun x => wordsP x) ds) (fun s ds d s' => ∀ ws : List (List Nat), ds = [.lst (ws.map strD)] → outc (takesP s ws) s d s')
theorem ok_Reader_takes_pass (T : Tx P K mg) : FnOk P wd K mg base CX0 3 T.f_Reader_takes_pass T.d_Reader_takes_pass ["self", "words"] (sp_Reader_takes_pass T) := by
  refine fn_O rdO_at T.F_Reader_takes_pass sc_Reader_takes_pass (fun s ds h => by have h := h.2; obtain ⟨_, rfl, _⟩ := pre1_inv h; rfl) (fun cdv A outer s H E hr => ⟨_, (have nd := sc_Reader_takes_pass.nd; (pss_cons (ps_set (i := 2) nd rfl (.inl rfl) (pe_call (ok_numbers_in T) (hr.mono (by decide)) rfl T.g_numbers_in T.F_numbers_in.kp T.b_numbers_in .nil pass0 (pa_cons (pe_slice sl_list (pv 1) (po_some pe_int) po_none) pa_nil)))
      (pss_cons (ps_if (PW.pt (pw_or (pt_cmpR op_ne (pe_ix ix_list (pv 1) pe_int (fun _ _ => rfl)) pe_str (nomark _)) (pw_or (pt_cmpR op_eq (pe_callB call_len rfl T.m_len (by decide +kernel) (pa_cons (pv 1) pa_nil)) pe_int (nomark _)) (pw_or (pt_cmpR op_isN (pv 2) pe_non (nomark _)) (pw_or1 (pt_cmpR (op_neD hr.units) (pe_fld (pv 0) rfl) (pe_lst pa_nil) (nomark _))))))) (pss_one (ps_ret pe_bl)) pss_nil)
      (pss_cons (ps_expr (pe_bm PySem.F.plainAttrs_list PySem.F.slot_list_append PySem.F.type_list_append mt_append (pe_fld (pv 0) rfl) (pa_cons (pe_tup (pa_cons (pv 2) (pa_cons (pe_lst pa_nil) pa_nil))) pa_nil)))
      (pss_one (ps_ret pe_bl)))))), fun F0 H0 O a s ds hp => ?_⟩)
  walk_at "s"
  obtain ⟨⟨n, hn, hs⟩, hp⟩ := hp
  obtain ⟨x, rfl, ws, rfl, hne, hwl, hw⟩ := pre1_inv hp
  obtain ⟨w0, wr, rfl⟩ : ∃ w0 wr, ws = w0 :: wr := by
    cases ws with
    | nil => exact absurd rfl hne
    | cons a b => exact ⟨a, b, rfl⟩
  have hcut : cutD ((w0 :: wr).map strD) (some 1) none = wr.map strD := by rw [cut1]; rfl
  have hlen : ((w0 :: wr).map strD).length = wr.length + 1 := by simp
  have l1 : wr.length + 1 ≤ 2001 := by simpa using hwl

  show wps _ _ [.o (rdO K T.a_Reader a s), .d (.lst ((w0 :: wr).map strD)), .no] _ _
  have inj : ∀ ws2 : List (List Nat), [D.lst ((w0 :: wr).map strD)] = [.lst (ws2.map strD)] → ws2 = w0 :: wr := fun ws2 e => by
    simp only [List.cons.injEq, D.lst.injEq, and_true] at e
    exact (kD_inj e).symm
  refine wps_seq (wps_asgV (numsD (numsC wr)) (wp_callP (wpa_cons (wp_l (wpl_sl (wp_var rfl (wpo_some (wp_int ⟨1, rfl, wpo_none (rs_list ?_)⟩))))))) ?_)
  · rw [hcut]
    exact wpa_nil ⟨⟨wr, rfl, by omega, fun w h => by have := (hw w (by simp [h])).1; omega⟩, fun r e => e wr rfl⟩
  show wps _ _ [.o (rdO K T.a_Reader a s), .d (.lst ((w0 :: wr).map strD)), .d (numsD (numsC wr))] _ _
  have hN : isN (numsD (numsC wr)) = (numsC wr).isNone := by cases numsC wr <;> rfl
  have key : takesP s (w0 :: wr) = match numsC wr with | none => none | some bs => if decide (w0 = wPass) = true ∧ decide (((wr.length + 1 : Nat) : Int) = 1) = false ∧ s.ts.isEmpty = true then some { s with ps := s.ps ++ [(bs, [])] } else none := by
    unfold takesP
    rw [List.tail_cons]
    cases numsC wr with
    | none => rfl
    | some bs =>
      dsimp only
      congr 1
      rw [decide_eq_true_eq, decide_eq_false_iff_not, List.isEmpty_iff]
      simp only [List.head?_cons, Option.some.injEq, List.length_cons, eq_iff_iff]
      constructor
      · rintro ⟨h1, h2, h3⟩; exact ⟨h1, by omega, h3⟩
      · rintro ⟨h1, h2, h3⟩; exact ⟨h1, by omega, h3⟩
  refine wps_seq (wps_ifD ((!decide (w0 = wPass)) || (decide (((wr.length + 1 : Nat) : Int) = 1) || ((numsC wr).isNone || !s.ts.isEmpty))) (wpt_orD ?_ fun _ => wpt_orD ?_ fun _ => wpt_orD ?_ fun _ => ?_) (fun h => ?_) (fun h => ?_))
  · refine wpt_test (wp_op (wp_op (wp_var rfl (wp_int (r2_ixL (at0 _ _) (wp_str (r2_neS ⟨_, rfl, ?_⟩)))))))
    rw [show ("pass" : Str) = S wPass by decide +kernel, S_eq]
  · refine wpt_test (wp_op (wp_cb (wpa_cons (wp_var rfl (wpa_nil (rc_len rfl (wp_int (r2_eqI ⟨_, rfl, ?_⟩))))))))
    rw [hlen]
  · exact wpt_test (wp_op (wp_var rfl (wp_non (r2_isN ⟨_, rfl, hN⟩))))
  · refine wpt_pkL (.cons pk_rdO (.cons pk_d (.cons pk_d .nil))) fun F1 H1 => ?_
    refine wpt_test (wp_op (wp_fld T.c_Reader T.n_Reader_r_tells (wp_var rfl ⟨_, _, _, rfl, rfl, wp_l (wpl_lst (wpa_nil ⟨by simp, r2_neD (hs.okT hn).cmp ok_nilL.cmp ⟨_, rfl, ?_⟩⟩))⟩)))
    rw [eqv_nilL]
    show (!(s.ts.map telD).isEmpty) = !s.ts.isEmpty
    cases s.ts <;> rfl
  · refine wps_ret (wp_bl ⟨s, rfl, fun ws2 e => ?_⟩)
    rw [inj ws2 e, key]
    cases hb : numsC wr with
    | none => exact ⟨rfl, rfl⟩
    | some bs =>
      dsimp only
      rw [if_neg fun z => by rw [z.1, z.2.1, z.2.2, hb] at h; cases h]
      exact ⟨rfl, rfl⟩
  · simp only [Bool.or_eq_false_iff, Bool.not_eq_false'] at h
    cases hb : numsC wr with
    | none => rw [hb] at h; exact absurd h.2.2.1 (by simp)
    | some bs =>
      refine wps_next (wps_seq (wps_rdPass (j := 2) (b := intsD bs) (st := s.st) rfl rfl T.c_Reader T.n_Reader_r_passes ?_ (wps_ret (wp_bl ⟨{ s with ps := s.ps ++ [(bs, [])] }, ?_, fun ws2 e => ?_⟩))))
      · show (s.ps.map _).length < 1000000
        rw [List.length_map]
        have := hs.p.1
        omega
      · show some (Ent.o (readerP K T.a_Reader a _)) = some (Ent.o (readerP K T.a_Reader a _))
        unfold RS.st
        rw [List.map_append]
        rfl
      · rw [inj ws2 e, key, hb]
        dsimp only
        rw [if_pos ⟨h.1, h.2.1, h.2.2.2⟩]
        exact ⟨rfl, rfl⟩
abbrev sp_Reader_takes_row {P : Program} {K : PySem.W.Frag} {mg : Str → Option Value} (T : Tx P K mg) : Sp := spO K (rdO K T.a_Reader) (fun s ds => (∃ n, n ≤ 100000 ∧ RsOk n s) ∧ pre1 (fun x => ∃ l, x = strD l ∧ LnOk l) ds) (fun s ds d s' => ∀ l : List Nat, ds = [strD l] → outc (takesR s l) s d s')
theorem ok_Reader_takes_row (T : Tx P K mg) : FnOk P wd K mg base CX0 4 T.f_Reader_takes_row T.d_Reader_takes_row ["self", "line"] (sp_Reader_takes_row T) := by
  refine fn_O rdO_at T.F_Reader_takes_row sc_Reader_takes_row (fun s ds h => by have h := h.2; obtain ⟨_, rfl, _⟩ := pre1_inv h; rfl) (fun cdv A outer s H E hr => ⟨_, (have nd := sc_Reader_takes_row.nd; (pss_cons (ps_set (i := 2) nd rfl (.inl rfl) (pe_call (ok_read_row T) (hr.mono (by decide)) rfl T.g_read_row T.F_read_row.kp T.b_read_row .nil pass0 (pa_cons (pe_callB call_len rfl T.m_len (by decide +kernel) (pa_cons (pe_fld (pv 0) rfl) pa_nil)) (pa_cons (pv 1) pa_nil))))
      (pss_cons (ps_if (PW.pt (pw_or (pt_cmpR op_isN (pv 2) pe_non (nomark _)) (pw_or (pt_cmpR (op_eqD hr.units) (pe_fld (pv 0) rfl) (pe_lst pa_nil) (nomark _)) (pw_or1 (pt_cmpR (op_neD hr.units) (pe_fld (pv 0) rfl) (pe_lst pa_nil) (nomark _)))))) (pss_one (ps_ret pe_bl)) pss_nil)
      (pss_cons (ps_expr (pe_bm PySem.F.plainAttrs_list PySem.F.slot_list_append PySem.F.type_list_append mt_append (pe_ix ix_tup (pe_ix ix_list (pe_fld (pv 0) rfl) (pe_un un_neg pe_int) (fun _ _ => rfl)) pe_int (fun _ _ => rfl)) (pa_cons (pv 2) pa_nil)))
      (pss_one (ps_ret pe_bl)))))), fun F0 H0 O a s ds hp => ?_⟩)
  walk_at "s"
  obtain ⟨⟨n, hn, hs⟩, hp⟩ := hp
  obtain ⟨x, rfl, l, rfl, hl⟩ := pre1_inv hp
  show wps _ _ [.o (rdO K T.a_Reader a s), .d (strD l), .no] _ _
  have inj : ∀ l2 : List Nat, [strD l] = [strD l2] → l2 = l := fun l2 e => by
    simp only [List.cons.injEq, and_true] at e
    exact (strD_inj e).symm
  refine wps_seq (wps_asgV (rowOD (rowOf s.ks.length l)) (wp_callP (wpa_cons ?_)) ?_)
  · refine wp_is (.int s.ks.length) (wp_pkL (.cons pk_rdO (.cons pk_d (.cons pk_no .nil))) fun F1 H1 => ?_) ?_
    · refine wp_cb (wpa_cons (wp_fld T.c_Reader T.n_Reader_r_kinds (wp_var rfl ⟨_, _, _, rfl, rfl, wpa_nil (rc_len rfl ⟨rfl, ?_⟩)⟩)))
      rw [List.length_map]
    · exact wpa_cons (wp_var rfl (wpa_nil ⟨⟨⟨_, rfl, by have := hs.k.1; omega⟩, l, rfl, by have := hl.1; omega⟩, fun r e => e _ _ rfl rfl⟩))
  show wps _ _ [.o (rdO K T.a_Reader a s), .d (strD l), .d (rowOD (rowOf s.ks.length l))] _ _
  have hN : isN (rowOD (rowOf s.ks.length l)) = (rowOf s.ks.length l).isNone := by cases rowOf s.ks.length l <;> rfl
  have key : takesR s l = match rowOf s.ks.length l with | none => none | some r => if s.ps.isEmpty = false ∧ s.ts.isEmpty = true then some { s with ps := addRow s.ps r } else none := by
    unfold takesR
    cases rowOf s.ks.length l with
    | none => rfl
    | some r =>
      dsimp only
      congr 1
      rw [List.isEmpty_iff, List.isEmpty_eq_false_iff]
  refine wps_seq (wps_ifD ((rowOf s.ks.length l).isNone || (s.ps.isEmpty || !s.ts.isEmpty)) (wpt_orD ?_ fun _ => wpt_orD ?_ fun _ => ?_) (fun h => ?_) (fun h => ?_))
  · exact wpt_test (wp_op (wp_var rfl (wp_non (r2_isN ⟨_, rfl, hN⟩))))
  · refine wpt_pkL (.cons pk_rdO (.cons pk_d (.cons pk_d .nil))) fun F1 H1 => ?_
    refine wpt_test (wp_op (wp_fld T.c_Reader T.n_Reader_r_passes (wp_var rfl ⟨_, _, _, rfl, rfl, wp_l (wpl_lst (wpa_nil ⟨by simp, r2_eqD (hs.okP hn).cmp ok_nilL.cmp ⟨_, rfl, ?_⟩⟩))⟩)))
    rw [eqv_nilL]
    show ((s.ps.map _).map _).isEmpty = s.ps.isEmpty
    cases s.ps <;> rfl
  · refine wpt_pkL (.cons pk_rdO (.cons pk_d (.cons pk_d .nil))) fun F1 H1 => ?_
    refine wpt_test (wp_op (wp_fld T.c_Reader T.n_Reader_r_tells (wp_var rfl ⟨_, _, _, rfl, rfl, wp_l (wpl_lst (wpa_nil ⟨by simp, r2_neD (hs.okT hn).cmp ok_nilL.cmp ⟨_, rfl, ?_⟩⟩))⟩)))
    rw [eqv_nilL]
    show (!(s.ts.map telD).isEmpty) = !s.ts.isEmpty
    cases s.ts <;> rfl
  · refine wps_ret (wp_bl ⟨s, rfl, fun l2 e => ?_⟩)
    rw [inj l2 e, key]
    cases hb : rowOf s.ks.length l with
    | none => exact ⟨rfl, rfl⟩
    | some bs =>
      dsimp only
      rw [if_neg fun z => by rw [z.1, z.2, hb] at h; cases h]
      exact ⟨rfl, rfl⟩
  · simp only [Bool.or_eq_false_iff, Bool.not_eq_false'] at h
    cases hb : rowOf s.ks.length l with
    | none => rw [hb] at h; exact absurd h.1 (by simp)
    | some r =>
      have hne : s.ps ≠ [] := List.isEmpty_eq_false_iff.mp h.2.1
      obtain ⟨ps, q, hps⟩ : ∃ ps q, s.ps = ps ++ [q] := ⟨_, _, (List.dropLast_concat_getLast hne).symm⟩
      have hq := hs.p.2 q (by rw [hps]; simp)
      refine wps_next (wps_seq (wps_rdRow (j := 2) (d := rowD r) (p := (intsD q.1, q.2.map rowD)) (ps := ps.map fun p => (intsD p.1, p.2.map rowD)) (st := s.st) rfl rfl T.c_Reader T.n_Reader_r_passes ?_ ?_ (wps_ret (wp_bl ⟨{ s with ps := ps ++ [(q.1, q.2 ++ [r])] }, ?_, fun l2 e => ?_⟩))))
      · show s.ps.map _ = _
        rw [hps, List.map_append]
        rfl
      · show (q.2.map rowD).length < 1000000
        rw [List.length_map]
        omega
      · show some (Ent.o (readerP K T.a_Reader a _)) = some (Ent.o (readerP K T.a_Reader a _))
        unfold RS.st
        simp only [List.map_append, List.map_cons, List.map_nil]
      · rw [inj l2 e, key, hb]
        dsimp only
        rw [if_pos ⟨h.2.1, h.2.2⟩, hps, add_last]
        exact ⟨rfl, rfl⟩
abbrev sp_Reader_takes_tell {P : Program} {K : PySem.W.Frag} {mg : Str → Option Value} (T : Tx P K mg) : Sp := spO K (rdO K T.a_Reader) (fun s ds => (∃ n, n ≤ 100000 ∧ RsOk n s) ∧ pre1 (fun x => wordsP x) ds) (fun s ds d s' => ∀ ws : List (List Nat), ds = [.lst (ws.map strD)] → outc (takesT s ws) s d s')
theorem ok_Reader_takes_tell (T : Tx P K mg) : FnOk P wd K mg base CX0 2 T.f_Reader_takes_tell T.d_Reader_takes_tell ["self", "words"] (sp_Reader_takes_tell T) := by
  refine fn_O rdO_at T.F_Reader_takes_tell sc_Reader_takes_tell (fun s ds h => by have h := h.2; obtain ⟨_, rfl, _⟩ := pre1_inv h; rfl) (fun cdv A outer s H E hr => ⟨_, (have nd := sc_Reader_takes_tell.nd; (pss_cons (ps_if (PW.pt (pw_or (pt_cmpR op_ne (pe_ix ix_list (pv 1) pe_int (fun _ _ => rfl)) pe_str (nomark _)) (pw_or (pt_cmpR op_ne (pe_callB call_len rfl T.m_len (by decide +kernel) (pa_cons (pv 1) pa_nil)) pe_int (nomark _)) (pw_or (pt_not (pt_val (pe_call (ok_is_name T) (hr.mono (by decide)) rfl T.g_is_name T.F_is_name.kp T.b_is_name .nil pass0 (pa_cons (pe_ix ix_list (pv 1) pe_int (fun _ _ => rfl)) pa_nil)))) (pw_or1 (pt_not (pt_val (pe_call (ok_is_numeral T) (hr.mono (by decide)) rfl T.g_is_numeral T.F_is_numeral.kp T.b_is_numeral .nil pass0 (pa_cons (pe_ix ix_list (pv 1) pe_int (fun _ _ => rfl)) pa_nil))))))))) (pss_one (ps_ret pe_bl)) pss_nil)
      (pss_cons (ps_if (pt_cmpR (op_eqD hr.units) (pe_fld (pv 0) rfl) (pe_lst pa_nil) (nomark _)) (pss_one (ps_ret pe_bl)) pss_nil)
      (pss_cons (ps_expr (pe_bm PySem.F.plainAttrs_list PySem.F.slot_list_append PySem.F.type_list_append mt_append (pe_fld (pv 0) rfl) (pa_cons (pe_tup (pa_cons (pe_ix ix_list (pv 1) pe_int (fun _ _ => rfl)) (pa_cons (pe_callTy call_int_str rfl T.m_int (by decide +kernel) (pa_cons (pe_ix ix_list (pv 1) pe_int (fun _ _ => rfl)) pa_nil)) pa_nil))) pa_nil)))
      (pss_one (ps_ret pe_bl)))))), fun F0 H0 O a s ds hp => ?_⟩)
  walk_at "s"
  obtain ⟨⟨n, hn, hs⟩, hp⟩ := hp
  obtain ⟨x, rfl, ws, rfl, hne, hwl, hw⟩ := pre1_inv hp
  show wps _ _ [.o (rdO K T.a_Reader a s), .d (.lst (ws.map strD))] _ _
  obtain ⟨w0, wr, rfl⟩ : ∃ w0 wr, ws = w0 :: wr := by
    cases ws with
    | nil => exact absurd rfl hne
    | cons a b => exact ⟨a, b, rfl⟩
  have inj : ∀ ws2 : List (List Nat), [D.lst ((w0 :: wr).map strD)] = [.lst (ws2.map strD)] → ws2 = w0 :: wr := fun ws2 e => by
    simp only [List.cons.injEq, D.lst.injEq, and_true] at e
    exact (kD_inj e).symm
  have no : ∀ {G : List Ent}, takesT s (w0 :: wr) = none → G[0]? = some (.o (rdO K T.a_Reader a s)) → ∃ s', G[0]? = some (Ent.o (rdO K T.a_Reader a s')) ∧ ∀ ws : List (List Nat), [D.lst ((w0 :: wr).map strD)] = [.lst (ws.map strD)] → outc (takesT s ws) s (.bl false) s' := fun h0 hG => ⟨s, hG, fun ws2 e => by rw [inj ws2 e, h0]; exact ⟨rfl, rfl⟩⟩
  have hlen : ((w0 :: wr).map strD).length = wr.length + 1 := by simp
  refine wps_seq (wps_if (wpt_or (wpt_test (wp_op (wp_op (wp_var rfl (wp_int (r2_ixL (at0 _ _) (wp_str (r2_neS ⟨_, rfl, ?_⟩))))))))))
  rw [show ("tell" : Str) = S wTell by decide +kernel, S_eq]
  refine ite_b (fun h0 => ?_) (fun h0 => ?_)
  · refine ite_t rfl (wps_ret (wp_bl (no ?_ rfl)))
    unfold takesT
    split
    · rename_i a b c e
      cases e
      rw [if_neg fun z => of_decide_eq_false (nb_t h0) z.1]
    · rfl
  refine wpt_or (wpt_test (wp_op (wp_cb (wpa_cons (wp_var rfl (wpa_nil (rc_len rfl (wp_int (r2_neI ⟨_, rfl, ?_⟩)))))))))
  rw [hlen]
  refine ite_b (fun h1 => ?_) (fun h1 => ?_)
  · refine ite_t rfl (wps_ret (wp_bl (no ?_ rfl)))
    unfold takesT
    split
    · rename_i a b c e
      cases e
      exact absurd rfl (of_decide_eq_false (nb_t h1))
    · rfl
  have hl2 : wr.length = 2 := by have := of_decide_eq_true (nb_f h1); omega
  obtain ⟨w1, w2, rfl⟩ : ∃ w1 w2, wr = [w1, w2] := by
    match wr, hl2 with
    | [a, b], _ => exact ⟨a, b, rfl⟩
  have key : takesT s [w0, w1, w2] = if w0 = wTell ∧ nameC w1 = true ∧ numC w2 = true ∧ s.ps ≠ [] then some { s with ts := s.ts ++ [(w1, valC w2)] } else none := rfl
  have hw1 := hw w1 (by simp)
  have hw2 := hw w2 (by simp)
  refine wpt_or (wpt_not (wpt_B (wp_callP (wpa_cons (wp_op (wp_var rfl (wp_int (r2_ixL rfl (wpa_nil ⟨hw1.ok, fun r e => ⟨_, e, ?_⟩⟩)))))))))
  rw [name_is]
  refine ite_b (fun h2 => ?_) (fun h2 => ?_)
  · exact ite_t rfl (wps_ret (wp_bl (no (by rw [key, if_neg fun z => by rw [z.2.1] at h2; cases h2]) rfl)))
  refine wpt_not (wpt_B (wp_callP (wpa_cons (wp_op (wp_var rfl (wp_int (r2_ixL rfl (wpa_nil ⟨⟨w2, rfl, by have := hw2.1; omega⟩, fun r e => ⟨_, e _ rfl, ?_⟩⟩))))))))
  refine ite_b (fun h3 => ?_) (fun h3 => ?_)
  · exact wps_ret (wp_bl (no (by rw [key, if_neg fun z => by rw [z.2.2.1] at h3; cases h3]) rfl))
  refine wps_next (wps_seq (wps_ifD s.ps.isEmpty ?_ (fun h4 => ?_) (fun h4 => ?_)))
  · refine wpt_pkL (.cons pk_rdO (.cons pk_d .nil)) fun F1 H1 => ?_
    refine wpt_test (wp_op (wp_fld T.c_Reader T.n_Reader_r_passes (wp_var rfl ⟨_, _, _, rfl, rfl, wp_l (wpl_lst (wpa_nil ⟨by simp, r2_eqD (hs.okP hn).cmp ok_nilL.cmp ⟨_, rfl, ?_⟩⟩))⟩)))
    rw [eqv_nilL]
    show ((s.ps.map _).map _).isEmpty = s.ps.isEmpty
    cases s.ps <;> rfl
  · exact wps_ret (wp_bl (no (by rw [key, if_neg fun z => z.2.2.2 (List.isEmpty_iff.mp h4)]) rfl))
  obtain ⟨i1, i2⟩ := numC_val (nb_f h3)
  refine wps_next (wps_seq (wps_rdTell (st := s.st) (.cons pk_rdO (.cons pk_d .nil)) rfl T.c_Reader T.n_Reader_r_tells ?_ fun F1 H1 => ?_))
  · show (s.ts.map telD).length < 1000000
    rw [List.length_map]
    have := hs.t.1
    omega
  refine wpa_cons (wp_op (wp_var rfl (wp_int (r2_ixL rfl (wpa_cons (wp_cb (wpa_cons (wp_op (wp_var rfl (wp_int (r2_ixL rfl (wpa_nil (rc_intS i1 (by rw [S_len]; omega) ?_)))))))))))))
  refine wpa_nil ⟨rfl, by simp, wps_ret (wp_bl ⟨{ s with ts := s.ts ++ [(w1, valC w2)] }, ?_, fun ws2 e => ?_⟩)⟩
  · show some (Ent.o (readerP K T.a_Reader a _)) = some (Ent.o (readerP K T.a_Reader a _))
    unfold RS.st
    simp only [List.map_append, List.map_cons, List.map_nil]
    rfl
  · rw [inj ws2 e, key, if_pos ⟨of_decide_eq_true (nb_f h0), nb_f h2, nb_f h3, List.isEmpty_eq_false_iff.mp h4⟩]
    exact ⟨rfl, rfl⟩
abbrev sp_Reader_takes {P : Program} {K : PySem.W.Frag} {mg : Str → Option Value} (T : Tx P K mg) : Sp := spO K (rdO K T.a_Reader) (fun s ds => (∃ n, n ≤ 100000 ∧ RsOk n s) ∧ pre1 (fun x => ∃ l, x = strD l ∧ LnOk l) ds) (fun s ds d s' => ∀ l : List Nat, ds = [strD l] → outc (takesC s l) s d s')
theorem ok_Reader_takes (T : Tx P K mg) : FnOk P wd K mg base CX0 5 T.f_Reader_takes T.d_Reader_takes ["self", "line"] (sp_Reader_takes T) := by
  refine fn_O rdO_at T.F_Reader_takes sc_Reader_takes (fun s ds h => by have h := h.2; obtain ⟨_, rfl, _⟩ := pre1_inv h; rfl) (fun cdv A outer s H E hr => ⟨_, (have nd := sc_Reader_takes.nd; (pss_cons (ps_set (i := 2) nd rfl (.inl rfl) (pe_split (pv 1) pe_str))
      (pss_cons (ps_if (pt_cmpR (op_eqD hr.units) (pe_fld (pv 0) rfl) (pe_tup pa_nil) (nomark _)) (pss_one (ps_ret (pe_meth (pv 0) T.c_Reader T.M_Reader_takes_kinds (ok_Reader_takes_kinds T) (hr.mono (by decide)) T.b_Reader_takes_kinds .nil pass0 (pa_cons (pv 2) pa_nil)))) pss_nil)
      (pss_one (ps_ret (pe_or (pe_meth (pv 0) T.c_Reader T.M_Reader_takes_pass (ok_Reader_takes_pass T) (hr.mono (by decide)) T.b_Reader_takes_pass .nil pass0 (pa_cons (pv 2) pa_nil)) (pe_or (pe_meth (pv 0) T.c_Reader T.M_Reader_takes_row (ok_Reader_takes_row T) (hr.mono (by decide)) T.b_Reader_takes_row .nil pass0 (pa_cons (pv 1) pa_nil)) (pe_one (pe_meth (pv 0) T.c_Reader T.M_Reader_takes_tell (ok_Reader_takes_tell T) (hr.mono (by decide)) T.b_Reader_takes_tell .nil pass0 (pa_cons (pv 2) pa_nil)))))))))), fun F0 H0 O a s ds hp => ?_⟩)
  walk_at "s"
  obtain ⟨⟨n, hn, hs⟩, hp⟩ := hp
  obtain ⟨x, rfl, l, rfl, hl⟩ := pre1_inv hp
  show wps _ _ [.o (rdO K T.a_Reader a s), .d (strD l), .no] _ _
  have inj : ∀ l2 : List Nat, [strD l] = [strD l2] → l2 = l := fun l2 e => by
    simp only [List.cons.injEq, and_true] at e
    exact (strD_inj e).symm
  obtain ⟨w1, w2, w3⟩ := words_ok hl
  have hwp : wordsP (.lst ((splitC l 32).map strD)) := ⟨_, rfl, w2, w1, w3⟩
  refine wps_seq (wps_asgV (.lst ((splitC l 32).map strD)) (wp_l (wpl_m1 (wp_var rfl ⟨⟨_, rfl⟩, wp_str ?_⟩))) ?_)
  · rw [show (" " : Str) = S [32] by decide +kernel]
    refine rm_split (by decide +kernel) (by rw [S_len]; have := hl.1; omega) ?_
    rw [split_C _ _ (by decide), ← strs_map]
  show wps _ _ [.o (rdO K T.a_Reader a s), .d (strD l), .d (.lst ((splitC l 32).map strD))] _ _
  refine wps_seq (wps_ifD s.ks.isEmpty ?_ (fun h => ?_) (fun h => ?_))
  · refine wpt_pkL (.cons pk_rdO (.cons pk_d (.cons pk_d .nil))) fun F1 H1 => ?_
    refine wpt_test (wp_op (wp_fld T.c_Reader T.n_Reader_r_kinds (wp_var rfl ⟨_, _, _, rfl, rfl, wp_tup (wpa_nil ⟨by simp, r2_eqD hs.okK.cmp ok_nil.cmp ⟨_, rfl, ?_⟩⟩)⟩)))
    show eqvD (.tup (s.ks.map strD)) (.tup []) = _
    rw [eqv_nil]
    cases s.ks <;> rfl
  · refine wps_retX (wpx_methO (rdO_ins (by decide +kernel) (by decide +kernel) (by decide +kernel)) rfl (wpa_cons (wp_var rfl (wpa_nil ⟨⟨⟨n, hn, hs⟩, hwp⟩, fun d s' e => ⟨s', rfl, fun l2 e2 => ?_⟩⟩))))
    rw [inj l2 e2]
    unfold takesC
    rw [if_pos (List.isEmpty_iff.mp h)]
    exact e _ rfl
  · have hk : s.ks ≠ [] := List.isEmpty_eq_false_iff.mp h
    have key : takesC s l = match takesP s (splitC l 32) with | some s' => some s' | none => match takesR s l with | some s' => some s' | none => takesT s (splitC l 32) := by
      unfold takesC
      exact (if_neg hk).trans rfl
    refine wps_next (wps_retX (wpx_orV (wpx_methO (rdO_ins (by decide +kernel) (by decide +kernel) (by decide +kernel)) rfl (wpa_cons (wp_var rfl (wpa_nil ⟨⟨⟨n, hn, hs⟩, hwp⟩, fun d s' e => ?_⟩))))))
    have e := e _ rfl
    cases e1 : takesP s (splitC l 32) with
    | some s2 =>
      rw [e1] at e
      obtain ⟨rfl, rfl⟩ := e
      refine ⟨true, rfl, iteT ⟨_, rfl, fun l2 e2 => ?_⟩⟩
      rw [inj l2 e2, key, e1]
      exact ⟨rfl, rfl⟩
    | none =>
      rw [e1] at e
      obtain ⟨rfl, es⟩ := e
      rw [es]
      refine ⟨false, rfl, iteF (wpx_orV (wpx_methO (rdO_ins (by decide +kernel) (by decide +kernel) (by decide +kernel)) rfl (wpa_cons (wp_var rfl (wpa_nil ⟨⟨⟨n, hn, hs⟩, l, rfl, hl⟩, fun d s' e => ?_⟩)))))⟩
      have e := e _ rfl
      cases e2 : takesR s l with
      | some s2 =>
        rw [e2] at e
        obtain ⟨rfl, rfl⟩ := e
        refine ⟨true, rfl, iteT ⟨_, rfl, fun l2 e3 => ?_⟩⟩
        rw [inj l2 e3, key, e1, e2]
        exact ⟨rfl, rfl⟩
      | none =>
        rw [e2] at e
        obtain ⟨rfl, es⟩ := e
        rw [es]
        refine ⟨false, rfl, iteF (wpx_methO (rdO_ins (by decide +kernel) (by decide +kernel) (by decide +kernel)) rfl (wpa_cons (wp_var rfl (wpa_nil ⟨⟨⟨n, hn, hs⟩, hwp⟩, fun d s2 e => ⟨s2, rfl, fun l2 e3 => ?_⟩⟩))))⟩
        have e := e _ rfl
        rw [inj l2 e3, key, e1, e2]
        exact e
abbrev sp_Reader_result {P : Program} {K : PySem.W.Frag} {mg : Str → Option Value} (T : Tx P K mg) : Sp := spX K (pre1 fun x => ∃ s : RS, x = rdD T.a_Reader s.st ∧ RsOk 100000 s) (post1 fun x r => ∀ s : RS, x = rdD T.a_Reader s.st → s.wrong = none ∧ r = pgD T.a_Program s.kD s.pD s.tD) (fun ds e => ∀ s : RS, ds = [rdD T.a_Reader s.st] → ∃ p, s.wrong = some p ∧ e = .e1 T.a_BadProgram "part" (.str p))
theorem ok_Reader_result (T : Tx P K mg) : FnOk P wd K mg base (L2N.CX P wd) 9 T.f_Reader_result T.d_Reader_result ["self"] (sp_Reader_result T) := by
  refine fn_X T.F_Reader_result sc_Reader_result (fun ds h => by obtain ⟨_, rfl, _⟩ := pre1_inv h; rfl) (fun cdv A outer s H E hr => ⟨_, (have nd := sc_Reader_result.nd; (pss_cons (ps_set (i := 1) nd rfl (.inl rfl) (pe_callTy call_tuple_of rfl T.m_tuple (by decide +kernel) (pa_cons (pe_lc (own := [("begins", 2), ("rows", 3)]) (g := gTup _ 2 (gCons (gName 2) (gCons (gName 3) gNil))) rfl nd (pi_list (pe_fld (pv 0) rfl)) (blkOk_by (N := N_Reader_result) (sc := defScope s_Reader_result) (by decide +kernel)) (fun _ _ _ _ _ => (pg_tup rfl (pgs_cons (pg_name (i := 2) nd rfl (.inl rfl)) (pgs_cons (pg_name (i := 3) nd rfl (.inl rfl)) pgs_nil)))) (fun _ _ _ _ _ => pts_nil) (fun _ _ _ _ _ => (castE (pe_tup (pa_cons (pv 2) (pa_cons (pe_callTy call_tuple_of rfl T.m_tuple (by decide +kernel) (pa_cons (pv 3) pa_nil)) pa_nil))) (by walk_at "r")))) pa_nil)))
      (pss_one (ps_ret (pe_make T.K_Program (ok_Program_init T) (hr.mono (by decide)) rfl T.g_Program T.b_Program_init .nil passX (pa_cons (pe_fld (pv 0) rfl) (pa_cons (pv 1) (pa_cons (pe_callTy call_tuple_of rfl T.m_tuple (by decide +kernel) (pa_cons (pe_fld (pv 0) rfl) pa_nil)) pa_nil)))))))), fun F0 H0 ds hp hX => ?_⟩)
  walk_at "s"
  obtain ⟨x, rfl, s, rfl, hs⟩ := pre1_inv hp
  show wps _ _ [.d (rdD T.a_Reader s.st), .no, .no, .no] _ _
  have hps : s.ps.length ≤ 1000000 := by have := hs.p.1; omega
  refine wps_seq (wps_asgV s.pD (wp_cb (wpa_cons (wp_l (wpl_lcNN rfl rfl (wpi_lst ?_))))) ?_)
  · refine wp_fld T.c_Reader T.n_Reader_r_passes (wp_var rfl ⟨_, _, _, rfl, rfl, _, rfl, ?_⟩)
    rw [st_psD]
    refine ⟨by rw [List.length_map]; exact hps, fun i acc => acc = (s.ps.take i).map pasD, rfl, fun i d acc a o hd hI => ?_, fun acc hI => ?_⟩
    · obtain ⟨p, hp, rfl⟩ := map_at hd
      refine ⟨_, _, rfl, wpt_yes (iteT (wp_tup (wpa_cons (wp_var rfl (wpa_cons (wp_cb (wpa_cons (wp_var rfl (wpa_nil (rc_tupL (wpa_nil ⟨by simp, ?_⟩)))))))))))⟩
      have hI' : acc = (s.ps.take i).map pasD := hI
      show acc ++ [_] = (s.ps.take (i + 1)).map pasD
      rw [hI', List.take_add_one, hp, List.map_append]
      rfl
    · have hI' : acc = (s.ps.take _).map pasD := hI
      rw [List.length_map, List.take_of_length_le (Nat.le_refl _)] at hI'
      rw [hI']
      exact wpa_nil (rc_tupL rfl)
  show wps _ _ [.d (rdD T.a_Reader s.st), .d s.pD, .no, .no] _ _
  obtain ⟨o1, o2, o3⟩ := hs.fdP (by omega)
  refine wps_ret (wp_makeX hX (wpa_cons (wp_fld T.c_Reader T.n_Reader_r_kinds (wp_var rfl ⟨_, _, _, rfl, rfl, ?_⟩))))
  refine wpa_cons (wp_var rfl (wpa_cons (wp_cb (wpa_cons (wp_fld T.c_Reader T.n_Reader_r_tells (wp_var rfl ⟨_, _, _, rfl, rfl, wpa_nil (rc_tupL ?_)⟩))))))
  refine wpa_nil ⟨⟨rfl, o1, o2, o3⟩, fun d s' e => ⟨e.1, fun s2 e2 => ?_⟩, fun x s' e s2 e2 => ?_⟩
  · obtain rfl := rd_inj e2
    obtain ⟨k, p, t, e3, e4, e5⟩ := e.2
    cases e3
    rw [e5]
    exact ⟨e4, rfl⟩
  · simp only [List.cons.injEq, and_true] at e2
    obtain rfl := rd_inj e2
    obtain ⟨k, p, t, pt, e3, e4, e5⟩ := e
    cases e3
    exact ⟨pt, e4, e5⟩
end Sd
set_option Elab.async false
set_option linter.all false
set_option maxRecDepth 100000
set_option maxHeartbeats 4000000
namespace Sd
open PySem PySem.Spec L2
open SX (S S_len S_cat S_inj)
open TL (numL joinL spl)
local macro_rules | `(tactic| walk_at "r") => `(tactic| (first | (dsimp only [cxOf, Cx.nox, Cx.wish, Cx.blk]; done) | (dsimp only [cxOf, Cx.nox, Cx.wish, Cx.blk]; rfl) | rfl))
local macro_rules | `(tactic| walk_at "k") => `(tactic| kernel_rfl)
local macro_rules | `(tactic| walk_at "s") => `(tactic| try dsimp only [cxOf, List.map_cons, List.map_nil])
local macro_rules | `(tactic| walk_at "d") => `(tactic| first
  | (with_reducible refine wps_seq ?_)
  | (with_reducible refine wps_ret ?_)
  | (with_reducible refine wps_if ?_)
  | (with_reducible refine wps_next ?_)
  | (with_reducible refine wps_drop ?_)
  | (with_reducible refine wpt_test ?_)
  | (with_reducible refine wpt_B ?_)
  | (with_reducible refine wpt_not ?_)
  | (with_reducible refine wpt_or ?_)
  | (with_reducible refine wpt_and ?_)
  | (with_reducible refine wp_andV ?_)
  | (with_reducible refine wp_orV ?_)
  | (with_reducible refine wp_notV ?_)
  | (refine wp_isiB (by decide) ?_)
  | (with_reducible refine wp_chain ?_)
  | (with_reducible refine wp_op ?_)
  | (with_reducible refine wp_tup ?_)
  | (with_reducible refine wpl_lst ?_)
  | (with_reducible refine wp_m1 ?_)
  | (with_reducible refine wp_m0 ?_)
  | (with_reducible refine wp_cb ?_)
  | (with_reducible refine wpa_cons ?_)
  | (with_reducible refine wpa_nil ?_)
  | (with_reducible refine wp_int ?_)
  | (with_reducible refine wp_str ?_)
  | (with_reducible refine wp_bl ?_)
  | (with_reducible refine wp_non ?_)
  | (refine wp_var rfl ?_)
  | (refine rc_len rfl ?_)
  | (refine r2_ii ?_)
  | (refine r2_ib ?_)
  | (refine ⟨_, rfl, ?_⟩))
variable {P : Program} {wd : World} {mg : Str → Option Value} {base : Heap} {K : PySem.W.Frag}
abbrev sp_read_program {P : Program} {K : PySem.W.Frag} {mg : Str → Option Value} (T : Tx P K mg) : Sp := spX K (pre1 fun x => noObj x = true ∧ ∀ l, x = strD l → TxOk l) (post1 fun x r => ∃ l s, x = strD l ∧ readR l = .val s ∧ r = pgD T.a_Program s.kD s.pD s.tD) (fun ds e => ∀ x, ds = [x] → ((∀ l, x ≠ strD l) ∧ e = .e1 T.a_BadText "row" (.int 0)) ∨ ∃ l, x = strD l ∧ ((∃ i : Nat, readR l = .text i ∧ e = .e1 T.a_BadText "row" (.int i)) ∨ ∃ p, readR l = .prog p ∧ e = .e1 T.a_BadProgram "part" (.str p)))
theorem ok_read_program (T : Tx P K mg) : FnOk P wd K mg base (L2N.CX P wd) 10 T.f_read_program T.d_read_program ["text"] (sp_read_program T) := by
  refine fn_X T.F_read_program sc_read_program (fun ds h => by obtain ⟨_, rfl, _⟩ := pre1_inv h; rfl) (fun cdv A outer s H E hr => ⟨_, (have nd := sc_read_program.nd; (pss_cons (ps_if (pt_not (pt_val (pe_callB call_isi rfl T.m_isinstance (by decide +kernel) (pa_cons (pv 0) (pa_cons (pe_bltn (v := .ty "str") (u := .type "str") rfl T.m_str (by decide +kernel) rfl) pa_nil))))) (pss_one (ps_err (W := fun cls d _ H => E cls d H) rfl takesX T.E_BadText (ok_BadText_init T) (hr.mono (by decide)) T.b_BadText_init rfl T.g_BadText pe_int)) pss_nil)
      (pss_cons (ps_par (i := 1) (j := 2) rfl nd rfl rfl (by decide) rfl rfl (pa_cons (pe_split (pv 0) pe_str) (pa_cons (pe_make0 T.K_Reader (ok_Reader_init T) (hr.mono (by decide)) rfl T.g_Reader T.b_Reader_init .nil pass0) pa_nil)) (by rfl))
      (pss_cons (ps_set (i := 3) nd rfl (.inl rfl) (pe_cmpR op_eq (pe_ix ix_list (pv 1) (pe_un un_neg pe_int) (fun _ _ => rfl)) pe_str (nomark _)))
      (pss_cons (ps_set (i := 1) nd rfl (.inl rfl) (pe_ifExp (pt_val (pv 3)) (pe_slice sl_list (pv 1) po_none (po_some (pe_un un_neg pe_int))) (pv 1)))
      (pss_cons (ps_for ownX rfl (pi_enum rfl T.m_enumerate (pa_cons (pv 1) pa_nil)) (pg_tup rfl (pgs_cons (pg_name (i := 4) nd rfl (.inl rfl)) (pgs_cons (pg_name (i := 5) nd rfl (.inl rfl)) pgs_nil))) (pss_one (ps_if (pt_not (pt_val (pe_meth (pv 2) T.c_Reader T.M_Reader_takes (ok_Reader_takes T) (hr.mono (by decide)) T.b_Reader_takes .nil pass0 (pa_cons (pv 5) pa_nil)))) (pss_one (ps_err (W := fun cls d _ H => E cls d H) rfl takesX T.E_BadText (ok_BadText_init T) (hr.mono (by decide)) T.b_BadText_init rfl T.g_BadText (pv 4))) pss_nil)))
      (pss_cons (ps_if (PW.pt (pw_or (pt_not (pt_val (pv 3))) (pw_or1 (pt_cmpR (op_eqD hr.units) (pe_fld (pv 2) rfl) (pe_lst pa_nil) (nomark _))))) (pss_one (ps_err (W := fun cls d _ H => E cls d H) rfl takesX T.E_BadText (ok_BadText_init T) (hr.mono (by decide)) T.b_BadText_init rfl T.g_BadText (pe_callB call_len rfl T.m_len (by decide +kernel) (pa_cons (pv 1) pa_nil)))) pss_nil)
      (pss_one (ps_ret (pe_meth0 (pv 2) T.c_Reader T.M_Reader_result (ok_Reader_result T) (hr.mono (by decide)) T.b_Reader_result .nil passX)))))))))), fun F0 H0 ds hp hX => ?_⟩)
  walk_at "s"
  obtain ⟨x, rfl, hno, htx⟩ := pre1_inv hp
  show wps _ _ [.d x, .no, .no, .no, .no, .no] _ _
  cases ht : isT "str" x with
  | false =>
    refine wps_seq (wps_ifD true ?_ (fun _ => ?_) (fun h => nomatch h))
    · exact wpt_notD (b := false) (wpt_B (wp_isiB (by decide) (wp_var rfl ⟨hno, _, rfl, ht⟩)))
    · refine wps_raise hX (wp_int fun x' e => ?_)
      cases e
      refine .inl ⟨fun l el => ?_, rfl⟩
      rw [el] at ht
      cases ht
  | true =>
  obtain ⟨s, rfl⟩ := isT_str ht
  obtain ⟨l, rfl⟩ : ∃ l, s = S l := ⟨_, str_S s⟩
  have hl : TxOk l := htx l rfl
  refine wps_seq (wps_ifD false ?_ (fun h => nomatch h) (fun _ => wps_next ?_))
  · exact wpt_notD (b := true) (wpt_B (wp_isiB (by decide) (wp_var rfl ⟨rfl, _, rfl, rfl⟩)))
  have hll := hl.len
  have hcn := hl.cn
  refine wps_seq (wps_parRd (by simp) (wp_is (.lst ((splitC l 10).map strD)) (wp_l (wpl_m1 (wp_var rfl ⟨⟨_, rfl⟩, wp_str ?_⟩))) fun x => ?_))
  · rw [show ("\n" : Str) = S [10] by decide +kernel]
    refine rm_split (by decide +kernel) (by rw [S_len]; omega) ?_
    rw [split_C _ _ (by decide), ← strs_map]
  show wps _ _ [.d (strD l), .d (.lst ((splitC l 10).map strD)), .o (rdO K T.a_Reader x ⟨[], [], []⟩), .no, .no, .no] _ _
  obtain ⟨ws, w, ew⟩ : ∃ ws w, splitC l 10 = ws ++ [w] := by
    have hne : splitC l 10 ≠ [] := spl_ne
    exact ⟨(splitC l 10).dropLast, (splitC l 10).getLast hne, (List.dropLast_concat_getLast hne).symm⟩
  have eE : endsC l = decide (w = []) := by
    unfold endsC
    rw [ew, List.getLast?_append]
    simp
  have eLn : linesC l = if w = [] then ws else ws ++ [w] := by
    unfold linesC
    rw [ew, List.getLast?_append]
    simp
  rw [ew]
  have eL : (ws ++ [w]).map strD = ws.map strD ++ [strD w] := by rw [List.map_append]; rfl
  rw [eL]
  refine wps_seq (wps_asgV (.bl (endsC l)) (wp_op (wp_op (wp_var rfl (wp_un (wp_int (ru_ii (r2_ixL (HT_last _ _) (wp_str (r2_eqS ?_))))))))) ?_)
  · rw [show ("" : Str) = S [] by decide +kernel, S_eq, eE]
  show wps _ _ [.d (strD l), .d (.lst (ws.map strD ++ [strD w])), .o (rdO K T.a_Reader x ⟨[], [], []⟩), .d (.bl (endsC l)), .no, .no] _ _
  refine wps_seq (wps_asgV (.lst ((linesC l).map strD)) (wp_ifD (endsC l) (wpt_B (wp_var rfl ⟨_, rfl, rfl⟩)) (fun h => wp_l (wpl_sl (wp_var rfl (wpo_none (wpo_some (wp_un (wp_int (ru_ii ⟨-1, rfl, rs_list ?_⟩)))))))) fun h => wp_var rfl ?_) ?_)
  · rw [cutm1, eLn, if_pos (of_decide_eq_true (eE.symm.trans h))]
  · rw [eLn, if_neg (of_decide_eq_false (eE.symm.trans h)), eL]
  show wps _ _ [.d (strD l), .d (.lst ((linesC l).map strD)), .o (rdO K T.a_Reader x ⟨[], [], []⟩), .d (.bl (endsC l)), .no, .no] _ _
  have hlc := linesC_len l
  have hln : ∀ v ∈ linesC l, LnOk v := fun v hv => hl.line v (linesC_sub hv)
  generalize eLs : linesC l = ls at hlc hln ⊢
  have hls : ls.length ≤ 5000 := by omega
  refine wps_seq (wps_for (ts := [4, 5]) (wpi_enum (wpa_cons (wp_var rfl (wpa_nil ⟨_, rfl, ?_⟩)))))
  refine ⟨fun i G => ∃ (s : RS) (z4 z5 : Ent), G = [.d (strD l), .d (.lst (ls.map strD)), .o (rdO K T.a_Reader x s), .d (.bl (endsC l)), z4, z5] ∧ readC ⟨[], [], []⟩ (ls.take i) = some s ∧ RsOk i s, ⟨⟨[], [], []⟩, .no, .no, rfl, rfl, rs0_ok⟩, fun i d G hd hI => ?_, fun G hI => ?_⟩
  · obtain ⟨s, z4, z5, rfl, hs, hok⟩ := hI
    obtain ⟨j, hj, rfl⟩ := map_at hd
    have hi := (List.getElem?_eq_some_iff.mp hj).1
    rw [List.length_range, List.length_map] at hi
    obtain rfl : j = i := by
      rw [List.getElem?_range (by rw [List.length_map]; exact hi)] at hj
      exact (Option.some.inj hj).symm
    have hlj : ls[j]? = some ls[j] := List.getElem?_eq_getElem hi
    have hD : (ls.map strD).getD j .non = strD ls[j] := by
      rw [List.getD_eq_getElem?_getD, List.getElem?_map, hlj]
      rfl
    obtain ⟨st1, st2⟩ := readX_step (s := ⟨[], [], []⟩) (j := 0) rfl hs hlj
    have hlo := hln _ (List.getElem_mem hi)
    rw [hD]
    refine wpg_tup rfl rfl (wpgs_cons (wpg_name (by simp) (wpgs_cons (wpg_name (by simp) (wpgs_nil ?_)))))
    show wps _ _ [.d (strD l), .d (.lst (ls.map strD)), .o (rdO K T.a_Reader x s), .d (.bl (endsC l)), .d (.int j), .d (strD ls[j])] _ _
    refine wps_ifNX (wpx_methO (rdO_ins (by decide +kernel) (by decide +kernel) (by decide +kernel)) rfl (wpa_cons (wp_var rfl (wpa_nil ⟨⟨⟨j, by omega, hok⟩, _, rfl, hlo⟩, fun d s' e => ?_⟩))))
    have e := e _ rfl
    cases et : takesC s ls[j] with
    | some s2 =>
      rw [et] at e
      obtain ⟨rfl, rfl⟩ := e
      exact ⟨true, rfl, iteT (wps_next ⟨s', _, _, rfl, st2 _ et, takesC_ok hok hlo et⟩)⟩
    | none =>
      rw [et] at e
      obtain ⟨rfl, rfl⟩ := e
      refine ⟨false, rfl, iteF (wps_raise hX (wp_var rfl fun x' ex => ?_))⟩
      cases ex
      refine .inr ⟨l, rfl, .inl ⟨j, ?_, rfl⟩⟩
      unfold readR
      rw [eLs, st1 et, Nat.zero_add]
  · obtain ⟨s, z4, z5, rfl, hs, hok⟩ := hI
    rw [List.length_map, List.length_range, List.length_map, List.take_of_length_le (Nat.le_refl _)] at hs
    rw [List.length_map, List.length_range, List.length_map] at hok
    have hX2 := readX_end (j := 0) hs
    have hok' : RsOk 100000 s := ⟨hok.k, ⟨by have := hok.p.1; omega, fun p hp => by
      obtain ⟨h1, h2, h3⟩ := hok.p.2 p hp
      exact ⟨h1, by omega, h3⟩⟩, ⟨by have := hok.t.1; omega, hok.t.2⟩⟩
    refine wps_knowO 2 rfl rfl pk_rdO ?_
    show wps _ _ [.d (strD l), .d (.lst (ls.map strD)), .d (rdD T.a_Reader s.st), .d (.bl (endsC l)), z4, z5] _ _
    have eR : readR l = if endsC l = false ∨ s.ts = [] then .text ls.length else match s.wrong with
      | some p => .prog p
      | none => .val s := by
      unfold readR
      rw [eLs, hX2]
      all_goals rfl
    have emp : decide (s.ts = []) = (s.ts.map telD).isEmpty := by cases s.ts <;> rfl
    refine wps_seq (wps_ifD (!endsC l || decide (s.ts = [])) (wpt_orD (wpt_notD (wpt_B (wp_var rfl ⟨_, rfl, rfl⟩))) fun _ => ?_) (fun h => ?_) (fun h => wps_next ?_))
    · refine wpt_test (wp_op (wp_fld T.c_Reader T.n_Reader_r_tells (wp_var rfl ⟨_, _, _, rfl, rfl, wp_l (wpl_lst (wpa_nil ⟨by simp, r2_eqD (hok'.okT (by omega)).cmp ok_nilL.cmp ⟨_, rfl, ?_⟩⟩))⟩)))
      rw [eqv_nilL, emp]
      rfl
    · refine wps_raise hX (wp_cb (wpa_cons (wp_var rfl (wpa_nil (rc_len rfl fun x' ex => ?_)))))
      cases ex
      refine .inr ⟨l, rfl, .inl ⟨ls.length, ?_, by rw [List.length_map]⟩⟩
      rw [eR, if_pos]
      rcases Bool.or_eq_true_iff.mp h with h | h
      · exact .inl (nb_t h)
      · exact .inr (of_decide_eq_true h)
    · obtain ⟨h1, h2⟩ := Bool.or_eq_false_iff.mp h
      have eR2 : readR l = match s.wrong with
        | some p => .prog p
        | none => .val s := by
        rw [eR, if_neg]
        rintro (z | z)
        · rw [nb_f h1] at z; cases z
        · exact of_decide_eq_false h2 z
      refine wps_ret (wp_methX hX (wp_var rfl ⟨_, _, rfl, by decide +kernel, wpa_nil ⟨⟨s, rfl, hok'⟩, fun d e => ?_, fun e he x' ex => ?_⟩⟩))
      · obtain ⟨e1, e2⟩ := e s rfl
        exact ⟨l, s, rfl, by rw [eR2, e1], e2⟩
      · cases ex
        obtain ⟨p, e1, e2⟩ := he s rfl
        exact .inr ⟨l, rfl, .inr ⟨p, by rw [eR2, e1], e2⟩⟩
end Sd
set_option Elab.async false
set_option linter.all false
set_option maxRecDepth 100000
set_option maxHeartbeats 4000000
namespace Sd
open PySem PySem.Spec L2
open SX (S S_len S_cat S_inj)
open TL (numL joinL spl)
local macro_rules | `(tactic| walk_at "r") => `(tactic| (first | (dsimp only [cxOf, Cx.nox, Cx.wish, Cx.blk]; done) | (dsimp only [cxOf, Cx.nox, Cx.wish, Cx.blk]; rfl) | rfl))
local macro_rules | `(tactic| walk_at "k") => `(tactic| kernel_rfl)
local macro_rules | `(tactic| walk_at "s") => `(tactic| try dsimp only [cxOf, List.map_cons, List.map_nil])
local macro_rules | `(tactic| walk_at "d") => `(tactic| first
  | (with_reducible refine wps_seq ?_)
  | (with_reducible refine wps_ret ?_)
  | (with_reducible refine wps_if ?_)
  | (with_reducible refine wps_next ?_)
  | (with_reducible refine wps_drop ?_)
  | (with_reducible refine wpt_test ?_)
  | (with_reducible refine wpt_B ?_)
  | (with_reducible refine wpt_not ?_)
  | (with_reducible refine wpt_or ?_)
  | (with_reducible refine wpt_and ?_)
  | (with_reducible refine wp_andV ?_)
  | (with_reducible refine wp_orV ?_)
  | (with_reducible refine wp_notV ?_)
  | (refine wp_isiB (by decide) ?_)
  | (with_reducible refine wp_chain ?_)
  | (with_reducible refine wp_op ?_)
  | (with_reducible refine wp_tup ?_)
  | (with_reducible refine wpl_lst ?_)
  | (with_reducible refine wp_m1 ?_)
  | (with_reducible refine wp_m0 ?_)
  | (with_reducible refine wp_cb ?_)
  | (with_reducible refine wpa_cons ?_)
  | (with_reducible refine wpa_nil ?_)
  | (with_reducible refine wp_int ?_)
  | (with_reducible refine wp_str ?_)
  | (with_reducible refine wp_bl ?_)
  | (with_reducible refine wp_non ?_)
  | (refine wp_var rfl ?_)
  | (refine rc_len rfl ?_)
  | (refine r2_ii ?_)
  | (refine r2_ib ?_)
  | (refine ⟨_, rfl, ?_⟩))
variable {P : Program} {wd : World} {mg : Str → Option Value} {base : Heap} {K : PySem.W.Frag}
theorem ok__law_state (T : Tx P K mg) : FnOk P wd K mg base CX0 1 T.f__law_state T.d__law_state ["_law_script"] (spState K) := by
  refine T.F__law_state.ok sc__law_state (fun vs H Q E h => by obtain ⟨_, _, rfl, _⟩ := h; rfl) (fun cdv A outer s H vs Q E hr h => ⟨_, (have nd := sc__law_state.nd; (pss_one (ps_ret (pe_lst (pa_cons (pe_orT (pe_lc (own := [("_law_cell", 1)]) (g := gName 1) rfl nd (pi_list (pe_slice sl_list (pv 0) po_none (po_some pe_int))) (blkOk_by (N := N__law_state) (sc := defScope s__law_state) (by decide +kernel)) (fun _ _ _ _ _ => (pg_name (i := 1) nd rfl (.inl rfl))) (fun _ _ _ _ _ => pts_nil) (fun _ _ _ _ _ => (castE (pe_callB call_abs rfl T.m_abs (by decide +kernel) (pa_cons (pv 1) pa_nil)) (by walk_at "r")))) (pe_one (pe_lst (pa_cons pe_int pa_nil)))) (pa_cons pe_int (pa_cons pe_int pa_nil))))))), spState_body (by decide) (fun H0 a ns hs hl => ?_) h⟩)
  walk_at "s"
  show wps _ _ [.v (.ref a), .no] _ _
  refine wps_ret (wp_l (wpl_lst (wpa_cons (wp_orT ?_))))
  refine wp_l (wpl_lcN rfl (wpi_lst (wp_l (wpl_slV rfl (by simp) hs (wpo_none (wpo_some (wp_int ⟨63, rfl, ?_⟩)))))))
  have hcut : cutD (ns.map D.int) none (some 63) = ns.map .int := by
    unfold cutD
    rw [show HT.sIx (ns.map D.int).length 0 none = 0 from rfl, show HT.sIx (ns.map D.int).length (ns.map D.int).length (some 63) = min 63 (ns.map D.int).length from HT.sIx_nat _ _ 63, List.drop_zero]
    exact List.take_of_length_le (by rw [List.length_map]; omega)
  rw [hcut]
  let f : Int → Int := fun i => if i < 0 then -i else i
  refine ⟨_, rfl, by rw [List.length_map]; omega, fun i acc => acc = ((ns.take i).map f).map .int, rfl, fun i d acc a o hd hI => ?_, fun acc hI => ?_⟩
  · obtain ⟨k, hk, rfl⟩ := map_at hd
    refine wpt_yes (iteT (wp_cb (wpa_cons (wp_var rfl (wpa_nil (rc_abs ?_))))))
    have hI' : acc = ((ns.take i).map f).map .int := hI
    show acc ++ [_] = ((ns.take (i + 1)).map f).map .int
    rw [hI', List.take_add_one, hk, List.map_append, List.map_append]
    rfl
  · have hI' : acc = ((ns.take (ns.map D.int).length).map f).map .int := hI
    rw [List.length_map, List.take_of_length_le (Nat.le_refl _)] at hI'
    subst hI'
    have pos : ∀ n ∈ ns.map f, 0 ≤ n := fun n hn => by
      obtain ⟨k, _, rfl⟩ := List.mem_map.mp hn
      show 0 ≤ if k < 0 then -k else k
      split <;> omega
    cases ns with
    | nil => exact ⟨false, rfl, iteF (wp_l (wpl_lst (wpa_cons (wp_int (wpa_nil ⟨by simp, wpa_cons (wp_int (wpa_cons (wp_int (wpa_nil ⟨by simp, [1], rfl, by simp, by simp, by simp⟩))))⟩)))))⟩
    | cons n ns =>
      refine ⟨true, rfl, iteT (wpa_cons (wp_int (wpa_cons (wp_int (wpa_nil ⟨by simp, (n :: ns).map f, rfl, by simp, ?_, pos⟩)))))⟩
      rw [List.length_map]
      exact hl
abbrev sp__law_draw (K : PySem.W.Frag) : Sp := spR K (pre1 fun m => ∃ n : Int, m = .int n ∧ 0 < n ∧ n ≤ 1000000) (post1 fun m r => ∀ n : Int, m = .int n → intIn n r)
theorem ok__law_draw (T : Tx P K mg) : FnOk P wd K mg base CX0 1 T.f__law_draw T.d__law_draw ["_law_draws", "_law_many"] (sp__law_draw K) := by
  refine T.F__law_draw.ok sc__law_draw (fun vs H Q E h => by obtain ⟨_, _, ws, _, ds, rfl, _, _, _, _, r, pr, _⟩ := h; obtain ⟨_, rfl, _⟩ := pre1_inv pr; show ws.length + 1 = _; rw [r.length]; rfl) (fun cdv A outer s H vs Q E hr h => ⟨_, (have nd := sc__law_draw.nd; (pss_cons (ps_set (i := 2) nd rfl (.inl rfl) (pe_ix ix_list (pv 0) pe_int (fun _ _ => rfl)))
      (pss_cons (ps_set (i := 3) nd rfl (.inl rfl) (pe_op op_mod (pe_callTy call_int1 rfl T.m_int (by decide +kernel) (pa_cons (pe_ix ix_list (pv 0) pe_int (fun _ _ => rfl)) pa_nil)) (pe_callB call_len rfl T.m_len (by decide +kernel) (pa_cons (pv 2) pa_nil))))
      (pss_cons (ps_set (i := 4) nd rfl (.inl rfl) (pe_ix ix_list (pv 2) (pv 3) (fun _ _ => rfl)))
      (pss_cons (ps_if (pt_cmpR op_ge (pv 4) (pe_op op_pow pe_int pe_int) (nomark _)) (pss_cons (ps_asg (pe_op op_fdivW (pv 4) (pv 1)) (pg_sub (pv 2) (pv 3) set_list))
      (pss_one (ps_ret (pe_op op_mod (pe_callTy call_int1 rfl T.m_int (by decide +kernel) (pa_cons (pv 4) pa_nil)) (pv 1))))) pss_nil)
      (pss_cons (ps_asg (pe_op op_add (pe_ix ix_list (pv 0) pe_int (fun _ _ => rfl)) pe_int) (pg_sub (pv 0) pe_int set_list))
      (pss_cons (ps_asg (pe_op op_mod (pe_callTy call_int1 rfl T.m_int (by decide +kernel) (pa_cons (pe_op op_add (pe_op op_add (pe_op op_add (pe_op op_mul (pe_ix ix_list (pv 0) pe_int (fun _ _ => rfl)) pe_int) (pv 4)) (pe_op op_mul pe_int (pe_ix ix_list (pv 0) pe_int (fun _ _ => rfl)))) pe_int) pa_nil)) pe_int) (pg_sub (pv 0) pe_int set_list))
      (pss_cons (ps_set (i := 5) nd rfl (.inl rfl) (pe_op op_mod (pe_callTy call_int1 rfl T.m_int (by decide +kernel) (pa_cons (pe_op op_mul (pe_ix ix_list (pv 0) pe_int (fun _ _ => rfl)) (pe_ix ix_list (pv 0) pe_int (fun _ _ => rfl))) pa_nil)) pe_int))
      (pss_one (ps_ret (pe_op op_mod (pe_callTy call_int1 rfl T.m_int (by decide +kernel) (pa_cons (pe_op op_fdiv (pv 5) pe_int) pa_nil)) (pv 1)))))))))))), ?_⟩)
  walk_at "s"
  obtain ⟨p, c, ws, F, ds, rfl, fh, fp, fc, ⟨ne, i, m, ns, h1, h2, h3, h4, h5, h6, h7, h8⟩, r, pr, q⟩ := h
  obtain ⟨_, rfl, n, rfl, n0, n1⟩ := pre1_inv pr
  cases r with
  | cons r rr =>
    cases rr
    cases r
    have hL : (ns.map V.int).length = ns.length := List.length_map _
    have npos : 0 < ns.length := by cases ns with | nil => exact absurd rfl h3 | cons a b => simp
    have nlog : n.natAbs.log2 < 9000 := by
      have z : n.natAbs ≠ 0 := by omega
      have := (Nat.log2_lt z).mpr (show n.natAbs < 2 ^ 20 by omega)
      omega
    have hj0 : 0 ≤ i % (ns.length : Int) := Int.emod_nonneg _ (by omega)
    have hj1 : i % (ns.length : Int) < ns.length := Int.emod_lt_of_pos _ (by omega)
    obtain ⟨j, hj⟩ : ∃ j : Nat, i % (ns.length : Int) = j := ⟨_, (Int.toNat_of_nonneg hj0).symm⟩
    have hjl : j < ns.length := by omega
    have hcell : L2.atI (ns.map V.int) (i % (ns.length : Int)) = some (.int ns[j]) := by
      rw [hj, atN (by rw [hL]; exact hjl), List.getElem?_map, List.getElem?_eq_getElem hjl]
      rfl
    have hc0 : 0 ≤ ns[j] := h5 _ (List.getElem_mem hjl)
    refine ⟨_, rfl, p, _, 0, _, rfl, rfl, .inl (.inl h1), rfl, ?_⟩
    refine ⟨_, rfl, p, _, 1, _, rfl, rfl, .inl (.inl h1), rfl, .inl ⟨i, rfl, ?_⟩⟩
    refine ⟨_, rfl, _, ns.length, rfl, .inl ⟨_, .inl (.inl h2), hL.symm⟩, ?_⟩
    refine ⟨i, ns.length, rfl, rfl, (by show (0 : Int) < _; omega), ?_⟩
    refine ⟨_, rfl, _, rfl, c, _, _, _, rfl, rfl, .inl (.inl h2), hcell, ?_⟩
    refine ⟨_, rfl, 10, 18, rfl, rfl, ⟨by decide, by decide, by decide⟩, ?_⟩
    refine ⟨ns[j], _, rfl, rfl, _, rfl, ?_⟩
    refine ite_b (fun hb => ?_) (fun hb => ?_)
    · refine ⟨_, rfl, _, rfl, ns[j], n, rfl, rfl, ⟨n0, nlog⟩, ?_⟩
      refine ⟨_, rfl, _, rfl, c, _, _, j, rfl, rfl, h2, ?_, ?_⟩
      · rw [hj, hL]
        unfold L2.ixN
        rw [if_pos (by omega), if_pos (by omega)]
        simp
      refine ⟨_, rfl, .inl ⟨ns[j], rfl, ?_⟩⟩
      refine ⟨_, rfl, ns[j], n, rfl, rfl, n0, ?_⟩
      have e0 : (ns.map V.int).set j (.int (ns[j] / n)) = (ns.set j (ns[j] / n)).map V.int := by rw [List.map_set]
      refine q _ _ _ (fun b o b1 b2 e => by rw [upd_ne b2]; exact e) ⟨ne, i, m, ns.set j (ns[j] / n), by rw [upd_ne ne]; exact h1, by rw [upd_same, e0], fun z => ?_, by rw [List.length_set]; exact h4, fun k hk => ?_, h6, h7, h8⟩ (.int _) fun n2 e => ?_
      · have := congrArg List.length z
        rw [List.length_set] at this
        exact h3 (List.eq_nil_of_length_eq_zero this)
      · rcases List.mem_or_eq_of_mem_set hk with hk | rfl
        · exact h5 k hk
        · exact Int.ediv_nonneg hc0 (by omega)
      · cases e
        exact ⟨_, rfl, Int.emod_nonneg _ (by omega), Int.emod_lt_of_pos _ n0⟩
    · have st : ∀ (a b : V), ([V.ref c, V.int i, V.int m].set 1 a).set 2 b = [V.ref c, a, b] := fun a b => rfl
      refine ⟨_, rfl, p, _, 1, _, rfl, rfl, .inl (.inl h1), rfl, ?_⟩
      refine ⟨i, 1, rfl, rfl, ?_⟩
      refine ⟨_, rfl, p, _, 1, 1, rfl, rfl, h1, rfl, ?_⟩
      have k1 : (upd H p (.lst ([V.ref c, V.int i, V.int m].set 1 (.int (i + 1))))) p = some (.lst [V.ref c, .int (i + 1), .int m]) := upd_same
      refine ⟨_, rfl, p, _, 2, _, rfl, rfl, .inl (.inl k1), rfl, ?_⟩
      refine ⟨m, 48271, rfl, rfl, .inr (by decide), ?_⟩
      refine ⟨_, rfl, _, ns[j], rfl, rfl, ?_⟩
      refine ⟨_, rfl, p, _, 1, _, rfl, rfl, .inl (.inl k1), rfl, ?_⟩
      refine ⟨7919, i + 1, rfl, rfl, .inl (by decide), ?_⟩
      refine ⟨_, _, rfl, rfl, ?_⟩
      refine ⟨_, _, rfl, rfl, .inl ⟨_, rfl, ?_⟩⟩
      refine ⟨_, _, rfl, rfl, (by show (0 : Int) < 2147483647; decide), ?_⟩
      refine ⟨_, rfl, p, _, 2, 2, rfl, rfl, k1, rfl, ?_⟩
      have m20 : 0 ≤ (m * 48271 + ns[j] + 7919 * (i + 1) + 12345) % 2147483647 := Int.emod_nonneg _ (by decide)
      have m21 : (m * 48271 + ns[j] + 7919 * (i + 1) + 12345) % 2147483647 < 2147483647 := Int.emod_lt_of_pos _ (by decide)
      refine ⟨_, rfl, p, _, 2, _, rfl, rfl, .inl (.inl upd_same), rfl, ?_⟩
      refine ⟨_, rfl, p, _, 2, _, rfl, rfl, .inl (.inl upd_same), rfl, ?_⟩
      refine ⟨_, _, rfl, rfl, .inl ⟨Int.lt_of_lt_of_le (by decide) m20, Int.lt_trans m21 (by decide)⟩, .inl ⟨_, rfl, ?_⟩⟩
      refine ⟨_, _, rfl, rfl, (by show (0 : Int) < 2147483629; decide), ?_⟩
      refine ⟨_, rfl, _, 16, rfl, rfl, (by constructor <;> decide), .inl ⟨_, rfl, ?_⟩⟩
      refine ⟨_, rfl, _, n, rfl, rfl, n0, ?_⟩
      refine q _ _ _ (fun b o b1 b2 e => by rw [upd_ne b1, upd_ne b1]; exact e) ⟨ne, i + 1, _, ns, upd_same, by rw [upd_ne (Ne.symm ne), upd_ne (Ne.symm ne)]; exact h2, h3, h4, h5, by omega, m20, m21⟩ (.int _) fun n2 e => ?_
      cases e
      exact ⟨_, rfl, Int.emod_nonneg _ (by omega), Int.emod_lt_of_pos _ n0⟩
abbrev sp__law_pick (K : PySem.W.Frag) : Sp := spR K (pre1 fun x => itemsP x ≠ [] ∧ (itemsP x).length ≤ 100000) (post1 fun x r => r ∈ itemsP x)
theorem ok__law_pick (T : Tx P K mg) : FnOk P wd K mg base CX0 2 T.f__law_pick T.d__law_pick ["_law_draws", "_law_some"] (sp__law_pick K) := by
  refine fn_R T.F__law_pick sc__law_pick (fun ds h => by obtain ⟨_, rfl, _⟩ := pre1_inv h; rfl) (fun cdv A outer s H E hr => ⟨_, (have nd := sc__law_pick.nd; (pss_one (ps_ret (pe_ix ix_seq (pv 1) (pe_call (ok__law_draw T) (hr.mono (by decide)) rfl T.g__law_draw T.F__law_draw.kp T.b__law_draw .nil pass0 (pa_cons (pv 0) (pa_cons (pe_callB call_len rfl T.m_len (by decide +kernel) (pa_cons (pv 1) pa_nil)) pa_nil))) (fun _ _ => rfl))))), fun F0 H0 p c ds hp => ?_⟩)
  walk_at "s"
  obtain ⟨x, rfl, hx, hl⟩ := pre1_inv hp
  show wps _ _ [.dr p c, .d x] _ _
  have pos : 0 < (itemsP x).length := List.length_pos_iff.mpr hx
  refine wps_ret (wp_op (wp_var rfl (wp_callR rfl (wpa_cons (wp_cb (wpa_cons (wp_var rfl (wpa_nil (rc_len (len_itemsP hx (by omega)) (wpa_nil ⟨⟨_, rfl, by omega, by omega⟩, fun r e => ?_⟩))))))))))
  obtain ⟨k, rfl, k0, k1⟩ := e _ rfl
  obtain ⟨j, rfl⟩ : ∃ j : Nat, k = j := ⟨_, (Int.toNat_of_nonneg k0).symm⟩
  have hj : j < (itemsP x).length := by omega
  exact r2_ixA (List.getElem?_eq_getElem hj) (by omega) ⟨rfl, List.getElem_mem hj⟩
abbrev sp__law_gain (K : PySem.W.Frag) : Sp := spR K (pre0) (post0 fun r => ∃ k : Int, r = .int k ∧ -999 ≤ k ∧ k ≤ 999)
theorem ok__law_gain (T : Tx P K mg) : FnOk P wd K mg base CX0 3 T.f__law_gain T.d__law_gain ["_law_draws"] (sp__law_gain K) := by
  refine fn_R T.F__law_gain sc__law_gain (fun ds h => by cases pre0_inv h; rfl) (fun cdv A outer s H E hr => ⟨_, (have nd := sc__law_gain.nd; (pss_cons (ps_set (i := 1) nd rfl (.inl rfl) (pe_call (ok__law_pick T) (hr.mono (by decide)) rfl T.g__law_pick T.F__law_pick.kp T.b__law_pick .nil pass0 (pa_cons (pv 0) (pa_cons (pe_lst (pa_cons pe_int (pa_cons (pe_un un_neg pe_int) (pa_cons pe_int (pa_cons (pe_un un_neg pe_int) pa_nil))))) pa_nil))))
      (pss_one (ps_ret (pe_call (ok__law_pick T) (hr.mono (by decide)) rfl T.g__law_pick T.F__law_pick.kp T.b__law_pick .nil pass0 (pa_cons (pv 0) (pa_cons (pe_lst (pa_cons pe_int (pa_cons pe_int (pa_cons pe_int (pa_cons pe_int (pa_cons pe_int (pa_cons (pe_un un_neg pe_int) (pa_cons pe_int (pa_cons (pv 1) pa_nil))))))))) pa_nil))))))), fun F0 H0 p c ds hp => ?_⟩)
  walk_at "s"
  cases pre0_inv hp
  show wps _ _ [.dr p c, .no] _ _
  refine wps_seq (wps_asg (wp_callR rfl (wpa_cons (wp_l (wpl_lst (wpa_cons (wp_int (wpa_cons (wp_un (wp_int (ru_ii (wpa_cons (wp_int (wpa_cons (wp_un (wp_int (ru_ii (wpa_nil ⟨by simp, wpa_nil ⟨⟨by simp [itemsP], by simp [itemsP]⟩, fun r e => ?_⟩⟩))))))))))))))))))
  have hr2 : ∃ k : Int, r = .int k ∧ -999 ≤ k ∧ k ≤ 999 := by
    have e' : r ∈ [D.int 7, .int (-40), .int 999, .int (-999)] := e
    simp only [List.mem_cons, List.not_mem_nil, or_false] at e'
    rcases e' with rfl | rfl | rfl | rfl
    · exact ⟨_, rfl, by omega, by omega⟩
    · exact ⟨_, rfl, by omega, by omega⟩
    · exact ⟨_, rfl, by omega, by omega⟩
    · exact ⟨_, rfl, by omega, by omega⟩
  obtain ⟨k, rfl, k0, k1⟩ := hr2
  show wps _ _ [.dr p c, .d (.int k)] _ _
  refine wps_ret (wp_callR rfl (wpa_cons (wp_l (wpl_lst ?_))))
  refine wpa_cons (wp_int (wpa_cons (wp_int (wpa_cons (wp_int (wpa_cons (wp_int (wpa_cons (wp_int (wpa_cons (wp_un (wp_int (ru_ii ?_)))))))))))))
  refine wpa_cons (wp_int (wpa_cons (wp_var rfl (wpa_nil ⟨by simp, wpa_nil ⟨⟨by simp [itemsP], by simp [itemsP]⟩, fun r e => ⟨rfl, ?_⟩⟩⟩))))
  have e' : r ∈ [D.int 0, .int 0, .int 0, .int 1, .int 1, .int (-1), .int 2, .int k] := e
  simp only [List.mem_cons, List.not_mem_nil, or_false] at e'
  rcases e' with rfl | rfl | rfl | rfl | rfl | rfl | rfl | rfl <;> exact ⟨_, rfl, by omega, by omega⟩
abbrev sp__law_made {P : Program} {K : PySem.W.Frag} {mg : Str → Option Value} (T : Tx P K mg) : Sp := spP K (pre1 fun x => ∃ k p t, x = .tup [k, p, t] ∧ ProgOk k p t) (post1 fun x r => ∀ k p t, x = .tup [k, p, t] → r = pgD T.a_Program k p t)
theorem ok__law_made (T : Tx P K mg) : FnOk P wd K mg base CX0 9 T.f__law_made T.d__law_made ["_law_parts_here"] (sp__law_made T) := by
  refine fn_P T.F__law_made sc__law_made (fun ds h => by obtain ⟨_, rfl, _⟩ := pre1_inv h; rfl) (fun cdv A outer s H E hr => ⟨_, (have nd := sc__law_made.nd; (pss_one (ps_ret (pe_make T.K_Program (ok_Program_init T) (hr.mono (by decide)) rfl T.g_Program T.b_Program_init .nil passF (pa_cons (pe_ix ix_tup (pv 0) pe_int (fun _ _ => rfl)) (pa_cons (pe_ix ix_tup (pv 0) pe_int (fun _ _ => rfl)) (pa_cons (pe_ix ix_tup (pv 0) pe_int (fun _ _ => rfl)) pa_nil))))))), fun F0 H0 ds hp => ?_⟩)
  walk_at "s"
  obtain ⟨x, rfl, k, p, t, rfl, hv⟩ := pre1_inv hp
  show wps _ _ [.d (.tup [k, p, t])] _ _
  refine wps_ret (wp_makeX (Xp := fun _ _ => False) (fun _ _ _ _ _ _ _ _ _ z => z.elim) (wpa_cons (wp_op (wp_var rfl (wp_int (r2_ixT rfl (wpa_cons (wp_op (wp_var rfl (wp_int (r2_ixT rfl (wpa_cons (wp_op (wp_var rfl (wp_int (r2_ixT rfl (wpa_nil ⟨⟨rfl, hv.ok, hv.op, hv.ot⟩, fun d s' e => ⟨e.1, fun k2 p2 t2 e2 => ?_⟩, fun x s' e => ?_⟩)))))))))))))))))
  · cases e2
    obtain ⟨k3, p3, t3, e3, _, e5⟩ := e.2
    cases e3
    rw [e5]
    rfl
  · obtain ⟨k3, p3, t3, pt, e3, e4, _⟩ := e
    cases e3
    rw [wrong_ok hv] at e4
    cases e4
end Sd
set_option Elab.async false
set_option linter.all false
set_option maxRecDepth 100000
set_option maxHeartbeats 4000000
namespace Sd
open PySem PySem.Spec L2
open SX (S S_len S_cat S_inj)
open TL (numL joinL spl)
local macro_rules | `(tactic| walk_at "r") => `(tactic| (first | (dsimp only [cxOf, Cx.nox, Cx.wish, Cx.blk]; done) | (dsimp only [cxOf, Cx.nox, Cx.wish, Cx.blk]; rfl) | rfl))
local macro_rules | `(tactic| walk_at "k") => `(tactic| kernel_rfl)
local macro_rules | `(tactic| walk_at "s") => `(tactic| try dsimp only [cxOf, List.map_cons, List.map_nil])
local macro_rules | `(tactic| walk_at "d") => `(tactic| first
  | (with_reducible refine wps_seq ?_)
  | (with_reducible refine wps_ret ?_)
  | (with_reducible refine wps_if ?_)
  | (with_reducible refine wps_next ?_)
  | (with_reducible refine wps_drop ?_)
  | (with_reducible refine wpt_test ?_)
  | (with_reducible refine wpt_B ?_)
  | (with_reducible refine wpt_not ?_)
  | (with_reducible refine wpt_or ?_)
  | (with_reducible refine wpt_and ?_)
  | (with_reducible refine wp_andV ?_)
  | (with_reducible refine wp_orV ?_)
  | (with_reducible refine wp_notV ?_)
  | (refine wp_isiB (by decide) ?_)
  | (with_reducible refine wp_chain ?_)
  | (with_reducible refine wp_op ?_)
  | (with_reducible refine wp_tup ?_)
  | (with_reducible refine wpl_lst ?_)
  | (with_reducible refine wp_m1 ?_)
  | (with_reducible refine wp_m0 ?_)
  | (with_reducible refine wp_cb ?_)
  | (with_reducible refine wpa_cons ?_)
  | (with_reducible refine wpa_nil ?_)
  | (with_reducible refine wp_int ?_)
  | (with_reducible refine wp_str ?_)
  | (with_reducible refine wp_bl ?_)
  | (with_reducible refine wp_non ?_)
  | (refine wp_var rfl ?_)
  | (refine rc_len rfl ?_)
  | (refine r2_ii ?_)
  | (refine r2_ib ?_)
  | (refine ⟨_, rfl, ?_⟩))
variable {P : Program} {wd : World} {mg : Str → Option Value} {base : Heap} {K : PySem.W.Frag}
abbrev sp__law_tour (K : PySem.W.Frag) : Sp := spR K (pre2 fun x y => (∃ ks : List (List Nat), x = .tup (ks.map strD) ∧ ks ≠ [] ∧ ks.length ≤ 1000) ∧ ∃ m : Int, y = .int m ∧ 0 ≤ m ∧ m ≤ 900) (post2 fun x y r => ∀ (ks : List (List Nat)) (m : Int), x = .tup (ks.map strD) → y = .int m → ∃ ws : List (List Nat), r = .tup (ws.map strD) ∧ (ws.length : Int) ≤ m ∧ ∀ w ∈ ws, w ∈ ks)
theorem ok__law_tour (T : Tx P K mg) : FnOk P wd K mg base CX0 3 T.f__law_tour T.d__law_tour ["_law_draws", "_law_sorts", "_law_most"] (sp__law_tour K) := by
  refine fn_R T.F__law_tour sc__law_tour (fun ds h => by obtain ⟨_, _, rfl, _⟩ := pre2_inv h; rfl) (fun cdv A outer s H E hr => ⟨_, (have nd := sc__law_tour.nd; (pss_one (ps_ret (pe_callTy call_tuple_of rfl T.m_tuple (by decide +kernel) (pa_cons (pe_lc (own := [("_law_k", 3)]) (g := gName 3) rfl nd (pi_range1 rfl T.m_range (pa_cons (pe_call (ok__law_draw T) (hr.mono (by decide)) rfl T.g__law_draw T.F__law_draw.kp T.b__law_draw .nil pass0 (pa_cons (pv 0) (pa_cons (pe_op op_add (pv 2) pe_int) pa_nil))) pa_nil)) (blkOk_by (N := N__law_tour) (sc := defScope s__law_tour) (by decide +kernel)) (fun _ _ _ _ _ => (pg_name (i := 3) nd rfl (.inl rfl))) (fun _ _ _ _ _ => pts_nil) (fun _ _ _ _ _ => (castE (pe_call (ok__law_pick T) (hr.mono (by decide)) rfl T.g__law_pick T.F__law_pick.kp T.b__law_pick .nil pass0 (pa_cons (pv 0) (pa_cons (pv 1) pa_nil))) (by walk_at "r")))) pa_nil))))), fun F0 H0 p c ds hp => ?_⟩)
  walk_at "s"
  obtain ⟨x, y, rfl, ⟨ks, rfl, hk, hkl⟩, m, rfl, m0, m1⟩ := pre2_inv hp
  show wps _ _ [.dr p c, .d (.tup (ks.map strD)), .d (.int m), .no] _ _
  refine wps_ret (wp_cb (wpa_cons (wp_l (wpl_each (fun d => d ∈ ks.map strD) rfl (wpi_rng ?_)))))
  refine wpa_cons (wp_callR rfl (wpa_cons (wp_op (wp_var rfl (wp_int (r2_ii (wpa_nil ⟨⟨m + 1, rfl, by omega, by omega⟩, fun r e => ?_⟩)))))))
  obtain ⟨k, rfl, k0, k1⟩ := e (m + 1) rfl
  refine wpa_nil ⟨k, rfl, by omega, ?_, fun d a o hd => ?_, fun ys h1 h2 => wpa_nil (rc_tupL ⟨rfl, fun ks2 m2 e1 e2 => ?_⟩)⟩
  · rw [List.length_map, List.length_range]; omega
  · refine wp_callR rfl (wpa_cons (wp_var rfl (wpa_nil ⟨⟨?_, ?_⟩, fun r e => e⟩)))
    · show ks.map strD ≠ []
      simpa using hk
    · show (ks.map strD).length ≤ 100000
      rw [List.length_map]; omega
  · cases kD_inj (D.tup.inj e1)
    cases e2
    obtain ⟨ws, rfl, h3, h4⟩ := strs_of (P := fun w => w ∈ ks) fun y hy => by
      obtain ⟨w, hw, rfl⟩ := List.mem_map.mp (h2 y hy)
      exact ⟨w, rfl, hw⟩
    refine ⟨ws, rfl, ?_, h4⟩
    rw [h3, h1, List.length_map, List.length_range]
    omega
abbrev sp__law_lines (K : PySem.W.Frag) : Sp := spP K (pre1 fun x => ∃ g : Pg, x = g.D ∧ PgS g) (post1 fun x d => ∀ g : Pg, x = g.D → d = .lst (g.lines.map strD))
theorem ok__law_lines (T : Tx P K mg) : FnOk P wd K mg base CX0 1 T.f__law_lines T.d__law_lines ["_law_parts_here"] (sp__law_lines K) := by
  refine fn_P T.F__law_lines sc__law_lines (fun ds h => by obtain ⟨_, rfl, _⟩ := pre1_inv h; rfl) (fun cdv A outer s H E hr => ⟨_, (have nd := sc__law_lines.nd; (pss_cons (ps_set (i := 1) nd rfl (.inl rfl) (pe_lst (pa_cons (pe_join pe_str (pe_op op_cat (pe_lst (pa_cons pe_str pa_nil)) (pe_callTy call_list_of rfl T.m_list (by decide +kernel) (pa_cons (pe_ix ix_tup (pv 0) pe_int (fun _ _ => rfl)) pa_nil)))) pa_nil)))
      (pss_cons (ps_for PassesOwn.never rfl (pi_tup (pe_ix ix_tup (pv 0) pe_int (fun _ _ => rfl))) (pg_tup rfl (pgs_cons (pg_name (i := 2) nd rfl (.inl rfl)) (pgs_cons (pg_name (i := 3) nd rfl (.inl rfl)) pgs_nil))) (pss_cons (ps_expr (pe_bm PySem.F.plainAttrs_list PySem.F.slot_list_append PySem.F.type_list_append mt_append (pv 1) (pa_cons (pe_join pe_str (pe_op op_cat (pe_lst (pa_cons pe_str pa_nil)) (pe_lc (own := [("_law_state_here", 5)]) (g := gName 5) rfl nd (pi_tup (pv 2)) (blkOk_by (N := N__law_lines) (sc := defScope s__law_lines) (by decide +kernel)) (fun _ _ _ _ _ => (pg_name (i := 5) nd rfl (.inl rfl))) (fun _ _ _ _ _ => pts_nil) (fun _ _ _ _ _ => (castE (pe_callTy call_str_int rfl T.m_str (by decide +kernel) (pa_cons (pv 5) pa_nil)) (by walk_at "r")))))) pa_nil)))
      (pss_one (ps_for PassesOwn.never rfl (pi_tup (pv 3)) (pg_name (i := 4) nd rfl (.inl rfl)) (pss_one (ps_expr (pe_bm PySem.F.plainAttrs_list PySem.F.slot_list_append PySem.F.type_list_append mt_append (pv 1) (pa_cons (pe_op op_add_str pe_str (pe_join pe_str (pe_lc (own := [("_law_state_here", 5), ("_law_gain_here", 6)]) (g := gTup _ 2 (gCons (gName 5) (gCons (gName 6) gNil))) rfl nd (pi_tup (pv 4)) (blkOk_by (N := N__law_lines) (sc := defScope s__law_lines) (by decide +kernel)) (fun _ _ _ _ _ => (pg_tup rfl (pgs_cons (pg_name (i := 5) nd rfl (.inl rfl)) (pgs_cons (pg_name (i := 6) nd rfl (.inl rfl)) pgs_nil)))) (fun _ _ _ _ _ => pts_nil) (fun _ _ _ _ _ => (castE (pe_op op_add_str (pe_op op_add_str (pe_callTy call_str_int rfl T.m_str (by decide +kernel) (pa_cons (pv 5) pa_nil)) pe_str) (pe_callTy call_str_int rfl T.m_str (by decide +kernel) (pa_cons (pv 6) pa_nil))) (by walk_at "r")))))) pa_nil))))))))
      (pss_one (ps_ret (pe_op op_cat (pv 1) (pe_lc (own := [("_law_label", 7), ("_law_extra", 8)]) (g := gTup _ 2 (gCons (gName 7) (gCons (gName 8) gNil))) rfl nd (pi_tup (pe_ix ix_tup (pv 0) pe_int (fun _ _ => rfl))) (blkOk_by (N := N__law_lines) (sc := defScope s__law_lines) (by decide +kernel)) (fun _ _ _ _ _ => (pg_tup rfl (pgs_cons (pg_name (i := 7) nd rfl (.inl rfl)) (pgs_cons (pg_name (i := 8) nd rfl (.inl rfl)) pgs_nil)))) (fun _ _ _ _ _ => pts_nil) (fun _ _ _ _ _ => (castE (pe_op op_add_str (pe_op op_add_str (pe_op op_add_str pe_str (pv 7)) pe_str) (pe_callTy call_str_int rfl T.m_str (by decide +kernel) (pa_cons (pv 8) pa_nil))) (by walk_at "r")))))))))), fun F0 H0 ds hp => ?_⟩)
  walk_at "s"
  obtain ⟨x, rfl, g, rfl, hs⟩ := pre1_inv hp
  show wps _ _ [.d g.D, .no, .no, .no, .no, .no, .no, .no, .no] _ _
  obtain ⟨hll, hlw⟩ := lines_len hs
  refine wps_seq (wps_asgL (wpl_lst (wpa_is (strD (kindsC g.ks)) ?_ (wpa_nil ⟨by simp, ?_⟩))))
  · refine wp_m1 (wp_str ⟨⟨_, rfl⟩, ?_⟩)
    refine wp_is (.lst ((wKinds :: g.ks).map strD)) (wp_l (wpl_op ?_)) ?_
    · refine wp_is (.lst [strD wKinds]) (wp_l (wpl_lst (wpa_cons (wp_str (wpa_nil ⟨by simp, by rw [show ("kinds" : Str) = S wKinds by decide +kernel]⟩))))) ?_
      refine wp_is (.lst (g.ks.map strD)) (wp_l (wpl_cb (wpa_cons (wp_op (wp_var rfl (wp_int (r2_ixT rfl (wpa_nil (rc_list rfl rfl))))))))) ?_
      refine r2_cat ?_ rfl
      rw [List.length_map]
      have := hs.k
      show 1 + _ ≤ _
      omega
    · have hps : ∀ q ∈ wKinds :: g.ks, q.length ≤ 8 := fun q hq => by
        rcases List.mem_cons.mp hq with rfl | hq
        · decide
        · exact hs.kw q hq
      rw [strs_map, show (" " : Str) = S [32] by decide +kernel]
      have hsum := sum_len hps
      refine rm_join ?_ ?_
      · rw [List.length_map]
        simp only [List.length_cons] at hsum ⊢
        have := hs.k
        rw [S_len]
        show _ + _ * 1 ≤ _
        omega
      · rw [join_SS]
        rfl
  show wps _ _ [.d g.D, .l [strD (kindsC g.ks)], .no, .no, .no, .no, .no, .no, .no] _ _
  refine wps_seq (wps_for (ts := [2, 3]) (wpi_tup (wp_op (wp_var rfl (wp_int (r2_ixT rfl ⟨g.ps.map pasD, rfl, ?_⟩))))))
  refine ⟨fun i G => ∃ z1 z2 z3, G = [.d g.D, .l (strD (kindsC g.ks) :: ((g.ps.take i).flatMap pasC).map strD), z1, z2, z3, .no, .no, .no, .no], ⟨_, _, _, rfl⟩, fun i d G hd hI => ?_, fun G hI => ?_⟩
  · obtain ⟨z1, z2, z3, rfl⟩ := hI
    obtain ⟨p, hp, rfl⟩ := map_at hd
    have hps := hs.pw p (List.mem_of_getElem? hp)
    have h1 := (pasC_len hps).1
    have h2 := (flat_len (ps := g.ps.take i) fun x hx => hs.pw x (List.mem_of_mem_take hx)).1
    have h3 : (g.ps.take i).length * 101 ≤ 2 * 101 := Nat.mul_le_mul (by rw [List.length_take]; have := hs.p; omega) (Nat.le_refl _)
    refine wpg_tup rfl rfl (wpgs_cons (wpg_name (by simp) (wpgs_cons (wpg_name (by simp) (wpgs_nil ?_)))))
    show wps _ _ [.d g.D, .l (strD (kindsC g.ks) :: ((g.ps.take i).flatMap pasC).map strD), .d (intsD p.1), .d (rowsD p.2), z3, .no, .no, .no, .no] _ _
    refine wps_seq (wps_append rfl (wp_is (strD (begC p.1)) ?_ ⟨?_, ?_⟩))
    · have hps7 : ∀ q ∈ wPass :: p.1.map intL, q.length ≤ 7 := fun q hq => by
        rcases List.mem_cons.mp hq with rfl | hq
        · decide
        · obtain ⟨i, hi, rfl⟩ := List.mem_map.mp hq
          exact intL_len (hps.s i hi)
      refine wp_m1 (wp_str ⟨⟨_, rfl⟩, ?_⟩)
      refine wp_is (.lst ((wPass :: p.1.map intL).map strD)) (wp_l (wpl_op ?_)) ?_
      · refine wp_is (.lst [strD wPass]) (wp_l (wpl_lst (wpa_cons (wp_str (wpa_nil ⟨by simp, by rw [show ("pass" : Str) = S wPass by decide +kernel]⟩))))) ?_
        refine wp_is (.lst (p.1.map fun i => strD (intL i))) (wp_l (wpl_map (fun d => match d with | .int i => strD (intL i) | _ => .non) rfl (wpi_tup ?_))) ?_
        · refine wp_var rfl ⟨p.1.map .int, rfl, by rw [List.length_map]; have := hps.b; omega, fun d a o hd => ?_, ?_⟩
          · obtain ⟨i, hi, rfl⟩ := List.mem_map.mp hd
            exact wp_cb (wpa_cons (wp_var rfl (wpa_nil (rc_strI (log_small (hps.s i hi)) (congrArg D.str (int_S i))))))
          · congr 1
            rw [List.map_map]
            rfl
        · refine r2_cat ?_ ?_
          · rw [List.length_map]; have := hps.b; show 1 + _ ≤ _; omega
          · show D.lst _ = D.lst _
            rw [List.map_cons, List.map_map]
            rfl
      · rw [strs_map, show (" " : Str) = S [32] by decide +kernel]
        have hsum := sum_len hps7
        refine rm_join ?_ ?_
        · rw [List.length_map]
          simp only [List.length_cons, List.length_map] at hsum ⊢
          have e : (p.1.length + 1) * 7 ≤ 101 * 7 := Nat.mul_le_mul (by have := hps.b; omega) (Nat.le_refl _)
          have := hps.b
          rw [S_len]
          show _ + _ * 1 ≤ _
          omega
        · rw [join_SS]
          rfl
    · simp only [List.length_cons, List.length_map]
      omega
    · show wps _ _ [.d g.D, .l (strD (kindsC g.ks) :: ((g.ps.take i).flatMap pasC).map strD ++ [strD (begC p.1)]), .d (intsD p.1), .d (rowsD p.2), z3, .no, .no, .no, .no] _ _
      refine wps_for (ts := [4]) (wpi_tup (wp_var rfl ⟨p.2.map rowD, rfl, ?_⟩))
      refine ⟨fun k G => ∃ z3, G = [.d g.D, .l (strD (kindsC g.ks) :: ((g.ps.take i).flatMap pasC).map strD ++ [strD (begC p.1)] ++ ((p.2.take k).map rowC).map strD), .d (intsD p.1), .d (rowsD p.2), z3, .no, .no, .no, .no], ⟨z3, by simp⟩, fun k d G hd hI => ?_, fun G hI => ?_⟩
      · obtain ⟨z3, rfl⟩ := hI
        obtain ⟨r, hr0, rfl⟩ := map_at hd
        have hr := hps.w r (List.mem_of_getElem? hr0)
        have hl := rowC_len hr
        have hrp := hps.r
        refine wpg_name (by simp) ?_
        refine wps_append rfl (wp_is (strD (rowC r)) ?_ ⟨?_, ?_⟩)
        · have hps15 : ∀ p ∈ r.map pairC, p.length ≤ 15 := fun p hp => by
            obtain ⟨q, hq, rfl⟩ := List.mem_map.mp hp
            exact pairC_len (hr.2 q hq)
          refine wp_op (wp_str (wp_m1 (wp_str ⟨⟨_, rfl⟩, ?_⟩)))
          refine wp_is (.lst ((r.map pairC).map strD)) (wp_l (wpl_map2 (fun d => match d with | .tup [.int a, .int b] => strD (pairC (a, b)) | _ => .non) rfl rfl (wpi_tup ?_))) ?_
          · refine wp_var rfl ⟨r.map pairD, rfl, by rw [List.length_map]; omega, fun d a o hd => ?_, ?_⟩
            · obtain ⟨q, hq, rfl⟩ := List.mem_map.mp hd
              obtain ⟨h1, h2⟩ := hr.2 q hq
              have l1 := intL_len h1
              have l2 := intL_len h2
              refine ⟨_, _, rfl, wp_op (wp_op (wp_cb (wpa_cons (wp_var rfl (wpa_nil (rc_strI (log_small h1) (wp_str ?_)))))))⟩
              rw [show (" " : Str) = S [32] by decide +kernel]
              have e1 : (Str.ofString (toString q.1)) = S (intL q.1) := int_S _
              have e2 : (Str.ofString (toString q.2)) = S (intL q.2) := int_S _
              rw [e1]
              refine r2_addS (by rw [S_len, S_len]; show _ + 1 ≤ _; omega) ?_
              rw [S_cat]
              refine wp_cb (wpa_cons (wp_var rfl (wpa_nil (rc_strI (log_small h2) ?_))))
              rw [e2]
              refine r2_addS (by rw [S_len, S_len, List.length_append]; show _ + 1 + _ ≤ _; omega) ?_
              rw [S_cat, List.append_assoc]
              rfl
            · congr 1
              rw [List.map_map, List.map_map]
              rfl
          · rw [strs_map]
            have hsum : (((r.map pairC).map S).map (·.length)).sum ≤ 60 := by
              have := sum_len hps15
              rw [List.length_map] at this
              have e : r.length * 15 ≤ 4 * 15 := Nat.mul_le_mul hr.1 (Nat.le_refl _)
              omega
            rw [show (" " : Str) = S [32] by decide +kernel]
            refine rm_join ?_ ?_
            · rw [List.length_map, List.length_map]
              show _ + _ * 1 ≤ _
              have := hr.1
              omega
            · rw [join_SS, show ("  " : Str) = S [32, 32] by decide +kernel]
              have hj : (joinL [32] (r.map pairC)).length ≤ 66 := by
                unfold rowC at hl
                rw [List.length_append] at hl
                omega
              refine r2_addS ?_ ?_
              · rw [S_len, S_len]; show 2 + _ ≤ _; omega
              · rw [S_cat]
                rfl
        · have : (p.2.take k).length ≤ 100 := by rw [List.length_take]; omega
          simp only [List.length_cons, List.length_map, List.length_append, List.length_nil]
          omega
        · refine ⟨.d (rowD r), ?_⟩
          show [_, _, _, _, _, _, _, _, _] = [_, _, _, _, _, _, _, _, _]
          rw [List.take_add_one, hr0]
          simp
      · obtain ⟨z3, rfl⟩ := hI
        refine ⟨.d (intsD p.1), .d (rowsD p.2), z3, ?_⟩
        rw [List.length_map, List.take_of_length_le (Nat.le_refl _), List.take_add_one, hp]
        unfold pasC
        simp
  · obtain ⟨z1, z2, z3, rfl⟩ := hI
    rw [List.length_map, List.take_of_length_le (Nat.le_refl _)]
    refine wps_know 1 rfl (wps_ret (wp_l (wpl_op (wp_var rfl ?_))))
    refine wp_is (.lst (g.ts.map fun t => strD (telC t))) (wp_l (wpl_lcNN rfl rfl (wpi_tup (wp_op (wp_var rfl (wp_int (r2_ixT rfl ⟨g.ts.map telD, rfl, ?_⟩))))))) ?_
    · refine ⟨by rw [List.length_map]; have := hs.t; omega, fun i acc => acc = (g.ts.take i).map fun t => strD (telC t), rfl, fun i d acc a o hd hI => ?_, fun acc hI => ?_⟩
      · obtain ⟨t, ht, rfl⟩ := map_at hd
        obtain ⟨h1, h2⟩ := hs.tw t (List.mem_of_getElem? ht)
        have l2 := intL_len h2
        have e2 : (Str.ofString (toString t.2)) = S (intL t.2) := int_S _
        refine ⟨_, _, rfl, wpt_yes (iteT (wp_op (wp_op (wp_op (wp_str (wp_var rfl ?_))))))⟩
        rw [show ("tell " : Str) = S (wTell ++ [32]) by decide +kernel]
        refine r2_addS (by rw [S_len, S_len]; show 5 + _ ≤ _; omega) ?_
        rw [S_cat, show (" " : Str) = S [32] by decide +kernel]
        refine wp_str (r2_addS (by rw [S_len, S_len, List.length_append]; show 5 + _ + 1 ≤ _; omega) ?_)
        rw [S_cat]
        refine wp_cb (wpa_cons (wp_var rfl (wpa_nil (rc_strI (log_small h2) ?_))))
        rw [e2]
        refine r2_addS (by rw [S_len, S_len, List.length_append, List.length_append]; show 5 + _ + 1 + _ ≤ _; omega) ?_
        rw [S_cat]
        show acc ++ [_] = (g.ts.take (i + 1)).map fun t => strD (telC t)
        have hI' : acc = (g.ts.take i).map fun t => strD (telC t) := hI
        rw [hI', List.take_add_one, ht, List.map_append]
        congr 1
        show [D.str _] = [D.str _]
        congr 2
        unfold telC
        simp [List.append_assoc]
      · have hI' : acc = (g.ts.take (g.ts.map telD).length).map fun t => strD (telC t) := hI
        rw [hI', List.length_map, List.take_of_length_le (Nat.le_refl _)]
    · have eL : strD (kindsC g.ks) :: List.map strD (g.ps.flatMap pasC) ++ g.ts.map (fun t => strD (telC t)) = g.lines.map strD := by
        unfold Pg.lines
        simp
      refine r2_cat ?_ fun g2 e => ?_
      · have := congrArg List.length eL
        rw [List.length_append, List.length_map (as := g.lines)] at this
        rw [this]
        omega
      · rw [eL, Pg.D_inj e.symm]
abbrev sp__law_page (K : PySem.W.Frag) : Sp := spP K (pre1 fun x => ∃ ls : List (List Nat), x = .lst (ls.map strD) ∧ ls.length ≤ 303 ∧ ∀ l ∈ ls, l.length ≤ 808) (post1 fun x d => ∀ ls : List (List Nat), x = .lst (ls.map strD) → d = strD (pageC ls))
theorem ok__law_page (T : Tx P K mg) : FnOk P wd K mg base CX0 1 T.f__law_page T.d__law_page ["_law_lines_here"] (sp__law_page K) := by
  refine fn_P T.F__law_page sc__law_page (fun ds h => by obtain ⟨_, rfl, _⟩ := pre1_inv h; rfl) (fun cdv A outer s H E hr => ⟨_, (have nd := sc__law_page.nd; (pss_one (ps_ret (pe_join pe_str (pe_lc (own := [("_law_line", 1)]) (g := gName 1) rfl nd (pi_list (pv 0)) (blkOk_by (N := N__law_page) (sc := defScope s__law_page) (by decide +kernel)) (fun _ _ _ _ _ => (pg_name (i := 1) nd rfl (.inl rfl))) (fun _ _ _ _ _ => pts_nil) (fun _ _ _ _ _ => (castE (pe_op op_add_str (pv 1) pe_str) (by walk_at "r")))))))), fun F0 H0 ds hp => ?_⟩)
  walk_at "s"
  obtain ⟨x, rfl, ls, rfl, hl, hw⟩ := pre1_inv hp
  show wps _ _ [.d (.lst (ls.map strD)), .no] _ _
  refine wps_ret (wp_m1 (wp_str ⟨⟨_, rfl⟩, ?_⟩))
  refine wp_is (.lst ((ls.map (· ++ [10])).map strD)) (wp_l (wpl_lcN rfl (wpi_lst ?_))) ?_
  · refine wp_var rfl ⟨_, rfl, by rw [List.length_map]; omega, fun i acc => acc = ((ls.take i).map (· ++ [10])).map strD, rfl, fun i d acc a o hd hI => ?_, fun acc hI => ?_⟩
    · obtain ⟨l, hl, rfl⟩ := map_at hd
      have := hw l (List.mem_of_getElem? hl)
      refine wpt_yes (iteT (wp_op (wp_var rfl (wp_str ?_))))
      have en : ("\n" : Str) = S [10] := by decide +kernel
      rw [en]
      refine r2_addS (by rw [S_len, S_len]; show _ + 1 ≤ _; omega) ?_
      rw [S_cat]
      have hI' : acc = ((ls.take i).map (· ++ [10])).map strD := hI
      show acc ++ [_] = ((ls.take (i + 1)).map (· ++ [10])).map strD
      rw [hI', List.take_add_one, hl, List.map_append, List.map_append]
      rfl
    · have hI' : acc = ((ls.take (ls.map strD).length).map (· ++ [10])).map strD := hI
      rw [hI', List.length_map, List.take_of_length_le (Nat.le_refl _)]
  · rw [strs_map, show ("" : Str) = S [] by decide +kernel]
    refine rm_join ?_ fun ls2 e2 => ?_
    · have := sum_len (m := 809) (ps := ls.map (· ++ [10])) fun q hq => by
        obtain ⟨l, hl, rfl⟩ := List.mem_map.mp hq
        have := hw l hl
        rw [List.length_append]
        show _ + 1 ≤ _
        omega
      rw [List.length_map (f := fun x => x ++ [10])] at this
      have e3 : ls.length * 809 ≤ 303 * 809 := Nat.mul_le_mul hl (Nat.le_refl _)
      rw [S_len]
      show _ + _ * 0 ≤ _
      omega
    · rw [join_SS, kD_inj (D.lst.inj e2.symm)]
      rfl
end Sd
set_option Elab.async false
set_option linter.all false
set_option maxRecDepth 100000
set_option maxHeartbeats 4000000
namespace Sd
open PySem PySem.Spec L2
open SX (S S_len S_cat S_inj)
open TL (numL joinL spl)
local macro_rules | `(tactic| walk_at "r") => `(tactic| (first | (dsimp only [cxOf, Cx.nox, Cx.wish, Cx.blk]; done) | (dsimp only [cxOf, Cx.nox, Cx.wish, Cx.blk]; rfl) | rfl))
local macro_rules | `(tactic| walk_at "k") => `(tactic| kernel_rfl)
local macro_rules | `(tactic| walk_at "s") => `(tactic| try dsimp only [cxOf, List.map_cons, List.map_nil])
local macro_rules | `(tactic| walk_at "d") => `(tactic| first
  | (with_reducible refine wps_seq ?_)
  | (with_reducible refine wps_ret ?_)
  | (with_reducible refine wps_if ?_)
  | (with_reducible refine wps_next ?_)
  | (with_reducible refine wps_drop ?_)
  | (with_reducible refine wpt_test ?_)
  | (with_reducible refine wpt_B ?_)
  | (with_reducible refine wpt_not ?_)
  | (with_reducible refine wpt_or ?_)
  | (with_reducible refine wpt_and ?_)
  | (with_reducible refine wp_andV ?_)
  | (with_reducible refine wp_orV ?_)
  | (with_reducible refine wp_notV ?_)
  | (refine wp_isiB (by decide) ?_)
  | (with_reducible refine wp_chain ?_)
  | (with_reducible refine wp_op ?_)
  | (with_reducible refine wp_tup ?_)
  | (with_reducible refine wpl_lst ?_)
  | (with_reducible refine wp_m1 ?_)
  | (with_reducible refine wp_m0 ?_)
  | (with_reducible refine wp_cb ?_)
  | (with_reducible refine wpa_cons ?_)
  | (with_reducible refine wpa_nil ?_)
  | (with_reducible refine wp_int ?_)
  | (with_reducible refine wp_str ?_)
  | (with_reducible refine wp_bl ?_)
  | (with_reducible refine wp_non ?_)
  | (refine wp_var rfl ?_)
  | (refine rc_len rfl ?_)
  | (refine r2_ii ?_)
  | (refine r2_ib ?_)
  | (refine ⟨_, rfl, ?_⟩))
variable {P : Program} {wd : World} {mg : Str → Option Value} {base : Heap} {K : PySem.W.Frag}
abbrev sp__law_lap (K : PySem.W.Frag) : Sp := spR K (pre3 fun x y z => ∃ a b c : Nat, x = .int a ∧ y = .int b ∧ z = .int c ∧ a ≤ 100 ∧ b ≤ 100 ∧ 1 ≤ c ∧ c ≤ 100) (post3 fun x y z r => ∀ a b c : Nat, x = .int a → y = .int b → z = .int c → ∃ p : Pas, r = pasD p ∧ LapOk a b c p)
theorem ok__law_lap (T : Tx P K mg) : FnOk P wd K mg base CX0 4 T.f__law_lap T.d__law_lap ["_law_draws", "_law_size", "_law_starts", "_law_most"] (sp__law_lap K) := by
  refine fn_R T.F__law_lap sc__law_lap (fun ds h => by obtain ⟨_, _, _, rfl, _⟩ := pre3_inv h; rfl) (fun cdv A outer s H E hr => ⟨_, (have nd := sc__law_lap.nd; (pss_cons (ps_asg (pe_tup (pa_cons (pe_op op_add pe_int (pe_call (ok__law_draw T) (hr.mono (by decide)) rfl T.g__law_draw T.F__law_draw.kp T.b__law_draw .nil pass0 (pa_cons (pv 0) (pa_cons (pv 3) pa_nil)))) (pa_cons (pe_lst pa_nil) pa_nil))) (pg_tup rfl (pgs_cons (pg_name (i := 4) nd rfl (.inr rfl)) (pgs_cons (pg_name (i := 5) nd rfl (.inl rfl)) pgs_nil))))
      (pss_cons (ps_for PassesOwn.never rfl (pi_range1 rfl T.m_range (pa_cons (pv 4) pa_nil)) (pg_name (i := 6) nd rfl (.inl rfl)) (pss_cons (ps_set (i := 7) nd rfl (.inl rfl) (pe_lst pa_nil))
      (pss_cons (ps_for PassesOwn.never rfl (pi_range1 rfl T.m_range (pa_cons (pv 1) pa_nil)) (pg_name (i := 8) nd rfl (.inl rfl)) (pss_one (ps_expr (pe_bm PySem.F.plainAttrs_list PySem.F.slot_list_append PySem.F.type_list_append mt_append (pv 7) (pa_cons (pe_tup (pa_cons (pe_call (ok__law_pick T) (hr.mono (by decide)) rfl T.g__law_pick T.F__law_pick.kp T.b__law_pick .nil pass0 (pa_cons (pv 0) (pa_cons (pe_lst (pa_cons (pv 6) (pa_cons (pe_call (ok__law_draw T) (hr.mono (by decide)) rfl T.g__law_draw T.F__law_draw.kp T.b__law_draw .nil pass0 (pa_cons (pv 0) (pa_cons (pv 4) pa_nil))) pa_nil))) pa_nil))) (pa_cons (pe_call (ok__law_gain T) (hr.mono (by decide)) rfl T.g__law_gain T.F__law_gain.kp T.b__law_gain .nil pass0 (pa_cons (pv 0) pa_nil)) pa_nil))) pa_nil)))))
      (pss_one (ps_expr (pe_bm PySem.F.plainAttrs_list PySem.F.slot_list_append PySem.F.type_list_append mt_append (pv 5) (pa_cons (pe_callTy call_tuple_of rfl T.m_tuple (by decide +kernel) (pa_cons (pv 7) pa_nil)) pa_nil)))))))
      (pss_one (ps_ret (pe_tup (pa_cons (pe_callTy call_tuple_of rfl T.m_tuple (by decide +kernel) (pa_cons (pe_lc (own := [("_law_k", 8)]) (g := gName 8) rfl nd (pi_range1 rfl T.m_range (pa_cons (pv 2) pa_nil)) (blkOk_by (N := N__law_lap) (sc := defScope s__law_lap) (by decide +kernel)) (fun _ _ _ _ _ => (pg_name (i := 8) nd rfl (.inl rfl))) (fun _ _ _ _ _ => pts_nil) (fun _ _ _ _ _ => (castE (pe_call (ok__law_draw T) (hr.mono (by decide)) rfl T.g__law_draw T.F__law_draw.kp T.b__law_draw .nil pass0 (pa_cons (pv 0) (pa_cons (pv 4) pa_nil))) (by walk_at "r")))) pa_nil)) (pa_cons (pe_callTy call_tuple_of rfl T.m_tuple (by decide +kernel) (pa_cons (pv 5) pa_nil)) pa_nil)))))))), fun F0 H0 p c ds hp => ?_⟩)
  walk_at "s"
  obtain ⟨x, y, z, rfl, sz, st, mo, rfl, rfl, rfl, hsz, hst, hm1, hm⟩ := pre3_inv hp
  show wps _ _ [.dr p c, .d (.int sz), .d (.int st), .d (.int mo), .no, .no, .no, .no, .no] _ _
  refine wps_seq (wps_asgT2 (wp_op (wp_int (wp_callR rfl (wpa_cons (wp_var rfl (wpa_nil ⟨⟨(mo : Int), rfl, by omega, by omega⟩, fun r e => ?_⟩)))))))
  obtain ⟨k, rfl, k0, k1⟩ := e mo rfl
  refine r2_ii ?_
  obtain ⟨n, hn⟩ : ∃ n : Nat, 1 + k = n := ⟨_, (Int.toNat_of_nonneg (by omega)).symm⟩
  rw [hn]
  have n1 : 1 ≤ n := by omega
  have nm : n ≤ mo := by omega
  show wps _ _ [.dr p c, .d (.int sz), .d (.int st), .d (.int mo), .d (.int n), .l [], .no, .no, .no] _ _
  refine wps_seq (wps_for (ts := [6]) (wpi_rng (wpa_cons (wp_var rfl (wpa_nil ⟨n, rfl, by omega, ?_⟩)))))
  refine ⟨fun i G => ∃ (rows : List Row) (z1 z2 z3 : Ent), G = [.dr p c, .d (.int sz), .d (.int st), .d (.int mo), .d (.int n), .l (rows.map rowD), z1, z2, z3] ∧ rows.length = i ∧ ∀ x ∈ rows, x.length = sz ∧ ∀ q ∈ x, (0 ≤ q.1 ∧ q.1 < n) ∧ -999 ≤ q.2 ∧ q.2 ≤ 999, ⟨[], .no, .no, .no, rfl, rfl, by simp⟩, fun i d G hd hI => ?_, fun G hI => ?_⟩
  · obtain ⟨rows, z1, z2, z3, rfl, hl, hr⟩ := hI
    obtain ⟨at_, hat, rfl⟩ := map_at hd
    have hi := (List.getElem?_eq_some_iff.mp hat).1
    rw [List.length_range] at hi
    have hat' : at_ = i := by
      rw [List.getElem?_range hi] at hat
      exact (Option.some.inj hat).symm
    subst hat'
    have hin : at_ < n := by omega
    refine wpg_name (by simp) ?_
    show wps _ _ [.dr p c, .d (.int sz), .d (.int st), .d (.int mo), .d (.int n), .l (rows.map rowD), .d (.int at_), z2, z3] _ _
    refine wps_seq (wps_asgL (wpl_lst (wpa_nil ⟨by simp, ?_⟩)))
    show wps _ _ [.dr p c, .d (.int sz), .d (.int st), .d (.int mo), .d (.int n), .l (rows.map rowD), .d (.int at_), .l [], z3] _ _
    refine wps_seq (wps_for (ts := [8]) (wpi_rng (wpa_cons (wp_var rfl (wpa_nil ⟨sz, rfl, by omega, ?_⟩)))))
    refine ⟨fun j G => ∃ (row : Row) (z3 : Ent), G = [.dr p c, .d (.int sz), .d (.int st), .d (.int mo), .d (.int n), .l (rows.map rowD), .d (.int at_), .l (row.map pairD), z3] ∧ row.length = j ∧ ∀ q ∈ row, (0 ≤ q.1 ∧ q.1 < n) ∧ -999 ≤ q.2 ∧ q.2 ≤ 999, ⟨[], z3, rfl, rfl, by simp⟩, fun j d G hd hI => ?_, fun G hI => ?_⟩
    · obtain ⟨row, z3, rfl, hl2, hr2⟩ := hI
      have hj := (List.getElem?_eq_some_iff.mp hd).1
      rw [List.length_map, List.length_range] at hj
      refine wpg_name (by simp) ?_
      show wps _ _ [.dr p c, .d (.int sz), .d (.int st), .d (.int mo), .d (.int n), .l (rows.map rowD), .d (.int at_), .l (row.map pairD), .d d] _ _
      refine wps_append rfl (wp_tup (wpa_cons (wp_callR rfl (wpa_cons (wp_l (wpl_lst (wpa_cons (wp_var rfl (wpa_cons (wp_callR rfl (wpa_cons (wp_var rfl (wpa_nil ⟨⟨(n : Int), rfl, by omega, by omega⟩, fun r e => ?_⟩)))))))))))))
      obtain ⟨s2, rfl, s20, s21⟩ := e n rfl
      refine wpa_nil ⟨by simp, wpa_nil ⟨⟨by simp [itemsP], by simp [itemsP]⟩, fun r e => ?_⟩⟩
      have hs : ∃ s : Int, r = .int s ∧ 0 ≤ s ∧ s < n := by
        have e' : r ∈ [D.int at_, .int s2] := e
        simp only [List.mem_cons, List.not_mem_nil, or_false] at e'
        rcases e' with rfl | rfl
        · exact ⟨_, rfl, by omega, by omega⟩
        · exact ⟨_, rfl, s20, s21⟩
      obtain ⟨s, rfl, s0, s1⟩ := hs
      refine wpa_cons (wp_callR rfl (wpa_nil ⟨trivial, fun r e => ?_⟩))
      obtain ⟨g, rfl, g0, g1⟩ := e
      refine wpa_nil ⟨by simp, ?_, row ++ [(s, g)], .d d, ?_, by rw [List.length_append, hl2]; rfl, fun q hq => ?_⟩
      · rw [List.length_map]; omega
      · rw [List.map_append]; rfl
      · rcases List.mem_append.mp hq with hq | hq
        · exact hr2 q hq
        · obtain rfl : q = (s, g) := by simpa using hq
          exact ⟨⟨s0, s1⟩, g0, g1⟩
    · obtain ⟨row, z3, rfl, hl2, hr2⟩ := hI
      rw [List.length_map, List.length_range] at hl2
      refine wps_know 7 rfl ?_
      show wps _ _ [.dr p c, .d (.int sz), .d (.int st), .d (.int mo), .d (.int n), .l (rows.map rowD), .d (.int at_), .d (.lst (row.map pairD)), z3] _ _
      refine wps_append rfl (wp_cb (wpa_cons (wp_var rfl (wpa_nil (rc_tupL ⟨?_, rows ++ [row], .d (.int at_), .d (.lst (row.map pairD)), z3, ?_, by rw [List.length_append, hl]; rfl, fun x hx => ?_⟩)))))
      · rw [List.length_map]; omega
      · rw [List.map_append]; rfl
      · rcases List.mem_append.mp hx with hx | hx
        · exact hr x hx
        · obtain rfl : x = row := by simpa using hx
          exact ⟨by omega, hr2⟩
  · obtain ⟨rows, z1, z2, z3, rfl, hl, hr⟩ := hI
    rw [List.length_map, List.length_range] at hl
    have hln : rows.length = n := by omega
    refine wps_know 5 rfl (wps_forget 8 (wps_ret ?_))
    show wp _ _ [.dr p c, .d (.int sz), .d (.int st), .d (.int mo), .d (.int n), .d (.lst (rows.map rowD)), z1, z2, .no] _
    refine wp_tup (wpa_cons (wp_cb (wpa_cons (wp_l (wpl_each (intIn n) rfl (wpi_rng ?_))))))
    refine wpa_cons (wp_var rfl (wpa_nil ⟨st, rfl, by omega, ?_, fun d a o hd => ?_, fun ys h1 h2 => wpa_nil (rc_tupL ?_)⟩))
    · rw [List.length_map, List.length_range]; omega
    · exact wp_callR rfl (wpa_cons (wp_var rfl (wpa_nil ⟨⟨(n : Int), rfl, by omega, by omega⟩, fun r e => e n rfl⟩)))
    · obtain ⟨bs, rfl, h3, h4⟩ := ints_of (P := fun k => 0 ≤ k ∧ k < n) fun y hy => h2 y hy
      have h1 : bs.length = st := by rw [h3, h1, List.length_map, List.length_range]; omega
      refine wpa_cons (wp_cb (wpa_cons (wp_var rfl (wpa_nil (rc_tupL (wpa_nil ⟨by simp, rfl, fun a b c e1 e2 e3 => ?_⟩))))))
      cases Int.ofNat.inj (D.int.inj e1)
      cases Int.ofNat.inj (D.int.inj e2)
      cases Int.ofNat.inj (D.int.inj e3)
      refine ⟨(bs, rows), rfl, ⟨by show bs.length = _; omega, by show 1 ≤ rows.length; omega, by show rows.length ≤ _; omega, fun i hi => ?_, fun x hx => ?_⟩⟩
      · have := h4 i hi
        show 0 ≤ i ∧ i < (rows.length : Int)
        rw [hln]; exact this
      · obtain ⟨h5, h6⟩ := hr x hx
        refine ⟨h5, fun q hq => ?_⟩
        show (0 ≤ q.1 ∧ q.1 < (rows.length : Int)) ∧ _
        rw [hln]; exact h6 q hq
end Sd
set_option Elab.async false
set_option linter.all false
set_option maxRecDepth 100000
set_option maxHeartbeats 4000000
namespace Sd
open PySem PySem.Spec L2
open SX (S S_len S_cat S_inj)
open TL (numL joinL spl)
local macro_rules | `(tactic| walk_at "r") => `(tactic| (first | (dsimp only [cxOf, Cx.nox, Cx.wish, Cx.blk]; done) | (dsimp only [cxOf, Cx.nox, Cx.wish, Cx.blk]; rfl) | rfl))
local macro_rules | `(tactic| walk_at "k") => `(tactic| kernel_rfl)
local macro_rules | `(tactic| walk_at "s") => `(tactic| try dsimp only [cxOf, List.map_cons, List.map_nil])
local macro_rules | `(tactic| walk_at "d") => `(tactic| first
  | (with_reducible refine wps_seq ?_)
  | (with_reducible refine wps_ret ?_)
  | (with_reducible refine wps_if ?_)
  | (with_reducible refine wps_next ?_)
  | (with_reducible refine wps_drop ?_)
  | (with_reducible refine wpt_test ?_)
  | (with_reducible refine wpt_B ?_)
  | (with_reducible refine wpt_not ?_)
  | (with_reducible refine wpt_or ?_)
  | (with_reducible refine wpt_and ?_)
  | (with_reducible refine wp_andV ?_)
  | (with_reducible refine wp_orV ?_)
  | (with_reducible refine wp_notV ?_)
  | (refine wp_isiB (by decide) ?_)
  | (with_reducible refine wp_chain ?_)
  | (with_reducible refine wp_op ?_)
  | (with_reducible refine wp_tup ?_)
  | (with_reducible refine wpl_lst ?_)
  | (with_reducible refine wp_m1 ?_)
  | (with_reducible refine wp_m0 ?_)
  | (with_reducible refine wp_cb ?_)
  | (with_reducible refine wpa_cons ?_)
  | (with_reducible refine wpa_nil ?_)
  | (with_reducible refine wp_int ?_)
  | (with_reducible refine wp_str ?_)
  | (with_reducible refine wp_bl ?_)
  | (with_reducible refine wp_non ?_)
  | (refine wp_var rfl ?_)
  | (refine rc_len rfl ?_)
  | (refine r2_ii ?_)
  | (refine r2_ib ?_)
  | (refine ⟨_, rfl, ?_⟩))
variable {P : Program} {wd : World} {mg : Str → Option Value} {base : Heap} {K : PySem.W.Frag}
abbrev sp__law_labels (K : PySem.W.Frag) : Sp := spR K (pre1 fun x => ∃ m : Nat, x = .int m ∧ m ≤ 20) (post1 fun x r => ∀ m : Nat, x = .int m → ∃ fs : List (List Nat), r = .lst (fs.map strD) ∧ fs.length = m ∧ fs.Nodup ∧ ∀ f ∈ fs, nameC f = true)
theorem ok__law_labels (T : Tx P K mg) : FnOk P wd K mg base CX0 3 T.f__law_labels T.d__law_labels ["_law_draws", "_law_many"] (sp__law_labels K) := by
  refine fn_R T.F__law_labels sc__law_labels (fun ds h => by obtain ⟨_, rfl, _⟩ := pre1_inv h; rfl) (fun cdv A outer s H E hr => ⟨_, (have nd := sc__law_labels.nd; (pss_cons (ps_asg (pe_tup (pa_cons pe_str (pa_cons (pe_lst pa_nil) pa_nil))) (pg_tup rfl (pgs_cons (pg_name (i := 2) nd rfl (.inr rfl)) (pgs_cons (pg_name (i := 3) nd rfl (.inr rfl)) pgs_nil))))
      (pss_cons (ps_set (i := 4) nd rfl (.inl rfl) (pe_lst (pa_cons pe_str (pa_cons pe_str (pa_cons pe_str (pa_cons pe_str (pa_cons pe_str (pa_cons pe_str (pa_cons pe_str (pa_cons pe_str (pa_cons pe_str (pa_cons pe_str (pa_cons pe_str (pa_cons pe_str pa_nil))))))))))))))
      (pss_cons (ps_for PassesOwn.never rfl (pi_range1 rfl T.m_range (pa_cons (pv 1) pa_nil)) (pg_name (i := 5) nd rfl (.inl rfl)) (pss_cons (ps_set (i := 6) nd rfl (.inr rfl) (pe_call (ok__law_pick T) (hr.mono (by decide)) rfl T.g__law_pick T.F__law_pick.kp T.b__law_pick .nil pass0 (pa_cons (pv 0) (pa_cons (pv 4) pa_nil))))
      (pss_cons (ps_if (pt_cmpR op_gt (pe_call (ok__law_draw T) (hr.mono (by decide)) rfl T.g__law_draw T.F__law_draw.kp T.b__law_draw .nil pass0 (pa_cons (pv 0) (pa_cons pe_int pa_nil))) pe_int (nomark _)) (pss_one (ps_set (i := 6) nd rfl (.inr rfl) (pe_join pe_str (pe_lc (own := [("_law_j", 8)]) (g := gName 8) rfl nd (pi_range1 rfl T.m_range (pa_cons (pe_call (ok__law_pick T) (hr.mono (by decide)) rfl T.g__law_pick T.F__law_pick.kp T.b__law_pick .nil pass0 (pa_cons (pv 0) (pa_cons (pe_lst (pa_cons pe_int (pa_cons pe_int (pa_cons pe_int (pa_cons pe_int pa_nil))))) pa_nil))) pa_nil)) (blkOk_by (N := N__law_labels) (sc := defScope s__law_labels) (by decide +kernel)) (fun _ _ _ _ _ => (pg_name (i := 8) nd rfl (.inl rfl))) (fun _ _ _ _ _ => pts_nil) (fun _ _ _ _ _ => (castE (pe_call (ok__law_pick T) (hr.mono (by decide)) rfl T.g__law_pick T.F__law_pick.kp T.b__law_pick .nil pass0 (pa_cons (pv 0) (pa_cons (pv 2) pa_nil))) (by walk_at "r"))))))) pss_nil)
      (pss_cons (ps_setLc (i := 7) (own := [("_law_sign", 9)]) (g := gName 9) rfl nd rfl rfl (sw_true rfl rfl rfl (by decide +kernel)) (pi_str (pv 2)) (blkOk_by (N := N__law_labels) (sc := defScope s__law_labels) (by decide +kernel)) (fun _ _ _ _ _ => (pg_name (i := 9) nd rfl (.inl rfl))) (fun _ _ _ _ _ => pts_nil) (fun _ _ _ _ _ => (castE (pe_op op_add_str (pe_slice sl_str (pv 6) po_none (po_some pe_int)) (pv 9)) (by walk_at "r"))))
      (pss_one (ps_expr (pe_bm PySem.F.plainAttrs_list PySem.F.slot_list_append PySem.F.type_list_append mt_append (pv 3) (pa_cons (pe_ix ix_list (pe_lc (own := [("_law_word", 10)]) (g := gName 10) rfl nd (pi_list (pe_op op_cat (pe_lst (pa_cons (pv 6) pa_nil)) (pv 7))) (blkOk_by (N := N__law_labels) (sc := defScope s__law_labels) (by decide +kernel)) (fun _ _ _ _ _ => (pg_name (i := 10) nd rfl (.inl rfl))) (fun _ _ _ _ _ => (castT (pts_one (pt_cmpR op_notIn_seq (pv 10) (pv 3) (by rfl))) (by walk_at "r"))) (fun _ _ _ _ _ => (castE (pv 10) (by walk_at "r")))) pe_int (fun _ _ => rfl)) pa_nil))))))))
      (pss_one (ps_ret (pv 3))))))), fun F0 H0 p c ds hp => ?_⟩)
  walk_at "s"
  obtain ⟨x, rfl, m, rfl, hm⟩ := pre1_inv hp
  show wps _ _ [.dr p c, .d (.int m), .no, .no, .no, .no, .no, .no, .no, .no, .no] _ _
  refine wps_seq (wps_asgT2 (wp_str ?_))
  show wps _ _ [.dr p c, .d (.int m), .d (.str letters), .l [], .no, .no, .no, .no, .no, .no, .no] _ _
  refine wps_seq (wps_asgV (.lst (ownL.map .str)) (wp_l (wpl_lst ?_)) ?_)
  · repeat (first | refine wpa_cons (wp_str ?_) | refine wpa_nil ⟨by simp, ?_⟩)
    rfl
  show wps _ _ [.dr p c, .d (.int m), .d (.str letters), .l [], .d (.lst (ownL.map .str)), .no, .no, .no, .no, .no, .no] _ _
  refine wps_seq (wps_for (ts := [5]) (wpi_rng (wpa_cons (wp_var rfl (wpa_nil ⟨m, rfl, by omega, ?_⟩)))))
  refine ⟨fun i G => ∃ (fs : List (List Nat)) (z5 z6 z7 : Ent), G = [.dr p c, .d (.int m), .d (.str letters), .l (fs.map strD), .d (.lst (ownL.map .str)), z5, z6, z7, .no, .no, .no] ∧ fs.length = i ∧ fs.Nodup ∧ ∀ f ∈ fs, nameC f = true, ⟨[], .no, .no, .no, rfl, rfl, List.nodup_nil, by simp⟩, fun i d G hd hI => ?_, fun G hI => ?_⟩
  · obtain ⟨fs, z5, z6, z7, rfl, hl, hnd, hfs⟩ := hI
    have hi := (List.getElem?_eq_some_iff.mp hd).1
    rw [List.length_map, List.length_range] at hi
    refine wpg_name (by simp) ?_
    show wps _ _ [.dr p c, .d (.int m), .d (.str letters), .l (fs.map strD), .d (.lst (ownL.map .str)), .d d, z6, z7, .no, .no, .no] _ _
    refine wps_seq (wps_asg (wp_callR rfl (wpa_cons (wp_var rfl (wpa_nil ⟨⟨by simp [itemsP, ownL], by simp [itemsP, ownL]⟩, fun r e => ?_⟩)))))
    obtain ⟨y, hy, rfl⟩ := List.mem_map.mp (show r ∈ ownL.map D.str from e)
    have hny : nameC (TL.tl y) = true := own_names y hy
    show wps _ _ [.dr p c, .d (.int m), .d (.str letters), .l (fs.map strD), .d (.lst (ownL.map .str)), .d d, .d (.str y), z7, .no, .no, .no] _ _
    refine wps_seq ((wps_if (N := fun G' => ∃ l, nameC l = true ∧ G' = [.dr p c, .d (.int m), .d (.str letters), .l (fs.map strD), .d (.lst (ownL.map .str)), .d d, .d (strD l), z7, .no, .no, .no]) (wpt_test (wp_op (wp_callR rfl (wpa_cons (wp_int (wpa_nil ⟨⟨3, rfl, by omega, by omega⟩, fun r e => ?_⟩))))))).imp (fun G' hG => ?_) fun _ _ h => h)
    · obtain ⟨k, rfl, k0, k1⟩ := e 3 rfl
      refine wp_int (r2_ib ⟨_, rfl, ite_b (fun _ => ?_) (fun _ => ?_)⟩)
      · refine wps_asg (wp_m1 (wp_str ⟨⟨_, rfl⟩, ?_⟩))
        refine wp_l (wpl_each (fun d => ∃ c ∈ letL, d = strD [c]) rfl (wpi_rng ?_))
        refine wpa_cons (wp_callR rfl (wpa_cons (wp_l (wpl_lst (wpa_cons (wp_int (wpa_cons (wp_int (wpa_cons (wp_int (wpa_cons (wp_int (wpa_nil ⟨by simp, wpa_nil ⟨⟨by simp [itemsP], by simp [itemsP]⟩, fun r e => ?_⟩⟩)))))))))))))
        have hn : ∃ n : Nat, r = .int n ∧ 1 ≤ n ∧ n ≤ 8 := by
          have e' : r ∈ [D.int 1, .int 1, .int 2, .int 8] := e
          simp only [List.mem_cons, List.not_mem_nil, or_false] at e'
          rcases e' with rfl | rfl | rfl | rfl
          · exact ⟨1, rfl, by omega, by omega⟩
          · exact ⟨1, rfl, by omega, by omega⟩
          · exact ⟨2, rfl, by omega, by omega⟩
          · exact ⟨8, rfl, by omega, by omega⟩
        obtain ⟨n, rfl, n0, n1⟩ := hn
        refine wpa_nil ⟨n, rfl, by omega, ?_, fun d a o hd => ?_, fun ys h1 h2 => ?_⟩
        · rw [List.length_map, List.length_range]; omega
        · refine wp_callR rfl (wpa_cons (wp_var rfl (wpa_nil ⟨⟨?_, ?_⟩, fun r e => ?_⟩)))
          · show (TL.tl letters).map (fun c => D.str ⟨#[c]⟩) ≠ []
            rw [tl_letters]; simp [letL]
          · show ((TL.tl letters).map (fun c => D.str ⟨#[c]⟩)).length ≤ 100000
            rw [tl_letters]; simp [letL]
          · have e' : r ∈ (TL.tl letters).map (fun c => D.str ⟨#[c]⟩) := e
            rw [tl_letters] at e'
            obtain ⟨c, hc, rfl⟩ := List.mem_map.mp e'
            exact ⟨c, hc, rfl⟩
        · obtain ⟨ws, rfl, h3, h4⟩ := strs_of (P := fun w => ∃ c ∈ letL, w = [c]) fun y hy => by
            obtain ⟨c, hc, rfl⟩ := h2 y hy
            exact ⟨[c], rfl, c, hc, rfl⟩
          have h1 : ws.length = n := by rw [h3, h1, List.length_map, List.length_range]; omega
          have hlen1 : ∀ w ∈ ws, w.length ≤ 1 := fun w hw => by
            obtain ⟨c, _, rfl⟩ := h4 w hw
            exact Nat.le_refl _
          rw [strs_map, show ("" : Str) = S [] by decide +kernel]
          have hsum := sum_len hlen1
          refine rm_join ?_ ?_
          · rw [List.length_map, S_len]; show _ + _ * 0 ≤ _; omega
          · rw [join_SS, joinL_nil]
            refine ⟨ws.flatten, ?_, rfl⟩
            obtain ⟨h5, h6⟩ := flat_ones h4
            exact nameC_iff.mpr ⟨by omega, fun c hc => letL_in (h6 c hc)⟩
      · refine wps_next ⟨TL.tl y, hny, ?_⟩
        rw [show strD (TL.tl y) = .str y from congrArg D.str (SX.S_tl y)]
    obtain ⟨l, hln, rfl⟩ := hG
    obtain ⟨⟨hl1, hl2⟩, hl3⟩ := nameC_iff.mp hln
    refine wps_seq (wps_asgV (.lst (letL.map fun c => strD (l.take 7 ++ [c]))) (wp_l (wpl_lcN rfl (wpi_str ?_))) ?_)
    · refine wp_var rfl ⟨_, rfl, ?_⟩
      show List.length ((TL.tl letters).map fun c => D.str ⟨#[c]⟩) ≤ _ ∧ ∃ I : Nat → List D → Prop, I 0 [] ∧ (∀ i d acc a o, ((TL.tl letters).map fun c => D.str ⟨#[c]⟩)[i]? = some d → _) ∧ ∀ acc, I ((TL.tl letters).map fun c => D.str ⟨#[c]⟩).length acc → _
      rw [tl_letters]
      refine ⟨by simp [letL], fun i acc => acc = (letL.take i).map fun c => strD (l.take 7 ++ [c]), rfl, fun i d acc a o hd hI => ?_, fun acc hI => ?_⟩
      · obtain ⟨ch, hc, rfl⟩ := map_at hd
        refine wpt_yes (iteT (wp_op (wp_sl (wp_var rfl (wpo_none (wpo_some (wp_int ⟨7, rfl, rs_str (by rw [S_len]; omega) (wp_var rfl ?_)⟩)))))))
        rw [show cutS (S l) none (some 7) = S (l.take 7) from cut_to l 7]
        refine r2_addS (by rw [S_len, List.length_take]; show _ + 1 ≤ _; omega) ?_
        have hI' : acc = (letL.take i).map fun c => strD (l.take 7 ++ [c]) := hI
        show acc ++ [_] = (letL.take (i + 1)).map fun c => strD (l.take 7 ++ [c])
        rw [hI', List.take_add_one (l := letL) (i := i), hc, List.map_append, show (⟨#[ch]⟩ : Str) = S [ch] from rfl, S_cat]
        rfl
      · have hI' : acc = (letL.take (letL.map fun c => D.str ⟨#[c]⟩).length).map fun c => strD (l.take 7 ++ [c]) := hI
        rw [hI', List.length_map, List.take_of_length_le (Nat.le_refl _)]
    show wps _ _ [.dr p c, .d (.int m), .d (.str letters), .l (fs.map strD), .d (.lst (ownL.map .str)), .d d, .d (strD l), .d (.lst (letL.map fun c => strD (l.take 7 ++ [c]))), .no, .no, .no] _ _
    refine wps_append rfl ((wp_peek (Q := fun r => ∃ w, r = strD w ∧ w ∉ fs ∧ nameC w = true) fun F0 H0 => ?_).imp fun r hr => ?_)
    · show wp _ _ [.no, .d (.int m), .d (.str letters), .d (.lst (fs.map strD)), .d (.lst (ownL.map .str)), .d d, .d (strD l), .d (.lst (letL.map fun c => strD (l.take 7 ++ [c]))), .no, .no, .no] _
      refine wp_op (wp_l (wpl_filter (fun d => !inD d (fs.map strD)) id rfl (wpi_lst (wp_l (wpl_op ?_)))))
      refine wp_l (wpl_lst (wpa_cons (wp_var rfl (wpa_nil ⟨by simp, wp_var rfl (r2_cat (by simp [letL]) ⟨_, rfl, by simp [letL], fun d a o hd => ?_, ?_⟩)⟩))))
      · have fl : flatD d = true := by
          rcases List.mem_append.mp hd with hd | hd
          · obtain rfl : d = strD l := by simpa using hd
            rfl
          · obtain ⟨c, hc, rfl⟩ := List.mem_map.mp hd
            rfl
        refine wpt_test (wp_op (wp_var rfl (wp_var rfl (r2_inL (neg := true) fl (by rw [strs_map]; exact flat_strs _) ⟨_, rfl, rfl, fun _ => wp_var rfl rfl⟩))))
      · obtain ⟨c2, hc2, hn2⟩ := pigeon (fs := fs) (l.take 7) letL_nd (by show fs.length < 26; omega)
        have hin : ∀ w : List Nat, inD (strD w) (fs.map strD) = decide (w ∈ fs) := fun w => by
          rw [strs_map, inD_strs]
          refine decide_eq_decide.mpr ⟨fun h => ?_, fun h => List.mem_map_of_mem h⟩
          obtain ⟨v, hv, e⟩ := List.mem_map.mp h
          rw [← S_inj e]; exact hv
        have hmem : strD (l.take 7 ++ [c2]) ∈ ((([strD l] : List D) ++ letL.map fun c => strD (l.take 7 ++ [c])).filter fun d => !inD d (fs.map strD)) := by
          refine List.mem_filter.mpr ⟨List.mem_append_right _ (List.mem_map_of_mem (f := fun c => strD (l.take 7 ++ [c])) hc2), ?_⟩
          rw [hin, decide_eq_false hn2]
          rfl
        rw [List.map_id]
        cases hf : (([strD l] : List D) ++ letL.map fun c => strD (l.take 7 ++ [c])).filter fun d => !inD d (fs.map strD) with
        | nil => rw [hf] at hmem; cases hmem
        | cons r rs =>
          refine wp_int (r2_ixL (at0 _ _) ?_)
          have hr : r ∈ (([strD l] : List D) ++ letL.map fun c => strD (l.take 7 ++ [c])).filter fun d => !inD d (fs.map strD) := by rw [hf]; simp
          obtain ⟨h1, h2⟩ := List.mem_filter.mp hr
          have hw : ∃ w, r = strD w ∧ nameC w = true := by
            rcases List.mem_append.mp h1 with h1 | h1
            · exact ⟨l, by simpa using h1, hln⟩
            · obtain ⟨c, hc, rfl⟩ := List.mem_map.mp h1
              exact ⟨_, rfl, nameC_app hln (letL_in hc)⟩
          obtain ⟨w, rfl, hw⟩ := hw
          rw [hin] at h2
          exact ⟨rfl, w, rfl, of_decide_eq_false (nb_t h2), hw⟩
    · obtain ⟨w, rfl, hw1, hw2⟩ := hr
      refine ⟨by rw [List.length_map]; omega, fs ++ [w], .d d, .d (strD l), .d (.lst (letL.map fun c => strD (l.take 7 ++ [c]))), ?_, by rw [List.length_append, hl]; rfl, ?_, fun f hf => ?_⟩
      · rw [List.map_append]; rfl
      · exact List.nodup_append.mpr ⟨hnd, by simp, fun a ha b hb e => by
          obtain rfl : b = w := by simpa using hb
          exact hw1 (e ▸ ha)⟩
      · rcases List.mem_append.mp hf with hf | hf
        · exact hfs f hf
        · obtain rfl : f = w := by simpa using hf
          exact hw2
  · obtain ⟨fs, z5, z6, z7, rfl, hl, hnd, hfs⟩ := hI
    refine wps_retO rfl ⟨rfl, fun m2 e => ⟨fs, rfl, ?_, hnd, hfs⟩⟩
    cases Int.ofNat.inj (D.int.inj e)
    rw [hl, List.length_map, List.length_range]
    omega
end Sd
set_option Elab.async false
set_option linter.all false
set_option maxRecDepth 100000
set_option maxHeartbeats 4000000
namespace Sd
open PySem PySem.Spec L2
open SX (S S_len S_cat S_inj)
open TL (numL joinL spl)
local macro_rules | `(tactic| walk_at "r") => `(tactic| (first | (dsimp only [cxOf, Cx.nox, Cx.wish, Cx.blk]; done) | (dsimp only [cxOf, Cx.nox, Cx.wish, Cx.blk]; rfl) | rfl))
local macro_rules | `(tactic| walk_at "k") => `(tactic| kernel_rfl)
local macro_rules | `(tactic| walk_at "s") => `(tactic| try dsimp only [cxOf, List.map_cons, List.map_nil])
local macro_rules | `(tactic| walk_at "d") => `(tactic| first
  | (with_reducible refine wps_seq ?_)
  | (with_reducible refine wps_ret ?_)
  | (with_reducible refine wps_if ?_)
  | (with_reducible refine wps_next ?_)
  | (with_reducible refine wps_drop ?_)
  | (with_reducible refine wpt_test ?_)
  | (with_reducible refine wpt_B ?_)
  | (with_reducible refine wpt_not ?_)
  | (with_reducible refine wpt_or ?_)
  | (with_reducible refine wpt_and ?_)
  | (with_reducible refine wp_andV ?_)
  | (with_reducible refine wp_orV ?_)
  | (with_reducible refine wp_notV ?_)
  | (refine wp_isiB (by decide) ?_)
  | (with_reducible refine wp_chain ?_)
  | (with_reducible refine wp_op ?_)
  | (with_reducible refine wp_tup ?_)
  | (with_reducible refine wpl_lst ?_)
  | (with_reducible refine wp_m1 ?_)
  | (with_reducible refine wp_m0 ?_)
  | (with_reducible refine wp_cb ?_)
  | (with_reducible refine wpa_cons ?_)
  | (with_reducible refine wpa_nil ?_)
  | (with_reducible refine wp_int ?_)
  | (with_reducible refine wp_str ?_)
  | (with_reducible refine wp_bl ?_)
  | (with_reducible refine wp_non ?_)
  | (refine wp_var rfl ?_)
  | (refine rc_len rfl ?_)
  | (refine r2_ii ?_)
  | (refine r2_ib ?_)
  | (refine ⟨_, rfl, ?_⟩))
variable {P : Program} {wd : World} {mg : Str → Option Value} {base : Heap} {K : PySem.W.Frag}
abbrev sp__law_parts (K : PySem.W.Frag) : Sp := spR K (pre2 fun x y => ∃ a b : Nat, x = .int a ∧ y = .int b ∧ 1 ≤ a ∧ a ≤ 4 ∧ 1 ≤ b ∧ b ≤ 6) (post2 fun x y r => ∃ g : Pg, r = g.D ∧ PgOk g)
theorem ok__law_parts (T : Tx P K mg) : FnOk P wd K mg base CX0 5 T.f__law_parts T.d__law_parts ["_law_draws", "_law_many", "_law_most"] (sp__law_parts K) := by
  refine fn_R T.F__law_parts sc__law_parts (fun ds h => by obtain ⟨_, _, rfl, _⟩ := pre2_inv h; rfl) (fun cdv A outer s H E hr => ⟨_, (have nd := sc__law_parts.nd; (pss_cons (ps_set (i := 3) nd rfl (.inl rfl) (pe_callTy call_tuple_of rfl T.m_tuple (by decide +kernel) (pa_cons (pe_callB cr_sortedS rfl T.m_sorted (by decide +kernel) (pa_cons (pe_call (ok__law_labels T) (hr.mono (by decide)) rfl T.g__law_labels T.F__law_labels.kp T.b__law_labels .nil pass0 (pa_cons (pv 0) (pa_cons (pe_op op_add pe_int (pe_call (ok__law_draw T) (hr.mono (by decide)) rfl T.g__law_draw T.F__law_draw.kp T.b__law_draw .nil pass0 (pa_cons (pv 0) (pa_cons (pv 1) pa_nil)))) pa_nil))) pa_nil)) pa_nil)))
      (pss_cons (ps_set (i := 4) nd rfl (.inl rfl) (pe_tup (pa_cons (pe_call (ok__law_lap T) (hr.mono (by decide)) rfl T.g__law_lap T.F__law_lap.kp T.b__law_lap .nil pass0 (pa_cons (pv 0) (pa_cons (pe_callB call_len rfl T.m_len (by decide +kernel) (pa_cons (pv 3) pa_nil)) (pa_cons pe_int (pa_cons (pv 2) pa_nil))))) pa_nil)))
      (pss_cons (ps_if (pt_cmpR op_eq (pe_call (ok__law_draw T) (hr.mono (by decide)) rfl T.g__law_draw T.F__law_draw.kp T.b__law_draw .nil pass0 (pa_cons (pv 0) (pa_cons pe_int pa_nil))) pe_int (nomark _)) (pss_one (ps_set (i := 4) nd rfl (.inl rfl) (pe_op op_catA (pv 4) (pe_tup (pa_cons (pe_call (ok__law_lap T) (hr.mono (by decide)) rfl T.g__law_lap T.F__law_lap.kp T.b__law_lap .nil pass0 (pa_cons (pv 0) (pa_cons (pe_callB call_len rfl T.m_len (by decide +kernel) (pa_cons (pv 3) pa_nil)) (pa_cons (pe_callB call_len rfl T.m_len (by decide +kernel) (pa_cons (pe_ix ix_tup (pe_ix ix_tup (pv 4) pe_int (fun _ _ => rfl)) pe_int (fun _ _ => rfl)) pa_nil)) (pa_cons (pv 2) pa_nil))))) pa_nil))))) pss_nil)
      (pss_cons (ps_set (i := 5) nd rfl (.inr rfl) (pe_call (ok__law_labels T) (hr.mono (by decide)) rfl T.g__law_labels T.F__law_labels.kp T.b__law_labels .nil pass0 (pa_cons (pv 0) (pa_cons pe_int pa_nil))))
      (pss_cons (ps_set (i := 6) nd rfl (.inr rfl) (pe_lst (pa_cons pe_int (pa_cons pe_int (pa_cons (pe_call (ok__law_gain T) (hr.mono (by decide)) rfl T.g__law_gain T.F__law_gain.kp T.b__law_gain .nil pass0 (pa_cons (pv 0) pa_nil)) pa_nil)))))
      (pss_cons (ps_set (i := 7) nd rfl (.inl rfl) (pe_callTy call_tuple_of rfl T.m_tuple (by decide +kernel) (pa_cons (pe_lc (own := [("_law_line", 8)]) (g := gName 8) rfl nd (pi_tup (pe_ix ix_tup (pe_ix ix_tup (pv 4) (pe_un un_neg pe_int) (fun _ _ => rfl)) pe_int (fun _ _ => rfl))) (blkOk_by (N := N__law_parts) (sc := defScope s__law_parts) (by decide +kernel)) (fun _ _ _ _ _ => (pg_name (i := 8) nd rfl (.inl rfl))) (fun _ _ _ _ _ => pts_nil) (fun _ _ _ _ _ => (castE (pe_tup (pa_cons (pe_call (ok__law_pick T) (hr.mono (by decide)) rfl T.g__law_pick T.F__law_pick.kp T.b__law_pick .nil pass0 (pa_cons (pv 0) (pa_cons (pv 5) pa_nil))) (pa_cons (pe_call (ok__law_pick T) (hr.mono (by decide)) rfl T.g__law_pick T.F__law_pick.kp T.b__law_pick .nil pass0 (pa_cons (pv 0) (pa_cons (pv 6) pa_nil))) pa_nil))) (by walk_at "r")))) pa_nil)))
      (pss_one (ps_ret (pe_tup (pa_cons (pv 3) (pa_cons (pv 4) (pa_cons (pv 7) pa_nil))))))))))))), fun F0 H0 p c ds hp => ?_⟩)
  walk_at "s"
  obtain ⟨x, y, rfl, a, b, rfl, rfl, a1, a4, b1, b6⟩ := pre2_inv hp
  show wps _ _ [.dr p c, .d (.int a), .d (.int b), .no, .no, .no, .no, .no, .no] _ _
  refine wps_seq (wps_asg (wp_cb (wpa_cons (wp_l (wpl_cb (wpa_cons (wp_callR rfl (wpa_cons (wp_op (wp_int (wp_callR rfl (wpa_cons (wp_var rfl (wpa_nil ⟨⟨(a : Int), rfl, by omega, by omega⟩, fun r e => ?_⟩))))))))))))))
  obtain ⟨k, rfl, k0, k1⟩ := e a rfl
  refine r2_ii ?_
  obtain ⟨n, hn⟩ : ∃ n : Nat, 1 + k = n := ⟨_, (Int.toNat_of_nonneg (by omega)).symm⟩
  rw [hn]
  refine wpa_nil ⟨⟨n, rfl, by omega⟩, fun r e => ?_⟩
  obtain ⟨fs, rfl, fl, fnd, fnm⟩ := e n rfl
  rw [strs_map]
  refine wpa_nil (rc_sortS (by rw [List.length_map]; omega) fun ys hperm hsort => wpa_nil (rc_tupL ?_))
  obtain ⟨ks, rfl⟩ : ∃ ks : List (List Nat), ys = ks.map S := ⟨ys.map TL.tl, by rw [List.map_map]; exact (List.map_id'' (fun x => (str_S x).symm) ys).symm⟩
  have hkp : ks.Perm fs := by
    have := hperm.map TL.tl
    rwa [SX.map_S_tl, SX.map_S_tl] at this
  have hkl : ks.length = n := by rw [hkp.length_eq, fl]
  have hkn : ∀ k ∈ ks, nameC k = true := fun k hk => fnm k (hkp.mem_iff.mp hk)
  have hknd : (ks.map S).Nodup := List.Pairwise.map _ (fun a b hab e => hab (S_inj e)) (hkp.nodup_iff.mpr fnd)
  have hka : ascD (ks.map strD) = true := by rw [strs_map]; exact asc_sorted hsort hknd
  rw [← strs_map]
  show wps _ _ [.dr p c, .d (.int a), .d (.int b), .d (.tup (ks.map strD)), .no, .no, .no, .no, .no] _ _
  have hlen : (ks.map strD).length = n := by rw [List.length_map]; exact hkl
  refine wps_seq (wps_asg (wp_tup (wpa_cons (wp_callR rfl (wpa_cons (wp_cb (wpa_cons (wp_var rfl (wpa_nil (rc_len rfl ?_))))))))))
  rw [hlen]
  refine wpa_cons (wp_int (wpa_cons (wp_var rfl (wpa_nil ⟨⟨n, 1, b, rfl, rfl, rfl, by omega, by omega, b1, by omega⟩, fun r e => ?_⟩))))
  obtain ⟨l1, rfl, hl1⟩ := e n 1 b rfl rfl rfl
  refine wpa_nil ⟨by simp, ?_⟩
  have up : ∀ {x y : Nat} {q : Pas}, LapOk x y b q → LapOk x y 6 q := fun h => ⟨h.b, h.r0, Nat.le_trans h.r1 b6, h.s, h.w⟩
  show wps _ _ [.dr p c, .d (.int a), .d (.int b), .d (.tup (ks.map strD)), .d (.tup [pasD l1]), .no, .no, .no, .no] _ _
  refine wps_seq ((wps_if (N := fun G' => ∃ (ps : List Pas) (l : Pas), ((ps = [l1] ∧ l = l1) ∨ (ps = [l1, l] ∧ LapOk n l1.2.length 6 l)) ∧ G' = [.dr p c, .d (.int a), .d (.int b), .d (.tup (ks.map strD)), .d (.tup (ps.map pasD)), .no, .no, .no, .no]) (wpt_test (wp_op (wp_callR rfl (wpa_cons (wp_int (wpa_nil ⟨⟨2, rfl, by omega, by omega⟩, fun r e => ?_⟩))))))).imp (fun G' hG => ?_) fun _ _ h => h)
  · obtain ⟨k2, rfl, _, _⟩ := e 2 rfl
    refine wp_int (r2_eqI ⟨_, rfl, ite_b (fun _ => ?_) (fun _ => ?_)⟩)
    · refine wps_asg (wp_op (wp_var rfl (wp_tup (wpa_cons (wp_callR rfl (wpa_cons (wp_cb (wpa_cons (wp_var rfl (wpa_nil (rc_len rfl ?_)))))))))))
      rw [hlen]
      refine wpa_cons (wp_cb (wpa_cons (wp_op (wp_op (wp_var rfl (wp_int (r2_ixT rfl (wp_int (r2_ixT rfl (wpa_nil (rc_len rfl ?_)))))))))))
      rw [List.length_map]
      refine wpa_cons (wp_var rfl (wpa_nil ⟨⟨n, l1.2.length, b, rfl, rfl, rfl, by omega, by have := hl1.r1; omega, b1, by omega⟩, fun r e => ?_⟩))
      obtain ⟨l2, rfl, hl2⟩ := e n l1.2.length b rfl rfl rfl
      exact wpa_nil ⟨by simp, r2_catT (by simp) ⟨[l1, l2], l2, .inr ⟨rfl, up hl2⟩, rfl⟩⟩
    · exact wps_next ⟨[l1], l1, .inl ⟨rfl, rfl⟩, rfl⟩
  obtain ⟨ps, l, hps, rfl⟩ := hG
  have hlast : L2.atI (ps.map pasD) (-1) = some (pasD l) := by
    rcases hps with ⟨rfl, rfl⟩ | ⟨rfl, _⟩ <;> rfl
  have hll : l.2.length ≤ 6 := by
    rcases hps with ⟨_, rfl⟩ | ⟨_, h⟩
    · exact (up hl1).r1
    · exact h.r1
  refine wps_seq (wps_asg (wp_callR rfl (wpa_cons (wp_int (wpa_nil ⟨⟨2, rfl, by omega⟩, fun r e => ?_⟩)))))
  obtain ⟨ws, rfl, wl, _, wn⟩ := e 2 rfl
  show wps _ _ [.dr p c, .d (.int a), .d (.int b), .d (.tup (ks.map strD)), .d (.tup (ps.map pasD)), .d (.lst (ws.map strD)), .no, .no, .no] _ _
  refine wps_seq (wps_asg (wp_l (wpl_lst (wpa_cons (wp_int (wpa_cons (wp_int (wpa_cons (wp_callR rfl (wpa_nil ⟨trivial, fun r e => ?_⟩))))))))))
  obtain ⟨gn, rfl, g0, g1⟩ := e
  refine wpa_nil ⟨by simp, ?_⟩
  show wps _ _ [.dr p c, .d (.int a), .d (.int b), .d (.tup (ks.map strD)), .d (.tup (ps.map pasD)), .d (.lst (ws.map strD)), .d (.lst [.int 0, .int 0, .int gn]), .no, .no] _ _
  refine wps_seq (wps_asg (wp_cb (wpa_cons (wp_l (wpl_each (fun d => ∃ t, d = telD t ∧ nameC t.1 = true ∧ -999 ≤ t.2 ∧ t.2 ≤ 999) rfl (wpi_tup ?_))))))
  refine wp_op (wp_op (wp_var rfl (wp_un (wp_int (ru_ii (r2_ixT hlast (wp_int (r2_ixT rfl ⟨l.2.map rowD, rfl, ?_, fun d a o hd => ?_, fun ys h1 h2 => ?_⟩))))))))
  · rw [List.length_map]; omega
  · refine wp_tup (wpa_cons (wp_callR rfl (wpa_cons (wp_var rfl (wpa_nil ⟨⟨?_, ?_⟩, fun r e => ?_⟩)))))
    · show ws.map strD ≠ []
      intro z
      have := congrArg List.length z
      rw [List.length_map, wl] at this
      cases this
    · show (ws.map strD).length ≤ 100000
      rw [List.length_map]; omega
    · obtain ⟨w, hw, rfl⟩ := List.mem_map.mp (show r ∈ ws.map strD from e)
      refine wpa_cons (wp_callR rfl (wpa_cons (wp_var rfl (wpa_nil ⟨⟨by simp [itemsP], by simp [itemsP]⟩, fun r e => ?_⟩))))
      have e' : r ∈ [D.int 0, .int 0, .int gn] := e
      simp only [List.mem_cons, List.not_mem_nil, or_false] at e'
      rcases e' with rfl | rfl | rfl
      · exact wpa_nil ⟨by simp, (w, 0), rfl, wn w hw, by omega, by omega⟩
      · exact wpa_nil ⟨by simp, (w, 0), rfl, wn w hw, by omega, by omega⟩
      · exact wpa_nil ⟨by simp, (w, gn), rfl, wn w hw, g0, g1⟩
  · obtain ⟨ts, rfl, h3, h4⟩ := tels_of h2
    have htl : ts.length = l.2.length := by rw [h3, h1, List.length_map]
    refine wpa_nil (rc_tupL ?_)
    refine wps_ret (wp_tup (wpa_cons (wp_var rfl (wpa_cons (wp_var rfl (wpa_cons (wp_var rfl (wpa_nil ⟨by simp, rfl, ?_⟩))))))))
    refine ⟨⟨ks, ps, ts⟩, rfl, by show 1 ≤ ks.length; omega, by show ks.length ≤ 4; omega, hkn, hka, ?_, h4⟩
    show (∃ q, ps = [q] ∧ LapOk ks.length 1 6 q ∧ ts.length = q.2.length) ∨ ∃ q r, ps = [q, r] ∧ LapOk ks.length 1 6 q ∧ LapOk ks.length q.2.length 6 r ∧ ts.length = r.2.length
    rw [hkl]
    rcases hps with ⟨rfl, rfl⟩ | ⟨rfl, h⟩
    · exact .inl ⟨_, rfl, up hl1, htl⟩
    · exact .inr ⟨_, _, rfl, up hl1, h, htl⟩
end Sd
set_option Elab.async false
set_option linter.all false
set_option maxRecDepth 100000
set_option maxHeartbeats 4000000
namespace Sd
open PySem PySem.Spec L2
open SX (S S_len S_cat S_inj)
open TL (numL joinL spl)
local macro_rules | `(tactic| walk_at "r") => `(tactic| (first | (dsimp only [cxOf, Cx.nox, Cx.wish, Cx.blk]; done) | (dsimp only [cxOf, Cx.nox, Cx.wish, Cx.blk]; rfl) | rfl))
local macro_rules | `(tactic| walk_at "k") => `(tactic| kernel_rfl)
local macro_rules | `(tactic| walk_at "s") => `(tactic| try dsimp only [cxOf, List.map_cons, List.map_nil])
local macro_rules | `(tactic| walk_at "d") => `(tactic| first
  | (with_reducible refine wps_seq ?_)
  | (with_reducible refine wps_ret ?_)
  | (with_reducible refine wps_if ?_)
  | (with_reducible refine wps_next ?_)
  | (with_reducible refine wps_drop ?_)
  | (with_reducible refine wpt_test ?_)
  | (with_reducible refine wpt_B ?_)
  | (with_reducible refine wpt_not ?_)
  | (with_reducible refine wpt_or ?_)
  | (with_reducible refine wpt_and ?_)
  | (with_reducible refine wp_andV ?_)
  | (with_reducible refine wp_orV ?_)
  | (with_reducible refine wp_notV ?_)
  | (refine wp_isiB (by decide) ?_)
  | (with_reducible refine wp_chain ?_)
  | (with_reducible refine wp_op ?_)
  | (with_reducible refine wp_tup ?_)
  | (with_reducible refine wpl_lst ?_)
  | (with_reducible refine wp_m1 ?_)
  | (with_reducible refine wp_m0 ?_)
  | (with_reducible refine wp_cb ?_)
  | (with_reducible refine wpa_cons ?_)
  | (with_reducible refine wpa_nil ?_)
  | (with_reducible refine wp_int ?_)
  | (with_reducible refine wp_str ?_)
  | (with_reducible refine wp_bl ?_)
  | (with_reducible refine wp_non ?_)
  | (refine wp_var rfl ?_)
  | (refine rc_len rfl ?_)
  | (refine r2_ii ?_)
  | (refine r2_ib ?_)
  | (refine ⟨_, rfl, ?_⟩))
variable {P : Program} {wd : World} {mg : Str → Option Value} {base : Heap} {K : PySem.W.Frag}
abbrev sp__law_is_name (K : PySem.W.Frag) : Sp := spP K (pre1 fun x => ∃ l, x = strD l ∧ l.length ≤ 1000000 ∧ ∀ c ∈ l, c < 1114112) (post1 fun x r => ∀ l, x = strD l → r = .bl (nameC l))
theorem ok__law_is_name (T : Tx P K mg) : FnOk P wd K mg base CX0 1 T.f__law_is_name T.d__law_is_name ["_law_value"] (sp__law_is_name K) := by
  refine fn_P T.F__law_is_name sc__law_is_name (fun ds h => by obtain ⟨_, rfl, _⟩ := pre1_inv h; rfl) (fun cdv A outer s H E hr => ⟨_, (have nd := sc__law_is_name.nd; (pss_cons (ps_if (PW.pt (pw_or (pt_not (pt_val (pe_callB call_isi rfl T.m_isinstance (by decide +kernel) (pa_cons (pv 0) (pa_cons (pe_bltn (v := .ty "str") (u := .type "str") rfl T.m_str (by decide +kernel) rfl) pa_nil))))) (pw_or1 (pt_not (pt_chain op_le op_le pe_int (pe_callB call_len rfl T.m_len (by decide +kernel) (pa_cons (pv 0) pa_nil)) pe_int))))) (pss_one (ps_ret pe_bl)) pss_nil)
      (pss_one (ps_ret (pe_cmpR (op_eqD hr.units) (pe_lc (own := [("_law_sign", 1)]) (g := gName 1) rfl nd (pi_str (pv 0)) (blkOk_by (N := N__law_is_name) (sc := defScope s__law_is_name) (by decide +kernel)) (fun _ _ _ _ _ => (pg_name (i := 1) nd rfl (.inl rfl))) (fun _ _ _ _ _ => (castT (pts_one (pt_cmpR op_notIn_sign (pv 1) pe_str rfl)) (by walk_at "r"))) (fun _ _ _ _ _ => (castE (pv 1) (by walk_at "r")))) (pe_lst pa_nil) (nomark _)))))), fun F0 H0 ds hp => ?_⟩)
  walk_at "s"
  obtain ⟨x, rfl, l, rfl, hl, hc⟩ := pre1_inv hp
  show wps _ _ [.d (strD l), .no] _ _
  have hS : (S l).length ≤ 1000000 := by rw [S_len]; exact hl
  have fin : ∀ {b : Bool}, b = nameC l → ∀ l2, strD l = strD l2 → D.bl b = .bl (nameC l2) := fun e l2 e2 => by rw [e, strD_inj e2]
  refine wps_seq (wps_ifD (!(decide (1 ≤ l.length) && decide (l.length ≤ 8))) ?_ (fun h => ?_) (fun h => wps_next ?_))
  · refine (wpt_orD (b := false) (c := !(decide (1 ≤ l.length) && decide (l.length ≤ 8))) ?_ fun _ => ?_).imp fun c e => e
    · exact wpt_notD (b := true) (wpt_B (wp_isiB (by decide) (wp_var rfl ⟨rfl, _, rfl, rfl⟩)))
    · refine wpt_notD (wpt_test (wp_chainI 8 (wp_int rfl) (wp_int (wp_cb (wpa_cons (wp_var rfl (wpa_nil (rc_len (len_str hS) ⟨1, _, rfl, rfl, _, rfl, ?_⟩))))))))
      rw [S_len]
      congr 1 <;> exact decide_eq_decide.mpr (by omega)
  · refine wps_ret (wp_bl (fin ?_))
    unfold nameC
    rw [nb_t h]
    rfl
  · refine wps_ret (wp_emptyLc false (offS letters) id rfl (wpi_str (wp_var rfl ⟨_, rfl, ?_⟩)))
    refine ⟨by rw [List.length_map]; simp only [SX.S]; simpa using hl, fun d hd => ?_, fun d a o hd => ?_, fin ?_⟩
    · obtain ⟨c, hc', rfl⟩ := List.mem_map.mp hd
      have hc2 : c ∈ l := by simpa [SX.S] using hc'
      have := fd_str (l := [c]) (n := 0) (by simp) (fun y hy => by rw [List.mem_singleton.mp hy]; exact hc c hc2)
      exact this
    · obtain ⟨c, hc', rfl⟩ := List.mem_map.mp hd
      refine wpt_test (wp_op (wp_var rfl (wp_str (r2_ninS ⟨_, rfl, ?_, fun _ => wp_var rfl rfl⟩))))
      simp [offS]
    · rw [if_neg (by decide), off_all]
      have := name_is (l := l)
      rw [← this]
      show _ = isNameS (S l)
      unfold isNameS
      rw [S_len, show (S l).cps.toList = l by simp [SX.S], nb_f h, Bool.true_and]
abbrev sp__law_is_int (K : PySem.W.Frag) : Sp := spP K (pre1 fun x => ∃ i, x = .int i) (post1 fun x r => r = .bl true)
theorem ok__law_is_int (T : Tx P K mg) : FnOk P wd K mg base CX0 1 T.f__law_is_int T.d__law_is_int ["_law_value"] (sp__law_is_int K) := by
  refine fn_P T.F__law_is_int sc__law_is_int (fun ds h => by obtain ⟨_, rfl, _⟩ := pre1_inv h; rfl) (fun cdv A outer s H E hr => ⟨_, (have nd := sc__law_is_int.nd; (pss_one (ps_ret (pe_and (pe_callB call_isi rfl T.m_isinstance (by decide +kernel) (pa_cons (pv 0) (pa_cons (pe_bltn (v := .ty "int") (u := .type "int") rfl T.m_int (by decide +kernel) rfl) pa_nil))) (pe_one (pe_not (pe_callB call_isi rfl T.m_isinstance (by decide +kernel) (pa_cons (pv 0) (pa_cons (pe_bltn (v := .ty "bool") (u := .type "bool") rfl T.m_bool (by decide +kernel) rfl) pa_nil))))))))), fun F0 H0 ds hp => ?_⟩)
  walk_at "s"
  obtain ⟨x, rfl, i, rfl⟩ := pre1_inv hp
  show wps _ _ [.d (.int i)] _ _
  exact wps_ret (wp_andV (wp_isiB (by decide) (wp_var rfl ⟨rfl, _, rfl, ite_t rfl (wp_notV (wp_isiB (by decide) (wp_var rfl ⟨rfl, _, rfl, rfl⟩)))⟩)))
abbrev sp__law_is_state (K : PySem.W.Frag) : Sp := spP K (pre2 fun x y => ∃ n i : Int, x = .int n ∧ y = .int i) (post2 fun x y r => ∀ n i : Int, x = .int n → y = .int i → r = .bl (decide (0 ≤ i) && decide (i < n)))
theorem ok__law_is_state (T : Tx P K mg) : FnOk P wd K mg base CX0 2 T.f__law_is_state T.d__law_is_state ["_law_many", "_law_value"] (sp__law_is_state K) := by
  refine fn_P T.F__law_is_state sc__law_is_state (fun ds h => by obtain ⟨_, _, rfl, _⟩ := pre2_inv h; rfl) (fun cdv A outer s H E hr => ⟨_, (have nd := sc__law_is_state.nd; (pss_one (ps_ret (pe_and (pe_call (ok__law_is_int T) (hr.mono (by decide)) rfl T.g__law_is_int T.F__law_is_int.kp T.b__law_is_int .nil pass0 (pa_cons (pv 1) pa_nil)) (pe_one (pe_chain op_le op_lt pe_int (pv 1) (pv 0))))))), fun F0 H0 ds hp => ?_⟩)
  walk_at "s"
  obtain ⟨x, y, rfl, n, i, rfl, rfl⟩ := pre2_inv hp
  show wps _ _ [.d (.int n), .d (.int i)] _ _
  refine wps_ret (wp_andV (wp_callP (wpa_cons (wp_var rfl (wpa_nil ⟨⟨_, rfl⟩, fun r e => ⟨true, e, ite_t rfl ?_⟩⟩)))))
  refine wp_chainI n (wp_var rfl rfl) (wp_int (wp_var rfl ⟨_, _, rfl, rfl, fun n2 i2 e1 e2 => ?_⟩))
  cases e1
  cases e2
  rfl
end Sd
set_option Elab.async false
set_option linter.all false
set_option maxRecDepth 100000
set_option maxHeartbeats 4000000
namespace Sd
open PySem PySem.Spec L2
open SX (S S_len S_cat S_inj)
open TL (numL joinL spl)
local macro_rules | `(tactic| walk_at "r") => `(tactic| (first | (dsimp only [cxOf, Cx.nox, Cx.wish, Cx.blk]; done) | (dsimp only [cxOf, Cx.nox, Cx.wish, Cx.blk]; rfl) | rfl))
local macro_rules | `(tactic| walk_at "k") => `(tactic| kernel_rfl)
local macro_rules | `(tactic| walk_at "s") => `(tactic| try dsimp only [cxOf, List.map_cons, List.map_nil])
local macro_rules | `(tactic| walk_at "d") => `(tactic| first
  | (with_reducible refine wps_seq ?_)
  | (with_reducible refine wps_ret ?_)
  | (with_reducible refine wps_if ?_)
  | (with_reducible refine wps_next ?_)
  | (with_reducible refine wps_drop ?_)
  | (with_reducible refine wpt_test ?_)
  | (with_reducible refine wpt_B ?_)
  | (with_reducible refine wpt_not ?_)
  | (with_reducible refine wpt_or ?_)
  | (with_reducible refine wpt_and ?_)
  | (with_reducible refine wp_andV ?_)
  | (with_reducible refine wp_orV ?_)
  | (with_reducible refine wp_notV ?_)
  | (refine wp_isiB (by decide) ?_)
  | (with_reducible refine wp_chain ?_)
  | (with_reducible refine wp_op ?_)
  | (with_reducible refine wp_tup ?_)
  | (with_reducible refine wpl_lst ?_)
  | (with_reducible refine wp_m1 ?_)
  | (with_reducible refine wp_m0 ?_)
  | (with_reducible refine wp_cb ?_)
  | (with_reducible refine wpa_cons ?_)
  | (with_reducible refine wpa_nil ?_)
  | (with_reducible refine wp_int ?_)
  | (with_reducible refine wp_str ?_)
  | (with_reducible refine wp_bl ?_)
  | (with_reducible refine wp_non ?_)
  | (refine wp_var rfl ?_)
  | (refine rc_len rfl ?_)
  | (refine r2_ii ?_)
  | (refine r2_ib ?_)
  | (refine ⟨_, rfl, ?_⟩))
variable {P : Program} {wd : World} {mg : Str → Option Value} {base : Heap} {K : PySem.W.Frag}
abbrev sp__law_is_lap (K : PySem.W.Frag) : Sp := spP K (pre3 fun x y z => ∃ (sz st : Int) (p : Pas), x = .int sz ∧ y = .int st ∧ z = pasD p ∧ Ok (pasD p)) (post3 fun x y z r => ∀ (sz st : Int) (p : Pas), x = .int sz → y = .int st → z = pasD p → r = .bl (pasOkC sz st p))
theorem ok__law_is_lap (T : Tx P K mg) : FnOk P wd K mg base CX0 3 T.f__law_is_lap T.d__law_is_lap ["_law_size", "_law_starts", "_law_value"] (sp__law_is_lap K) := by
  refine fn_P T.F__law_is_lap sc__law_is_lap (fun ds h => by obtain ⟨_, _, _, rfl, _⟩ := pre3_inv h; rfl) (fun cdv A outer s H E hr => ⟨_, (have nd := sc__law_is_lap.nd; (pss_cons (ps_if (PW.pt (pw_or (pt_not (pt_val (pe_callB call_isi rfl T.m_isinstance (by decide +kernel) (pa_cons (pv 2) (pa_cons (pe_bltn (v := .ty "tuple") (u := .type "tuple") rfl T.m_tuple (by decide +kernel) rfl) pa_nil))))) (pw_or1 (pt_cmpR op_ne (pe_callB call_len rfl T.m_len (by decide +kernel) (pa_cons (pv 2) pa_nil)) pe_int (nomark _))))) (pss_one (ps_ret pe_bl)) pss_nil)
      (pss_cons (ps_if (PW.pt (pw_or (pt_not (pt_val (pe_callB call_isi rfl T.m_isinstance (by decide +kernel) (pa_cons (pe_ix ix_tup (pv 2) pe_int (fun _ _ => rfl)) (pa_cons (pe_bltn (v := .ty "tuple") (u := .type "tuple") rfl T.m_tuple (by decide +kernel) rfl) pa_nil))))) (pw_or1 (pt_cmpR (op_eqD hr.units) (pe_ix ix_tup (pv 2) pe_int (fun _ _ => rfl)) (pe_tup pa_nil) (nomark _))))) (pss_one (ps_ret pe_bl)) pss_nil)
      (pss_cons (ps_set (i := 3) nd rfl (.inr rfl) (pe_callB call_len rfl T.m_len (by decide +kernel) (pa_cons (pe_ix ix_tup (pv 2) pe_int (fun _ _ => rfl)) pa_nil)))
      (pss_cons (ps_for PassesOwn.never rfl (pi_tup (pe_ix ix_tup (pv 2) pe_int (fun _ _ => rfl))) (pg_name (i := 4) nd rfl (.inl rfl)) (pss_cons (ps_if (PW.pt (pw_or (pt_not (pt_val (pe_callB call_isi rfl T.m_isinstance (by decide +kernel) (pa_cons (pv 4) (pa_cons (pe_bltn (v := .ty "tuple") (u := .type "tuple") rfl T.m_tuple (by decide +kernel) rfl) pa_nil))))) (pw_or1 (pt_cmpR op_ne (pe_callB call_len rfl T.m_len (by decide +kernel) (pa_cons (pv 4) pa_nil)) (pv 0) (nomark _))))) (pss_one (ps_ret pe_bl)) pss_nil)
      (pss_one (ps_for PassesOwn.never rfl (pi_tup (pv 4)) (pg_name (i := 5) nd rfl (.inl rfl)) (pss_cons (ps_if (PW.pt (pw_or (pt_not (pt_val (pe_callB call_isi rfl T.m_isinstance (by decide +kernel) (pa_cons (pv 5) (pa_cons (pe_bltn (v := .ty "tuple") (u := .type "tuple") rfl T.m_tuple (by decide +kernel) rfl) pa_nil))))) (pw_or (pt_cmpR op_ne (pe_callB call_len rfl T.m_len (by decide +kernel) (pa_cons (pv 5) pa_nil)) pe_int (nomark _)) (pw_or1 (pt_not (pt_val (pe_call (ok__law_is_state T) (hr.mono (by decide)) rfl T.g__law_is_state T.F__law_is_state.kp T.b__law_is_state .nil pass0 (pa_cons (pv 3) (pa_cons (pe_ix ix_tup (pv 5) pe_int (fun _ _ => rfl)) pa_nil))))))))) (pss_one (ps_ret pe_bl)) pss_nil)
      (pss_one (ps_if (pt_not (pt_val (pe_call (ok__law_is_int T) (hr.mono (by decide)) rfl T.g__law_is_int T.F__law_is_int.kp T.b__law_is_int .nil pass0 (pa_cons (pe_ix ix_tup (pv 5) pe_int (fun _ _ => rfl)) pa_nil)))) (pss_one (ps_ret pe_bl)) pss_nil)))))))
      (pss_cons (ps_if (PW.pt (pw_or (pt_not (pt_val (pe_callB call_isi rfl T.m_isinstance (by decide +kernel) (pa_cons (pe_ix ix_tup (pv 2) pe_int (fun _ _ => rfl)) (pa_cons (pe_bltn (v := .ty "tuple") (u := .type "tuple") rfl T.m_tuple (by decide +kernel) rfl) pa_nil))))) (pw_or1 (pt_cmpR op_ne (pe_callB call_len rfl T.m_len (by decide +kernel) (pa_cons (pe_ix ix_tup (pv 2) pe_int (fun _ _ => rfl)) pa_nil)) (pv 1) (nomark _))))) (pss_one (ps_ret pe_bl)) pss_nil)
      (pss_one (ps_ret (pe_cmpR (op_eqD hr.units) (pe_lc (own := [("_law_state_here", 6)]) (g := gName 6) rfl nd (pi_tup (pe_ix ix_tup (pv 2) pe_int (fun _ _ => rfl))) (blkOk_by (N := N__law_is_lap) (sc := defScope s__law_is_lap) (by decide +kernel)) (fun _ _ _ _ _ => (pg_name (i := 6) nd rfl (.inl rfl))) (fun _ _ _ _ _ => (castT (pts_one (pt_not (pt_val (pe_call (ok__law_is_state T) (hr.mono (by decide)) rfl T.g__law_is_state T.F__law_is_state.kp T.b__law_is_state .nil pass0 (pa_cons (pv 3) (pa_cons (pv 6) pa_nil)))))) (by walk_at "r"))) (fun _ _ _ _ _ => (castE pe_int (by walk_at "r")))) (pe_lst pa_nil) (nomark _)))))))))), fun F0 H0 ds hp => ?_⟩)
  walk_at "s"
  obtain ⟨x, y, z, rfl, sz, st, p, rfl, rfl, rfl, ho⟩ := pre3_inv hp
  show wps _ _ [.d (.int sz), .d (.int st), .d (pasD p), .no, .no, .no, .no] _ _
  have fin : ∀ {b : Bool}, b = pasOkC sz st p → ∀ (s2 t2 : Int) (p2 : Pas), D.int sz = .int s2 → D.int st = .int t2 → pasD p = pasD p2 → D.bl b = .bl (pasOkC s2 t2 p2) := fun e s2 t2 p2 e1 e2 e3 => by
    cases e1
    cases e2
    rw [e, pasD_inj e3]
  have o2 : Ok (rowsD p.2) := ho.tup.2 _ (by simp)
  have o1 : Ok (intsD p.1) := ho.tup.2 _ (by simp)
  have l1 : p.1.length ≤ 1000000 := by simpa using o1.tup.1
  have l2 : p.2.length ≤ 1000000 := by simpa using o2.tup.1
  refine wps_seq (wps_ifD false (wpt_orD (b := false) (c := false) ?_ fun _ => ?_) (fun h => nomatch h) (fun _ => wps_next ?_))
  · exact wpt_notD (b := true) (wpt_B (wp_isiB (by decide) (wp_var rfl ⟨rfl, _, rfl, rfl⟩)))
  · exact wpt_test (wp_op (wp_cb (wpa_cons (wp_var rfl (wpa_nil (rc_len rfl (wp_int (r2_neI ⟨_, rfl, by simp⟩))))))))
  refine wps_seq (wps_ifD p.2.isEmpty ((wpt_orD (b := false) (c := p.2.isEmpty) ?_ fun _ => ?_).imp fun c e => e) (fun h => ?_) (fun h0 => wps_next ?_))
  · exact wpt_notD (b := true) (wpt_B (wp_isiB (by decide) (wp_op (wp_var rfl (wp_int (r2_ixT rfl ⟨rfl, _, rfl, rfl⟩))))))
  · refine wpt_test (wp_op (wp_op (wp_var rfl (wp_int (r2_ixT rfl (wp_tup (wpa_nil ⟨by simp, r2_eqD o2.cmp ok_nil.cmp ⟨_, rfl, ?_⟩⟩)))))))
    show eqvD (.tup (p.2.map rowD)) (.tup []) = _
    rw [eqv_nil]
    cases p.2 <;> rfl
  · refine wps_ret (wp_bl (fin ?_))
    unfold pasOkC
    rw [h]
    rfl
  refine wps_seq (wps_asgV (.int p.2.length) (wp_cb (wpa_cons (wp_op (wp_var rfl (wp_int (r2_ixT rfl (wpa_nil (rc_len rfl (by rw [List.length_map]))))))))) ?_)
  show wps _ _ [.d (.int sz), .d (.int st), .d (pasD p), .d (.int p.2.length), .no, .no, .no] _ _
  let rowOk : Row → Bool := fun r => decide ((r.length : Int) = sz) && r.all fun q => decide (0 ≤ q.1) && decide (q.1 < p.2.length)
  refine wps_seq (wps_for (ts := [4]) (wpi_tup (wp_op (wp_var rfl (wp_int (r2_ixT rfl ⟨_, rfl, ?_⟩))))))
  refine ⟨fun i G => ∃ z4 z5 : Ent, G = [.d (.int sz), .d (.int st), .d (pasD p), .d (.int p.2.length), z4, z5, .no] ∧ (p.2.take i).all rowOk = true, ⟨.no, .no, rfl, rfl⟩, fun i d G hd hI => ?_, fun G hI => ?_⟩
  · obtain ⟨z4, z5, rfl, hall⟩ := hI
    obtain ⟨r, hr, rfl⟩ := map_at hd
    have hrm : rowD r ∈ p.2.map rowD := List.mem_map.mpr ⟨r, List.mem_of_getElem? hr, rfl⟩
    have orow : Ok (rowD r) := o2.tup.2 _ hrm
    have lr : r.length ≤ 1000000 := by simpa using orow.tup.1
    have bad : rowOk r = false → p.2.all rowOk = false := fun h => by
      cases e : p.2.all rowOk with
      | false => rfl
      | true => rw [List.all_eq_true.mp e r (List.mem_of_getElem? hr)] at h; cases h
    have badP : rowOk r = false → false = pasOkC sz st p := fun h' => by
      unfold pasOkC
      rw [show (p.2.all fun r => decide ((r.length : Int) = sz) && r.all fun q => decide (0 ≤ q.1) && decide (q.1 < p.2.length)) = false from bad h']
      simp
    refine wpg_name (by simp) ?_
    show wps _ _ [.d (.int sz), .d (.int st), .d (pasD p), .d (.int p.2.length), .d (rowD r), z5, .no] _ _
    refine wps_seq (wps_ifD (!decide ((r.length : Int) = sz)) ((wpt_orD (b := false) (c := !decide ((r.length : Int) = sz)) ?_ fun _ => ?_).imp fun c e => e) (fun h => ?_) (fun h => wps_next ?_))
    · exact wpt_notD (b := true) (wpt_B (wp_isiB (by decide) (wp_var rfl ⟨rfl, _, rfl, rfl⟩)))
    · exact wpt_test (wp_op (wp_cb (wpa_cons (wp_var rfl (wpa_nil (rc_len rfl (wp_var rfl (r2_neI ⟨_, rfl, by rw [List.length_map]⟩))))))))
    · refine wps_ret (wp_bl (fin (badP ?_)))
      show (decide ((r.length : Int) = sz) && _) = false
      rw [nb_t h]
      rfl
    have hsz := nb_f h
    refine wps_for (ts := [5]) (wpi_tup (wp_var rfl ⟨_, rfl, ?_⟩))
    refine ⟨fun k G => ∃ z5 : Ent, G = [.d (.int sz), .d (.int st), .d (pasD p), .d (.int p.2.length), .d (rowD r), z5, .no] ∧ (r.take k).all (fun q => decide (0 ≤ q.1) && decide (q.1 < p.2.length)) = true, ⟨_, rfl, rfl⟩, fun k d G hd hK => ?_, fun G hK => ?_⟩
    · obtain ⟨z5, rfl, hka⟩ := hK
      obtain ⟨qq, hq, rfl⟩ := map_at hd
      refine wpg_name (by simp) ?_
      show wps _ _ [.d (.int sz), .d (.int st), .d (pasD p), .d (.int p.2.length), .d (rowD r), .d (pairD qq), .no] _ _
      refine wps_seq (wps_ifD (!(decide (0 ≤ qq.1) && decide (qq.1 < p.2.length))) ((wpt_orD (b := false) (c := !(decide (0 ≤ qq.1) && decide (qq.1 < p.2.length))) ?_ fun _ => (wpt_orD (b := false) (c := !(decide (0 ≤ qq.1) && decide (qq.1 < p.2.length))) ?_ fun _ => ?_).imp fun c e => e).imp fun c e => e) (fun h => ?_) (fun h => wps_next ?_))
      · exact wpt_notD (b := true) (wpt_B (wp_isiB (by decide) (wp_var rfl ⟨rfl, _, rfl, rfl⟩)))
      · exact wpt_test (wp_op (wp_cb (wpa_cons (wp_var rfl (wpa_nil (rc_len rfl (wp_int (r2_neI ⟨_, rfl, by simp⟩))))))))
      · exact wpt_notD (wpt_B (wp_callP (wpa_cons (wp_var rfl (wpa_cons (wp_op (wp_var rfl (wp_int (r2_ixT rfl (wpa_nil ⟨⟨_, _, rfl, rfl⟩, fun r e => ⟨_, e _ _ rfl rfl, rfl⟩⟩))))))))))
      · refine wps_ret (wp_bl (fin (badP ?_)))
        show (decide ((r.length : Int) = sz) && _) = false
        cases e : (r.all fun q => decide (0 ≤ q.1) && decide (q.1 < (p.2.length : Int))) with
        | false => simp
        | true =>
          have := List.all_eq_true.mp e qq (List.mem_of_getElem? hq)
          rw [nb_t h] at this
          cases this
      · refine wps_ifD false ?_ (fun h => nomatch h) (fun _ => wps_next ⟨_, rfl, ?_⟩)
        · exact wpt_notD (b := true) (wpt_B (wp_callP (wpa_cons (wp_op (wp_var rfl (wp_int (r2_ixT rfl (wpa_nil ⟨⟨_, rfl⟩, fun r e => ⟨_, e, rfl⟩⟩))))))))
        · rw [List.take_add_one, hq, List.all_append, hka]
          have hh := nb_f h
          simpa using hh
    · obtain ⟨z5, rfl, hka⟩ := hK
      rw [List.length_map, List.take_of_length_le (Nat.le_refl _)] at hka
      refine ⟨_, _, rfl, ?_⟩
      rw [List.take_add_one, hr, List.all_append, hall]
      have : rowOk r = true := by
        show (decide ((r.length : Int) = sz) && _) = true
        rw [hsz, hka]
        rfl
      simp [this]
  · obtain ⟨z4, z5, rfl, hall⟩ := hI
    rw [List.length_map, List.take_of_length_le (Nat.le_refl _)] at hall
    have hall' : (p.2.all fun r => decide ((r.length : Int) = sz) && r.all fun q => decide (0 ≤ q.1) && decide (q.1 < p.2.length)) = true := hall
    refine wps_seq (wps_ifD (!decide ((p.1.length : Int) = st)) ((wpt_orD (b := false) (c := !decide ((p.1.length : Int) = st)) ?_ fun _ => ?_).imp fun c e => e) (fun h => ?_) (fun h => wps_next ?_))
    · exact wpt_notD (b := true) (wpt_B (wp_isiB (by decide) (wp_op (wp_var rfl (wp_int (r2_ixT rfl ⟨rfl, _, rfl, rfl⟩))))))
    · exact wpt_test (wp_op (wp_cb (wpa_cons (wp_op (wp_var rfl (wp_int (r2_ixT rfl (wpa_nil (rc_len rfl (wp_var rfl (r2_neI ⟨_, rfl, by rw [List.length_map]⟩)))))))))))
    · refine wps_ret (wp_bl (fin ?_))
      unfold pasOkC
      rw [nb_t h]
      simp
    · refine wps_ret (wp_emptyLc false (fun d => match d with | .int i => !(decide (0 ≤ i) && decide (i < p.2.length)) | _ => false) (fun _ => .int 1) rfl (wpi_tup (wp_op (wp_var rfl (wp_int (r2_ixT rfl ⟨_, rfl, ?_⟩))))))
      refine ⟨by rw [List.length_map]; exact l1, fun d _ => int_fd 1, fun d a o hd => ?_, fin ?_⟩
      · obtain ⟨i, hi, rfl⟩ := List.mem_map.mp hd
        exact wpt_not (wpt_B (wp_callP (wpa_cons (wp_var rfl (wpa_cons (wp_var rfl (wpa_nil ⟨⟨_, _, rfl, rfl⟩, fun r e => ⟨_, e _ _ rfl rfl, rfl, fun _ => wp_int rfl⟩⟩)))))))
      · rw [if_neg (by decide), List.all_map]
        unfold pasOkC
        rw [h0, hall', nb_f h]
        simp only [Bool.not_false, Bool.true_and]
        congr 1
        funext i
        simp
abbrev sp__law_wrong_part (K : PySem.W.Frag) : Sp := spP K (pre3 fun x y z => ∃ s : RS, x = s.kD ∧ y = s.pD ∧ z = s.tD ∧ RsOk 100000 s) (post3 fun x y z r => ∀ s : RS, x = s.kD → y = s.pD → z = s.tD → r = (match s.wrong with | some p => .str p | none => .non))
theorem ok__law_wrong_part (T : Tx P K mg) : FnOk P wd K mg base CX0 4 T.f__law_wrong_part T.d__law_wrong_part ["_law_sorts", "_law_laps", "_law_says"] (sp__law_wrong_part K) := by
  refine fn_P T.F__law_wrong_part sc__law_wrong_part (fun ds h => by obtain ⟨_, _, _, rfl, _⟩ := pre3_inv h; rfl) (fun cdv A outer s H E hr => ⟨_, (have nd := sc__law_wrong_part.nd; (pss_cons (ps_if (PW.pt (pw_or (pt_not (pt_val (pe_callB call_isi rfl T.m_isinstance (by decide +kernel) (pa_cons (pv 0) (pa_cons (pe_bltn (v := .ty "tuple") (u := .type "tuple") rfl T.m_tuple (by decide +kernel) rfl) pa_nil))))) (pw_or1 (pt_not (pt_chain op_le op_le pe_int (pe_callB call_len rfl T.m_len (by decide +kernel) (pa_cons (pv 0) pa_nil)) pe_int))))) (pss_one (ps_ret pe_str)) pss_nil)
      (pss_cons (ps_if (pt_cmpR (op_neD hr.units) (pe_lc (own := [("_law_one", 3)]) (g := gName 3) rfl nd (pi_tup (pv 0)) (blkOk_by (N := N__law_wrong_part) (sc := defScope s__law_wrong_part) (by decide +kernel)) (fun _ _ _ _ _ => (pg_name (i := 3) nd rfl (.inl rfl))) (fun _ _ _ _ _ => (castT (pts_one (pt_not (pt_val (pe_call (ok__law_is_name T) (hr.mono (by decide)) rfl T.g__law_is_name T.F__law_is_name.kp T.b__law_is_name .nil pass0 (pa_cons (pv 3) pa_nil))))) (by walk_at "r"))) (fun _ _ _ _ _ => (castE pe_int (by walk_at "r")))) (pe_lst pa_nil) (nomark _)) (pss_one (ps_ret pe_str)) pss_nil)
      (pss_cons (ps_if (pt_cmpR (op_neD hr.units) (pe_lc (own := [("_law_one", 3), ("_law_other", 4)]) (g := gTup _ 2 (gCons (gName 3) (gCons (gName 4) gNil))) rfl nd (RZ.pi_zipA rfl T.m_zip (pa_cons (pv 0) (pa_cons (pe_slice sl_tupA (pv 0) (po_some pe_int) po_none) pa_nil))) (blkOk_by (N := N__law_wrong_part) (sc := defScope s__law_wrong_part) (by decide +kernel)) (fun _ _ _ _ _ => (pg_tup rfl (pgs_cons (pg_name (i := 3) nd rfl (.inl rfl)) (pgs_cons (pg_name (i := 4) nd rfl (.inl rfl)) pgs_nil)))) (fun _ _ _ _ _ => (castT (pts_one (pt_not (pt_cmpR op_lt_str (pv 3) (pv 4) (nomark _)))) (by walk_at "r"))) (fun _ _ _ _ _ => (castE pe_int (by walk_at "r")))) (pe_lst pa_nil) (nomark _)) (pss_one (ps_ret pe_str)) pss_nil)
      (pss_cons (ps_if (PW.pt (pw_or (pt_not (pt_val (pe_callB call_isi rfl T.m_isinstance (by decide +kernel) (pa_cons (pv 1) (pa_cons (pe_bltn (v := .ty "tuple") (u := .type "tuple") rfl T.m_tuple (by decide +kernel) rfl) pa_nil))))) (pw_or1 (pt_not (pt_chain op_le op_le pe_int (pe_callB call_len rfl T.m_len (by decide +kernel) (pa_cons (pv 1) pa_nil)) pe_int))))) (pss_one (ps_ret pe_str)) pss_nil)
      (pss_cons (ps_if (pt_not (pt_val (pe_call (ok__law_is_lap T) (hr.mono (by decide)) rfl T.g__law_is_lap T.F__law_is_lap.kp T.b__law_is_lap .nil pass0 (pa_cons (pe_callB call_len rfl T.m_len (by decide +kernel) (pa_cons (pv 0) pa_nil)) (pa_cons pe_int (pa_cons (pe_ix ix_tup (pv 1) pe_int (fun _ _ => rfl)) pa_nil)))))) (pss_one (ps_ret pe_str)) pss_nil)
      (pss_cons (ps_if (PW.pt (pw_and (pt_cmpR op_eq (pe_callB call_len rfl T.m_len (by decide +kernel) (pa_cons (pv 1) pa_nil)) pe_int (nomark _)) (pw_and1 (pt_not (pt_val (pe_call (ok__law_is_lap T) (hr.mono (by decide)) rfl T.g__law_is_lap T.F__law_is_lap.kp T.b__law_is_lap .nil pass0 (pa_cons (pe_callB call_len rfl T.m_len (by decide +kernel) (pa_cons (pv 0) pa_nil)) (pa_cons (pe_callB call_len rfl T.m_len (by decide +kernel) (pa_cons (pe_ix ix_tup (pe_ix ix_tup (pv 1) pe_int (fun _ _ => rfl)) pe_int (fun _ _ => rfl)) pa_nil)) (pa_cons (pe_ix ix_tup (pv 1) pe_int (fun _ _ => rfl)) pa_nil))))))))) (pss_one (ps_ret pe_str)) pss_nil)
      (pss_cons (ps_if (PW.pt (pw_or (pt_not (pt_val (pe_callB call_isi rfl T.m_isinstance (by decide +kernel) (pa_cons (pv 2) (pa_cons (pe_bltn (v := .ty "tuple") (u := .type "tuple") rfl T.m_tuple (by decide +kernel) rfl) pa_nil))))) (pw_or1 (pt_cmpR op_ne (pe_callB call_len rfl T.m_len (by decide +kernel) (pa_cons (pv 2) pa_nil)) (pe_callB call_len rfl T.m_len (by decide +kernel) (pa_cons (pe_ix ix_tup (pe_ix ix_tup (pv 1) (pe_un un_neg pe_int) (fun _ _ => rfl)) pe_int (fun _ _ => rfl)) pa_nil)) (nomark _))))) (pss_one (ps_ret pe_str)) pss_nil)
      (pss_cons (ps_for PassesOwn.never rfl (pi_tup (pv 2)) (pg_name (i := 3) nd rfl (.inl rfl)) (pss_cons (ps_if (PW.pt (pw_or (pt_not (pt_val (pe_callB call_isi rfl T.m_isinstance (by decide +kernel) (pa_cons (pv 3) (pa_cons (pe_bltn (v := .ty "tuple") (u := .type "tuple") rfl T.m_tuple (by decide +kernel) rfl) pa_nil))))) (pw_or1 (pt_cmpR op_ne (pe_callB call_len rfl T.m_len (by decide +kernel) (pa_cons (pv 3) pa_nil)) pe_int (nomark _))))) (pss_one (ps_ret pe_str)) pss_nil)
      (pss_one (ps_if (PW.pt (pw_or (pt_not (pt_val (pe_call (ok__law_is_name T) (hr.mono (by decide)) rfl T.g__law_is_name T.F__law_is_name.kp T.b__law_is_name .nil pass0 (pa_cons (pe_ix ix_seq (pv 3) pe_int (fun _ _ => rfl)) pa_nil)))) (pw_or1 (pt_not (pt_val (pe_call (ok__law_is_int T) (hr.mono (by decide)) rfl T.g__law_is_int T.F__law_is_int.kp T.b__law_is_int .nil pass0 (pa_cons (pe_ix ix_seq (pv 3) pe_int (fun _ _ => rfl)) pa_nil))))))) (pss_one (ps_ret pe_str)) pss_nil))))
      (pss_one (ps_ret pe_non))))))))))), fun F0 H0 ds hp => ?_⟩)
  walk_at "s"
  obtain ⟨x, y, z, rfl, s, rfl, rfl, rfl, hs⟩ := pre3_inv hp
  obtain ⟨ok1, ok2, ok3⟩ := hs.fdP (by omega)
  have fin : ∀ {r : D}, r = (match s.wrong with | some p => D.str p | none => .non) → ∀ s2 : RS, s.kD = s2.kD → s.pD = s2.pD → s.tD = s2.tD → r = (match s2.wrong with | some p => D.str p | none => .non) := fun e s2 e1 e2 e3 => by rw [e, rs_inj e1 e2 e3]
  have lk : s.ks.length ≤ 3000 := hs.k.1
  have lp : s.ps.length ≤ 100000 := hs.p.1
  have lt : s.ts.length ≤ 100000 := hs.t.1
  have nk : s.ks.all nameC = true := List.all_eq_true.mpr hs.k.2
  have ek : areKindsD s.kD = (decide (1 ≤ s.ks.length) && decide (s.ks.length ≤ 4) && ascD (s.ks.map strD)) := by
    show (decide (1 ≤ (s.ks.map strD).length) && decide ((s.ks.map strD).length ≤ 4) && (s.ks.map strD).all isNameD && ascD (s.ks.map strD)) = _
    rw [List.length_map, List.all_map, show (isNameD ∘ strD) = nameC from funext fun l => name_is, nk, Bool.and_true]
  show wps _ _ [.d s.kD, .d s.pD, .d s.tD, .no, .no] _ _
  refine wps_seq (wps_ifD (!(decide (1 ≤ s.ks.length) && decide (s.ks.length ≤ 4))) ((wpt_orD (b := false) (c := !(decide (1 ≤ s.ks.length) && decide (s.ks.length ≤ 4))) ?_ fun _ => ?_).imp fun c e => e) (fun h => ?_) (fun h1 => wps_next ?_))
  · exact wpt_notD (b := true) (wpt_B (wp_isiB (by decide) (wp_var rfl ⟨rfl, _, rfl, rfl⟩)))
  · refine wpt_notD (wpt_test (wp_chainI 4 (wp_int rfl) (wp_int (wp_cb (wpa_cons (wp_var rfl (wpa_nil (rc_len rfl ⟨1, _, rfl, rfl, _, rfl, ?_⟩))))))))
    rw [List.length_map]
    congr 1 <;> exact decide_eq_decide.mpr (by omega)
  · refine wps_ret (wp_str (fin ?_))
    unfold RS.wrong wrongD
    rw [if_neg (by rw [ek, nb_t h]; exact Bool.noConfusion)]
  have h1 := nb_f h1
  refine wps_seq (wps_ifD false ?_ (fun h => nomatch h) (fun _ => wps_next ?_))
  · refine wpt_test (wp_emptyLc true (fun d => match d with | .str x => !isNameS x | _ => false) (fun _ => .int 1) rfl (wpi_tup (wp_var rfl ⟨_, rfl, ?_⟩)))
    refine ⟨by rw [List.length_map]; omega, fun d _ => int_fd 1, fun d a o hd => ?_, _, rfl, ?_⟩
    · obtain ⟨l, hl, rfl⟩ := List.mem_map.mp hd
      have hn := hs.k.2 l hl
      refine wpt_not (wpt_B (wp_callP (wpa_cons (wp_var rfl (wpa_nil ⟨⟨l, rfl, by have := (nameC_iff.mp hn).1.2; omega, name_sign hn⟩, fun r e => ⟨_, e l rfl, ?_, fun _ => wp_int rfl⟩⟩)))))
      show (!nameC l) = !isNameS (S l)
      rw [← name_is]
      rfl
    · rw [if_pos rfl, List.all_map]
      have : (s.ks.all ((fun d => !(match d with | D.str x => !isNameS x | _ => false)) ∘ strD)) = true := by
        rw [← nk]
        congr 1
        funext l
        show (!!isNameS (S l)) = nameC l
        rw [Bool.not_not, ← name_is]
        rfl
      rw [this]
      rfl
  have zl : (zipD (s.ks.map strD) ((s.ks.map strD).drop 1)).all ltP = ascD (s.ks.map strD) := asc_zip (by rw [List.all_map, show (isNameD ∘ strD) = nameC from funext fun l => name_is]; exact nk)
  refine wps_seq (wps_ifD (!ascD (s.ks.map strD)) ?_ (fun h => ?_) (fun h2 => wps_next ?_))
  · refine wpt_test (wp_emptyLc2 (fun d => !ltP d) (fun _ => .int 1) rfl rfl (wpi_zipT (wpa_cons (wp_var rfl (wpa_cons (wp_sl (wp_var rfl (wpo_some (wp_int ⟨1, rfl, wpo_none (rs_tup (wpa_nil ⟨s.ks.map strD, (s.ks.map strD).drop 1, by rw [cut1]; rfl, ?_⟩))⟩)))))))))
    show (zipD (s.ks.map strD) ((s.ks.map strD).drop 1)).length ≤ 1000000 ∧ _
    refine ⟨by rw [zipD_len, List.length_map]; omega, fun d _ => int_fd 1, fun d a o hd => ?_, _, rfl, ?_⟩
    · obtain ⟨x, y, rfl, hx, hy⟩ := zipD_mem hd
      obtain ⟨l, hl, rfl⟩ := List.mem_map.mp hx
      obtain ⟨l2, hl2, rfl⟩ := List.mem_map.mp (List.mem_of_mem_drop hy)
      exact ⟨_, _, rfl, wpt_not (wpt_test (wp_op (wp_var rfl (wp_var rfl (r2_lts ⟨_, rfl, rfl, fun _ => wp_int rfl⟩)))))⟩
    · show (!((zipD (s.ks.map strD) ((s.ks.map strD).drop 1)).all fun d => !!ltP d)) = _
      simp only [Bool.not_not]
      rw [zl]
  · refine wps_ret (wp_str (fin ?_))
    unfold RS.wrong wrongD
    rw [if_neg (by rw [ek, nb_t h, Bool.and_false]; exact Bool.noConfusion)]
  have h2 := nb_f h2
  have hk : areKindsD s.kD = true := by rw [ek, h1, h2]; rfl
  have ew : s.wrong = if arePassesD (lenT s.kD) s.pD = true then if tellsD s.pD s.tD = true then none else some ("tells" : Str) else some ("passes" : Str) := by
    unfold RS.wrong wrongD
    rw [if_pos hk]
  have lkD : (lenT s.kD : Int) = s.ks.length := by
    show ((s.ks.map strD).length : Int) = _
    rw [List.length_map]
  rw [lkD] at ew
  have badP : arePassesD s.ks.length s.pD = false → ∀ s2 : RS, s.kD = s2.kD → s.pD = s2.pD → s.tD = s2.tD → D.str "passes" = (match s2.wrong with | some p => D.str p | none => .non) := fun h => fin (by rw [ew, if_neg (by rw [h]; exact Bool.noConfusion)])
  refine wps_seq (wps_ifD (!(decide (1 ≤ s.ps.length) && decide (s.ps.length ≤ 2))) ((wpt_orD (b := false) (c := !(decide (1 ≤ s.ps.length) && decide (s.ps.length ≤ 2))) ?_ fun _ => ?_).imp fun c e => e) (fun h => ?_) (fun h3 => wps_next ?_))
  · exact wpt_notD (b := true) (wpt_B (wp_isiB (by decide) (wp_var rfl ⟨rfl, _, rfl, rfl⟩)))
  · refine wpt_notD (wpt_test (wp_chainI 2 (wp_int rfl) (wp_int (wp_cb (wpa_cons (wp_var rfl (wpa_nil (rc_len rfl ⟨1, _, rfl, rfl, _, rfl, ?_⟩))))))))
    rw [List.length_map]
    congr 1 <;> exact decide_eq_decide.mpr (by omega)
  · refine wps_ret (wp_str (badP ?_))
    have h := nb_t h
    show arePassesD s.ks.length (.tup (s.ps.map pasD)) = false
    rcases hp0 : s.ps with _ | ⟨a, _ | ⟨b, _ | ⟨c, r⟩⟩⟩
    · rfl
    · rw [hp0] at h; cases h
    · rw [hp0] at h; cases h
    · simp [arePassesD]
  have h3 := nb_f h3
  obtain ⟨p0, pr, hp0, hpr⟩ : ∃ p0 pr, s.ps = p0 :: pr ∧ pr.length ≤ 1 := by
    rcases hp0 : s.ps with _ | ⟨a, r⟩
    · rw [hp0] at h3; cases h3
    · refine ⟨a, r, rfl, ?_⟩
      rw [hp0] at h3
      have := of_decide_eq_true (Bool.and_eq_true_iff.mp h3).2
      simpa using this
  have epD : s.pD = .tup (pasD p0 :: pr.map pasD) := by
    show D.tup (s.ps.map pasD) = _
    rw [hp0]
    rfl
  have eP : arePassesD s.ks.length s.pD = (pasOkC s.ks.length 1 p0 && pr.all (fun q => pasOkC s.ks.length p0.2.length q)) := by
    rw [epD]
    show (decide ((pr.map pasD).length ≤ 1) && isPassD s.ks.length 1 (pasD p0) && (pr.map pasD).all (isPassD s.ks.length (lenT (rowsOf (pasD p0))))) = _
    rw [List.length_map, decide_eq_true hpr, Bool.true_and, pass_pas, List.all_map]
    congr 2
    funext q
    show isPassD s.ks.length (lenT (rowsD p0.2)) (pasD q) = _
    rw [pass_pas]
    show pasOkC _ (((p0.2.map rowD).length : Nat) : Int) q = _
    rw [List.length_map]
  have okp : ∀ q ∈ s.ps, Ok (pasD q) := fun q hq => ok2.tup.2 _ (List.mem_map.mpr ⟨q, hq, rfl⟩)
  have o0 : Ok (pasD p0) := okp p0 (by rw [hp0]; simp)
  refine wps_seq (wps_ifD (!pasOkC s.ks.length 1 p0) ?_ (fun h => ?_) (fun h4 => wps_next ?_))
  · refine wpt_notD (wpt_B (wp_callP (wpa_cons (wp_cb (wpa_cons (wp_var rfl (wpa_nil (rc_len rfl (wpa_cons (wp_int (wpa_cons (wp_op (wp_var rfl (wp_int ?_))))))))))))))
    rw [epD]
    refine r2_ixT (at0 _ _) (wpa_nil ⟨⟨_, _, p0, rfl, rfl, rfl, o0⟩, fun r e => ⟨_, e _ _ _ rfl rfl rfl, by rw [List.length_map]⟩⟩)
  · refine wps_ret (wp_str (badP ?_))
    rw [eP, nb_t h]
    rfl
  have h4 := nb_f h4
  refine wps_seq (wps_ifD (!pr.all (fun q => pasOkC s.ks.length p0.2.length q)) ?_ (fun h => ?_) (fun h5 => wps_next ?_))
  · rcases pr with _ | ⟨q, _ | ⟨q2, r⟩⟩
    · refine wpt_and (wpt_test (wp_op (wp_cb (wpa_cons (wp_var rfl (wpa_nil (rc_len (n := 1) (by rw [epD]; rfl) (wp_int (r2_eqI ⟨_, rfl, iteF rfl⟩)))))))))
    · have oq : Ok (pasD q) := okp q (by rw [hp0]; simp)
      refine wpt_and (wpt_test (wp_op (wp_cb (wpa_cons (wp_var rfl (wpa_nil (rc_len (n := 2) (by rw [epD]; rfl) (wp_int (r2_eqI ⟨_, rfl, iteT ?_⟩)))))))))
      refine wpt_notD (wpt_B (wp_callP (wpa_cons (wp_cb (wpa_cons (wp_var rfl (wpa_nil (rc_len rfl ?_))))))))
      refine wpa_cons (wp_cb (wpa_cons (wp_op (wp_op (wp_var rfl (wp_int ?_))))))
      rw [epD]
      refine r2_ixT (at0 _ _) (wp_int (r2_ixT rfl (wpa_nil (rc_len rfl ?_))))
      refine wpa_cons (wp_op (wp_var rfl (wp_int ?_)))
      refine r2_ixT (d := pasD q) rfl (wpa_nil ⟨⟨_, _, q, rfl, rfl, rfl, oq⟩, fun r e => ⟨_, e _ _ _ rfl rfl rfl, ?_⟩⟩)
      rw [List.length_map, List.length_map]
      simp
    · simp at hpr
  · refine wps_ret (wp_str (badP ?_))
    rw [eP, nb_t h, Bool.and_false]
  have h5 := nb_f h5
  have hP : arePassesD s.ks.length s.pD = true := by rw [eP, h4, h5]; rfl
  rw [if_pos hP] at ew
  obtain ⟨xs, bs, rows, exs, e1, e2, b, e3⟩ := passes_last hP
  rw [exs] at ew
  have eT : tellsD (.tup xs) s.tD = decide (s.ts.length = rows.length) := by
    show (decide ((s.ts.map telD).length = lenT (rowsOf (lastD (.tup xs)))) && (s.ts.map telD).all isTellD) = _
    rw [← exs, e2, List.length_map]
    have : (s.ts.map telD).all isTellD = true := by
      rw [List.all_map]
      refine List.all_eq_true.mpr fun t ht => ?_
      show (isNameD (strD t.1) && true) = true
      rw [name_is, hs.t.2 t ht]
      rfl
    rw [this, Bool.and_true]
    rfl
  rw [eT] at ew
  refine wps_seq (wps_ifD (!decide (s.ts.length = rows.length)) ((wpt_orD (b := false) (c := !decide (s.ts.length = rows.length)) ?_ fun _ => ?_).imp fun c e => e) (fun h => ?_) (fun h6 => wps_next ?_))
  · exact wpt_notD (b := true) (wpt_B (wp_isiB (by decide) (wp_var rfl ⟨rfl, _, rfl, rfl⟩)))
  · refine wpt_test (wp_op (wp_cb (wpa_cons (wp_var rfl (wpa_nil (rc_len rfl ?_))))))
    rw [exs]
    refine wp_cb (wpa_cons (wp_op (wp_op (wp_var rfl (wp_un (wp_int (ru_ii (r2_ixT e1 (wp_int (r2_ixT rfl ?_))))))))))
    refine wpa_nil (rc_len rfl (r2_neI ⟨_, rfl, ?_⟩))
    rw [List.length_map]
    congr 1
    exact decide_eq_decide.mpr (by omega)
  · refine wps_ret (wp_str (fin ?_))
    rw [ew, if_neg (by rw [nb_t h]; exact Bool.noConfusion)]
  rw [if_pos (nb_f h6)] at ew
  refine wps_seq (wps_for (ts := [3]) (wpi_tup (wp_var rfl ⟨_, rfl, ?_⟩)))
  refine ⟨fun i G => ∃ z3 : Ent, G = [.d s.kD, .d s.pD, .d s.tD, z3, .no], ⟨_, rfl⟩, fun i d G hd hI => ?_, fun G hI => ?_⟩
  · obtain ⟨z3, rfl⟩ := hI
    obtain ⟨t, ht, rfl⟩ := map_at hd
    have hn := hs.t.2 t (List.mem_of_getElem? ht)
    refine wpg_name (by simp) ?_
    show wps _ _ [.d s.kD, .d s.pD, .d s.tD, .d (telD t), .no] _ _
    refine wps_seq (wps_ifD false (wpt_orD (b := false) (c := false) ?_ fun _ => ?_) (fun h => nomatch h) (fun _ => wps_next ?_))
    · exact wpt_notD (b := true) (wpt_B (wp_isiB (by decide) (wp_var rfl ⟨rfl, _, rfl, rfl⟩)))
    · exact wpt_test (wp_op (wp_cb (wpa_cons (wp_var rfl (wpa_nil (rc_len rfl (wp_int (r2_neI ⟨_, rfl, by simp⟩))))))))
    refine wps_ifD false (wpt_orD (b := false) (c := false) ?_ fun _ => ?_) (fun h => nomatch h) (fun _ => wps_next ⟨_, rfl⟩)
    · refine wpt_notD (b := true) (wpt_B (wp_callP (wpa_cons (wp_op (wp_var rfl (wp_int (r2_ixA (d := strD t.1) (i := 0) rfl (by simp [telD, itemsP]) (wpa_nil ⟨⟨t.1, rfl, by have := (nameC_iff.mp hn).1.2; omega, name_sign hn⟩, fun r e => ⟨_, e _ rfl, hn⟩⟩))))))))
    · exact wpt_notD (b := true) (wpt_B (wp_callP (wpa_cons (wp_op (wp_var rfl (wp_int (r2_ixA (d := .int t.2) (i := 1) rfl (by simp [telD, itemsP]) (wpa_nil ⟨⟨_, rfl⟩, fun r e => ⟨_, e, rfl⟩⟩))))))))
  · obtain ⟨z3, rfl⟩ := hI
    exact wps_ret (wp_non (fin (by rw [ew])))
end Sd
set_option Elab.async false
set_option linter.all false
set_option maxRecDepth 100000
set_option maxHeartbeats 4000000
namespace Sd
open PySem PySem.Spec L2
open SX (S S_len S_cat S_inj)
open TL (numL joinL spl)
local macro_rules | `(tactic| walk_at "r") => `(tactic| (first | (dsimp only [cxOf, Cx.nox, Cx.wish, Cx.blk]; done) | (dsimp only [cxOf, Cx.nox, Cx.wish, Cx.blk]; rfl) | rfl))
local macro_rules | `(tactic| walk_at "k") => `(tactic| kernel_rfl)
local macro_rules | `(tactic| walk_at "s") => `(tactic| try dsimp only [cxOf, List.map_cons, List.map_nil])
local macro_rules | `(tactic| walk_at "d") => `(tactic| first
  | (with_reducible refine wps_seq ?_)
  | (with_reducible refine wps_ret ?_)
  | (with_reducible refine wps_if ?_)
  | (with_reducible refine wps_next ?_)
  | (with_reducible refine wps_drop ?_)
  | (with_reducible refine wpt_test ?_)
  | (with_reducible refine wpt_B ?_)
  | (with_reducible refine wpt_not ?_)
  | (with_reducible refine wpt_or ?_)
  | (with_reducible refine wpt_and ?_)
  | (with_reducible refine wp_andV ?_)
  | (with_reducible refine wp_orV ?_)
  | (with_reducible refine wp_notV ?_)
  | (refine wp_isiB (by decide) ?_)
  | (with_reducible refine wp_chain ?_)
  | (with_reducible refine wp_op ?_)
  | (with_reducible refine wp_tup ?_)
  | (with_reducible refine wpl_lst ?_)
  | (with_reducible refine wp_m1 ?_)
  | (with_reducible refine wp_m0 ?_)
  | (with_reducible refine wp_cb ?_)
  | (with_reducible refine wpa_cons ?_)
  | (with_reducible refine wpa_nil ?_)
  | (with_reducible refine wp_int ?_)
  | (with_reducible refine wp_str ?_)
  | (with_reducible refine wp_bl ?_)
  | (with_reducible refine wp_non ?_)
  | (refine wp_var rfl ?_)
  | (refine rc_len rfl ?_)
  | (refine r2_ii ?_)
  | (refine r2_ib ?_)
  | (refine ⟨_, rfl, ?_⟩))
variable {P : Program} {wd : World} {mg : Str → Option Value} {base : Heap} {K : PySem.W.Frag}
abbrev sp__law_is_numeral (K : PySem.W.Frag) : Sp := spP K (pre1 fun x => ∃ l : List Nat, x = strD l ∧ l.length ≤ 1000000 ∧ ∀ c ∈ l, c < 1114112) (post1 fun x r => ∀ l : List Nat, x = strD l → r = .bl (numC l))
theorem ok__law_is_numeral (T : Tx P K mg) : FnOk P wd K mg base CX0 1 T.f__law_is_numeral T.d__law_is_numeral ["_law_word"] (sp__law_is_numeral K) := by
  refine fn_P T.F__law_is_numeral sc__law_is_numeral (fun ds h => by obtain ⟨_, rfl, _⟩ := pre1_inv h; rfl) (fun cdv A outer s H E hr => ⟨_, (have nd := sc__law_is_numeral.nd; (pss_cons (ps_set (i := 1) nd rfl (.inl rfl) (pe_ifExp (pt_cmpR op_eq (pe_slice sl_str (pv 0) po_none (po_some pe_int)) pe_str (nomark _)) (pe_slice sl_str (pv 0) (po_some pe_int) po_none) (pv 0)))
      (pss_cons (ps_if (PW.pt (pw_or (pt_not (pt_chain op_le op_le pe_int (pe_callB call_len rfl T.m_len (by decide +kernel) (pa_cons (pv 1) pa_nil)) pe_int)) (pw_or1 (pt_cmpR (op_neD hr.units) (pe_lc (own := [("_law_sign", 2)]) (g := gName 2) rfl nd (pi_str (pv 1)) (blkOk_by (N := N__law_is_numeral) (sc := defScope s__law_is_numeral) (by decide +kernel)) (fun _ _ _ _ _ => (pg_name (i := 2) nd rfl (.inl rfl))) (fun _ _ _ _ _ => (castT (pts_one (pt_cmpR op_notIn_sign (pv 2) pe_str rfl)) (by walk_at "r"))) (fun _ _ _ _ _ => (castE (pv 2) (by walk_at "r")))) (pe_lst pa_nil) (nomark _))))) (pss_one (ps_ret pe_bl)) pss_nil)
      (pss_one (ps_ret (pe_or (pe_cmpR op_eq (pv 0) pe_str (nomark _)) (pe_one (pe_cmpR op_ne (pe_slice sl_str (pv 1) po_none (po_some pe_int)) pe_str (nomark _))))))))), fun F0 H0 ds hp => ?_⟩)
  walk_at "s"
  obtain ⟨x, rfl, l, rfl, hl, hsg⟩ := pre1_inv hp
  show wps _ _ [.d (strD l), .no, .no] _ _
  have hS : (S l).length ≤ 1000000 := by rw [S_len]; exact hl
  have hal : (absC l).length ≤ 1000000 := by unfold absC; split <;> first | omega | (rw [List.length_drop]; omega)
  have has : ∀ c ∈ absC l, c < 1114112 := fun c hc => by
    unfold absC at hc
    split at hc
    · exact hsg c (List.mem_of_mem_drop hc)
    · exact hsg c hc
  have hA : (S (absC l)).length ≤ 1000000 := by rw [S_len]; exact hal
  refine wps_seq (wps_asgV (strD (absC l)) (wp_ifD (decide (l.take 1 = [45])) ?_ (fun h => ?_) (fun h => ?_)) ?_)
  · refine wpt_test (wp_op (wp_sl (wp_var rfl (wpo_none (wpo_some (wp_int ⟨1, rfl, rs_str hS ?_⟩))))))
    rw [show cutS (S l) none (some 1) = S (l.take 1) from cut_to l 1]
    refine wp_str (r2_eqS ⟨_, rfl, ?_⟩)
    rw [show ("-" : Str) = S [45] by decide +kernel]
    exact S_eq
  · refine wp_sl (wp_var rfl (wpo_some (wp_int ⟨1, rfl, wpo_none (rs_str hS ?_)⟩)))
    rw [show cutS (S l) (some 1) none = S (l.drop 1) from cut_from l 1]
    unfold absC
    rw [if_pos (of_decide_eq_true h)]
  · refine wp_var rfl ?_
    unfold absC
    rw [if_neg (of_decide_eq_false h)]
  show wps _ _ [.d (strD l), .d (strD (absC l)), .no] _ _
  have e0 : (decide ((1 : Int) ≤ ((S (absC l)).length : Nat)) && decide ((((S (absC l)).length : Nat) : Int) ≤ 6)) = (decide (1 ≤ (absC l).length) && decide ((absC l).length ≤ 6)) := by
    rw [S_len]
    congr 1 <;> exact decide_eq_decide.mpr (by omega)
  have key : numC l = ((decide (1 ≤ (absC l).length) && decide ((absC l).length ≤ 6)) && (absC l).all digC && (decide (l = [48]) || !decide ((absC l).head? = some 48))) := rfl
  refine wps_seq (wps_ifD (!(decide (1 ≤ (absC l).length) && decide ((absC l).length ≤ 6)) || !(absC l).all digC) (wpt_orD (wpt_notD (wpt_test (wp_chainI 6 (wp_int rfl) (wp_int (wp_cb (wpa_cons (wp_var rfl (wpa_nil (rc_len (len_str hA) ⟨1, _, rfl, rfl, _, rfl, e0⟩))))))))) fun _ => ?_) (fun h => ?_) (fun h => ?_))
  · refine wpt_test (wp_emptyLc true (offS "0123456789") id rfl (wpi_str (wp_var rfl ⟨_, rfl, ?_⟩)))
    refine ⟨by rw [List.length_map]; exact hal, fun d hd => fd_sign has hd, fun d a o hd => ?_, _, rfl, ?_⟩
    · obtain ⟨c, hc', rfl⟩ := List.mem_map.mp hd
      refine wpt_test (wp_op (wp_var rfl (wp_str (r2_ninS ⟨_, rfl, ?_, fun _ => wp_var rfl rfl⟩))))
      simp [offS]
    · rw [if_pos rfl, off_dig]
  · refine wps_ret (wp_bl fun l2 e => ?_)
    cases e
    rw [key]
    cases h1 : (decide (1 ≤ (absC l).length) && decide ((absC l).length ≤ 6)) with
    | false => rfl
    | true =>
      rw [h1] at h
      rw [nb_t (b := (absC l).all digC) (by simpa using h)]
      rfl
  · rw [show ((decide (1 ≤ (absC l).length) && decide ((absC l).length ≤ 6)) && (absC l).all digC) = true by
      cases h1 : (decide (1 ≤ (absC l).length) && decide ((absC l).length ≤ 6)) <;> cases h2 : (absC l).all digC <;> rw [h1, h2] at h <;> first | rfl | cases h] at key
    refine wps_next (wps_ret (wp_orV (wp_op (wp_var rfl (wp_str (r2_eqS ⟨_, rfl, ?_⟩))))))
    rw [show ("0" : Str) = S [48] by decide +kernel, S_eq]
    refine ite_b (fun h3 => ?_) (fun h3 => ?_)
    · intro l2 e
      cases e
      rw [key, h3]
      rfl
    · refine wp_op (wp_sl (wp_var rfl (wpo_none (wpo_some (wp_int ⟨1, rfl, rs_str hA ?_⟩)))))
      rw [show cutS (S (absC l)) none (some 1) = S ((absC l).take 1) from cut_to _ 1]
      refine wp_str (r2_neS fun l2 e => ?_)
      cases e
      rw [key, h3, S_eq]
      congr 1
      rw [Bool.true_and, Bool.false_or]
      congr 1
      refine decide_eq_decide.mpr ?_
      cases absC l with
      | nil => simp
      | cons c r => simp
abbrev sp__law_numbers (K : PySem.W.Frag) : Sp := spP K (pre1 fun x => ∃ ws : List (List Nat), x = .lst (ws.map strD) ∧ ws.length ≤ 1000000 ∧ ∀ w ∈ ws, w.length ≤ 1000000 ∧ ∀ c ∈ w, c < 1114112) (post1 fun x r => ∀ ws : List (List Nat), x = .lst (ws.map strD) → r = numsD (numsC ws))
theorem ok__law_numbers (T : Tx P K mg) : FnOk P wd K mg base CX0 2 T.f__law_numbers T.d__law_numbers ["_law_words"] (sp__law_numbers K) := by
  refine fn_P T.F__law_numbers sc__law_numbers (fun ds h => by obtain ⟨_, rfl, _⟩ := pre1_inv h; rfl) (fun cdv A outer s H E hr => ⟨_, (have nd := sc__law_numbers.nd; (pss_cons (ps_if (pt_cmpR (op_neD hr.units) (pe_lc (own := [("_law_word", 1)]) (g := gName 1) rfl nd (pi_list (pv 0)) (blkOk_by (N := N__law_numbers) (sc := defScope s__law_numbers) (by decide +kernel)) (fun _ _ _ _ _ => (pg_name (i := 1) nd rfl (.inl rfl))) (fun _ _ _ _ _ => (castT (pts_one (pt_not (pt_val (pe_call (ok__law_is_numeral T) (hr.mono (by decide)) rfl T.g__law_is_numeral T.F__law_is_numeral.kp T.b__law_is_numeral .nil pass0 (pa_cons (pv 1) pa_nil))))) (by walk_at "r"))) (fun _ _ _ _ _ => (castE (pv 1) (by walk_at "r")))) (pe_lst pa_nil) (nomark _)) (pss_one (ps_ret pe_non)) pss_nil)
      (pss_one (ps_ret (pe_callTy call_tuple_of rfl T.m_tuple (by decide +kernel) (pa_cons (pe_lc (own := [("_law_word", 1)]) (g := gName 1) rfl nd (pi_list (pv 0)) (blkOk_by (N := N__law_numbers) (sc := defScope s__law_numbers) (by decide +kernel)) (fun _ _ _ _ _ => (pg_name (i := 1) nd rfl (.inl rfl))) (fun _ _ _ _ _ => pts_nil) (fun _ _ _ _ _ => (castE (pe_callTy call_int_str rfl T.m_int (by decide +kernel) (pa_cons (pv 1) pa_nil)) (by walk_at "r")))) pa_nil)))))), fun F0 H0 ds hp => ?_⟩)
  walk_at "s"
  obtain ⟨x, rfl, ws, rfl, hl, hw⟩ := pre1_inv hp
  show wps _ _ [.d (.lst (ws.map strD)), .no] _ _
  have hws : (ws.map strD).length ≤ 1000000 := by rw [List.length_map]; exact hl
  have inj : ∀ ws2 : List (List Nat), D.lst (ws.map strD) = .lst (ws2.map strD) → ws2 = ws := fun ws2 e => by
    have e' : ws.map strD = ws2.map strD := D.lst.inj e
    exact (List.map_inj_right (f := strD) fun a b h => S_inj (D.str.inj h)).mp e'.symm
  refine wps_seq (wps_ifD (!ws.all numC) ?_ (fun h => ?_) (fun h => wps_next ?_))
  · refine wpt_test (wp_emptyLc true (fun d => match d with | .str s => !numC (TL.tl s) | _ => false) id rfl (wpi_lst (wp_var rfl ⟨_, rfl, ?_⟩)))
    refine ⟨hws, fun d hd => ?_, fun d a o hd => ?_, _, rfl, ?_⟩
    · obtain ⟨c, hc, rfl⟩ := List.mem_map.mp hd
      exact fd_str (n := 0) (hw c hc).1 (hw c hc).2
    · obtain ⟨c, hc, rfl⟩ := List.mem_map.mp hd
      exact wpt_not (wpt_B (wp_callP (wpa_cons (wp_var rfl (wpa_nil ⟨⟨c, rfl, hw c hc⟩, fun r e => ⟨_, e c rfl, rfl, fun _ => wp_var rfl rfl⟩⟩)))))
    · rw [if_pos rfl, List.all_map]
      congr 1
      congr 1
      funext l
      show (!!numC (TL.tl (S l))) = numC l
      rw [Bool.not_not]
  · refine wps_ret (wp_non fun ws2 e => ?_)
    rw [inj ws2 e]
    unfold numsC
    rw [if_neg (by rw [nb_t h]; exact Bool.false_ne_true)]
    rfl
  · have h := nb_f h
    refine wps_ret (wp_cb (wpa_cons (wp_l (wpl_map (fun d => match d with | .str s => .int (valC (TL.tl s)) | _ => .non) rfl (wpi_lst ?_)))))
    refine wp_var rfl ⟨_, rfl, hws, fun d a o hd => ?_, wpa_nil (rc_tupL fun ws2 e => ?_)⟩
    · obtain ⟨c, hc, rfl⟩ := List.mem_map.mp hd
      obtain ⟨h1, h2⟩ := numC_val (List.all_eq_true.mp h c hc)
      exact wp_cb (wpa_cons (wp_var rfl (wpa_nil (rc_intS h1 (by rw [S_len]; omega) rfl))))
    · rw [inj ws2 e]
      unfold numsC
      rw [if_pos h]
      show D.tup _ = D.tup _
      rw [List.map_map, List.map_map]
      rfl
end Sd
set_option Elab.async false
set_option linter.all false
set_option maxRecDepth 100000
set_option maxHeartbeats 4000000
namespace Sd
open PySem PySem.Spec L2
open SX (S S_len S_cat S_inj)
open TL (numL joinL spl)
local macro_rules | `(tactic| walk_at "r") => `(tactic| (first | (dsimp only [cxOf, Cx.nox, Cx.wish, Cx.blk]; done) | (dsimp only [cxOf, Cx.nox, Cx.wish, Cx.blk]; rfl) | rfl))
local macro_rules | `(tactic| walk_at "k") => `(tactic| kernel_rfl)
local macro_rules | `(tactic| walk_at "s") => `(tactic| try dsimp only [cxOf, List.map_cons, List.map_nil])
local macro_rules | `(tactic| walk_at "d") => `(tactic| first
  | (with_reducible refine wps_seq ?_)
  | (with_reducible refine wps_ret ?_)
  | (with_reducible refine wps_if ?_)
  | (with_reducible refine wps_next ?_)
  | (with_reducible refine wps_drop ?_)
  | (with_reducible refine wpt_test ?_)
  | (with_reducible refine wpt_B ?_)
  | (with_reducible refine wpt_not ?_)
  | (with_reducible refine wpt_or ?_)
  | (with_reducible refine wpt_and ?_)
  | (with_reducible refine wp_andV ?_)
  | (with_reducible refine wp_orV ?_)
  | (with_reducible refine wp_notV ?_)
  | (refine wp_isiB (by decide) ?_)
  | (with_reducible refine wp_chain ?_)
  | (with_reducible refine wp_op ?_)
  | (with_reducible refine wp_tup ?_)
  | (with_reducible refine wpl_lst ?_)
  | (with_reducible refine wp_m1 ?_)
  | (with_reducible refine wp_m0 ?_)
  | (with_reducible refine wp_cb ?_)
  | (with_reducible refine wpa_cons ?_)
  | (with_reducible refine wpa_nil ?_)
  | (with_reducible refine wp_int ?_)
  | (with_reducible refine wp_str ?_)
  | (with_reducible refine wp_bl ?_)
  | (with_reducible refine wp_non ?_)
  | (refine wp_var rfl ?_)
  | (refine rc_len rfl ?_)
  | (refine r2_ii ?_)
  | (refine r2_ib ?_)
  | (refine ⟨_, rfl, ?_⟩))
variable {P : Program} {wd : World} {mg : Str → Option Value} {base : Heap} {K : PySem.W.Frag}
abbrev sp__law_taken (K : PySem.W.Frag) : Sp := spO K (rsO K) (fun s ds => (∃ n, n ≤ 100000 ∧ RsOk n s) ∧ pre1 (fun x => ∃ l, x = strD l ∧ LnOk l) ds) (fun s ds d s' => ∀ l : List Nat, ds = [strD l] → d = .bl (takesC s l).isSome ∧ ∀ s2, takesC s l = some s2 → s' = s2)
theorem ok__law_taken (T : Tx P K mg) : FnOk P wd K mg base CX0 3 T.f__law_taken T.d__law_taken ["_law_state_here", "_law_line"] (sp__law_taken K) := by
  refine fn_O rsO_at T.F__law_taken sc__law_taken (fun s ds h => by have h := h.2; obtain ⟨_, rfl, _⟩ := pre1_inv h; rfl) (fun cdv A outer s H E hr => ⟨_, (have nd := sc__law_taken.nd; (pss_cons (ps_set (i := 2) nd rfl (.inl rfl) (pe_split (pv 1) pe_str))
      (pss_cons (ps_if (pt_cmpR (op_eqD hr.units) (pe_ix ix_list (pv 0) pe_int (fun _ _ => rfl)) (pe_lst pa_nil) (nomark _)) (pss_cons (ps_set (i := 3) nd rfl (.inl rfl) (pe_and (pe_cmpR op_eq (pe_ix ix_list (pv 2) pe_int (fun _ _ => rfl)) pe_str (nomark _)) (pe_one (pe_cmpR op_gt (pe_callB call_len rfl T.m_len (by decide +kernel) (pa_cons (pv 2) pa_nil)) pe_int (nomark _)))))
      (pss_cons (ps_set (i := 3) nd rfl (.inl rfl) (pe_and (pv 3) (pe_one (pe_cmpR (op_eqD hr.units) (pe_lc (own := [("_law_word", 6)]) (g := gName 6) rfl nd (pi_list (pe_slice sl_list (pv 2) (po_some pe_int) po_none)) (blkOk_by (N := N__law_taken) (sc := defScope s__law_taken) (by decide +kernel)) (fun _ _ _ _ _ => (pg_name (i := 6) nd rfl (.inl rfl))) (fun _ _ _ _ _ => (castT (pts_one (pt_not (pt_val (pe_call (ok__law_is_name T) (hr.mono (by decide)) rfl T.g__law_is_name T.F__law_is_name.kp T.b__law_is_name .nil pass0 (pa_cons (pv 6) pa_nil))))) (by walk_at "r"))) (fun _ _ _ _ _ => (castE pe_int (by walk_at "r")))) (pe_lst pa_nil) (nomark _)))))
      (pss_cons (ps_expr (pe_bm PySem.F.plainAttrs_list PySem.F.slot_list_extend PySem.F.type_list_extend mt_extend (pe_ix ix_list (pv 0) pe_int (fun _ _ => rfl)) (pa_cons (pe_ifExp (pt_val (pv 3)) (pe_slice sl_list (pv 2) (po_some pe_int) po_none) (pe_lst pa_nil)) pa_nil)))
      (pss_one (ps_ret (pv 3)))))) pss_nil)
      (pss_cons (ps_set (i := 4) nd rfl (.inr rfl) (pe_call (ok__law_numbers T) (hr.mono (by decide)) rfl T.g__law_numbers T.F__law_numbers.kp T.b__law_numbers .nil pass0 (pa_cons (pe_slice sl_list (pv 2) (po_some pe_int) po_none) pa_nil)))
      (pss_cons (ps_if (PW.pt (pw_and (pt_cmpR op_eq (pe_ix ix_list (pv 2) pe_int (fun _ _ => rfl)) pe_str (nomark _)) (pw_and (pt_cmpR op_gt (pe_callB call_len rfl T.m_len (by decide +kernel) (pa_cons (pv 2) pa_nil)) pe_int (nomark _)) (pw_and (pt_cmpR op_notN (pv 4) pe_non (nomark _)) (pw_and1 (pt_cmpR (op_eqD hr.units) (pe_ix ix_list (pv 0) pe_int (fun _ _ => rfl)) (pe_lst pa_nil) (nomark _))))))) (pss_cons (ps_expr (pe_bm PySem.F.plainAttrs_list PySem.F.slot_list_append PySem.F.type_list_append mt_append (pe_ix ix_list (pv 0) pe_int (fun _ _ => rfl)) (pa_cons (pe_tup (pa_cons (pv 4) (pa_cons (pe_tup pa_nil) pa_nil))) pa_nil)))
      (pss_one (ps_ret pe_bl))) pss_nil)
      (pss_cons (ps_set (i := 4) nd rfl (.inr rfl) (pe_call (ok__law_numbers T) (hr.mono (by decide)) rfl T.g__law_numbers T.F__law_numbers.kp T.b__law_numbers .nil pass0 (pa_cons (pe_split (pe_slice sl_str (pv 1) (po_some pe_int) po_none) pe_str) pa_nil)))
      (pss_cons (ps_if (PW.pt (pw_and (pt_cmpR op_eq (pe_slice sl_str (pv 1) po_none (po_some pe_int)) pe_str (nomark _)) (pw_and (pt_cmpR op_notN (pv 4) pe_non (nomark _)) (pw_and1 (pt_cmpR op_eq (pe_callB call_len rfl T.m_len (by decide +kernel) (pa_cons (pv 4) pa_nil)) (pe_op op_mul pe_int (pe_callB call_len rfl T.m_len (by decide +kernel) (pa_cons (pe_ix ix_list (pv 0) pe_int (fun _ _ => rfl)) pa_nil))) (nomark _)))))) (pss_cons (ps_if (PW.pt (pw_or (pt_cmpR (op_eqD hr.units) (pe_ix ix_list (pv 0) pe_int (fun _ _ => rfl)) (pe_lst pa_nil) (nomark _)) (pw_or1 (pt_cmpR (op_neD hr.units) (pe_ix ix_list (pv 0) pe_int (fun _ _ => rfl)) (pe_lst pa_nil) (nomark _))))) (pss_one (ps_ret pe_bl)) pss_nil)
      (pss_cons (ps_set (i := 5) nd rfl (.inl rfl) (pe_callTy call_tuple_of rfl T.m_tuple (by decide +kernel) (pa_cons (pe_lc (own := [("_law_k", 7)]) (g := gName 7) rfl nd (pi_range1 rfl T.m_range (pa_cons (pe_callB call_len rfl T.m_len (by decide +kernel) (pa_cons (pe_ix ix_list (pv 0) pe_int (fun _ _ => rfl)) pa_nil)) pa_nil)) (blkOk_by (N := N__law_taken) (sc := defScope s__law_taken) (by decide +kernel)) (fun _ _ _ _ _ => (pg_name (i := 7) nd rfl (.inl rfl))) (fun _ _ _ _ _ => pts_nil) (fun _ _ _ _ _ => (castE (pe_tup (pa_cons (pe_ix ix_tup (pv 4) (pe_op op_mul pe_int (pv 7)) (fun _ _ => rfl)) (pa_cons (pe_ix ix_tup (pv 4) (pe_op op_add (pe_op op_mul pe_int (pv 7)) pe_int) (fun _ _ => rfl)) pa_nil))) (by walk_at "r")))) pa_nil)))
      (pss_cons (ps_asg (pe_tup (pa_cons (pe_ix ix_tup (pe_ix ix_list (pe_ix ix_list (pv 0) pe_int (fun _ _ => rfl)) (pe_un un_neg pe_int) (fun _ _ => rfl)) pe_int (fun _ _ => rfl)) (pa_cons (pe_op op_catA (pe_ix ix_tup (pe_ix ix_list (pe_ix ix_list (pv 0) pe_int (fun _ _ => rfl)) (pe_un un_neg pe_int) (fun _ _ => rfl)) pe_int (fun _ _ => rfl)) (pe_tup (pa_cons (pv 5) pa_nil))) pa_nil))) (pg_sub (pe_ix ix_list (pv 0) pe_int (fun _ _ => rfl)) (pe_un un_neg pe_int) set_list))
      (pss_one (ps_ret pe_bl))))) pss_nil)
      (pss_cons (ps_if (PW.pt (pw_or (pt_cmpR op_ne (pe_ix ix_list (pv 2) pe_int (fun _ _ => rfl)) pe_str (nomark _)) (pw_or1 (pt_cmpR op_ne (pe_callB call_len rfl T.m_len (by decide +kernel) (pa_cons (pv 2) pa_nil)) pe_int (nomark _))))) (pss_one (ps_ret pe_bl)) pss_nil)
      (pss_cons (ps_if (PW.pt (pw_or (pt_not (pt_val (pe_call (ok__law_is_name T) (hr.mono (by decide)) rfl T.g__law_is_name T.F__law_is_name.kp T.b__law_is_name .nil pass0 (pa_cons (pe_ix ix_list (pv 2) pe_int (fun _ _ => rfl)) pa_nil)))) (pw_or1 (pt_not (pt_val (pe_call (ok__law_is_numeral T) (hr.mono (by decide)) rfl T.g__law_is_numeral T.F__law_is_numeral.kp T.b__law_is_numeral .nil pass0 (pa_cons (pe_ix ix_list (pv 2) pe_int (fun _ _ => rfl)) pa_nil))))))) (pss_one (ps_ret pe_bl)) pss_nil)
      (pss_cons (ps_expr (pe_bm PySem.F.plainAttrs_list PySem.F.slot_list_append PySem.F.type_list_append mt_append (pe_ix ix_list (pv 0) pe_int (fun _ _ => rfl)) (pa_cons (pe_tup (pa_cons (pe_ix ix_list (pv 2) pe_int (fun _ _ => rfl)) (pa_cons (pe_callTy call_int_str rfl T.m_int (by decide +kernel) (pa_cons (pe_ix ix_list (pv 2) pe_int (fun _ _ => rfl)) pa_nil)) pa_nil))) pa_nil)))
      (pss_one (ps_ret (pe_cmpR (op_neD hr.units) (pe_ix ix_list (pv 0) pe_int (fun _ _ => rfl)) (pe_lst pa_nil) (nomark _)))))))))))))), fun F0 H0 O a s ds hp => ?_⟩)
  walk_at "s"
  obtain ⟨⟨n, hn, hs⟩, hp⟩ := hp
  obtain ⟨x, rfl, l, rfl, hl⟩ := pre1_inv hp
  show wps _ _ [.o (rsO K a s), .d (strD l), .no, .no, .no, .no, .no, .no] _ _
  have fin : ∀ {b : Bool} {s' : RS}, b = (takesC s l).isSome → (∀ s2, takesC s l = some s2 → s' = s2) → ∀ l2 : List Nat, [strD l] = [strD l2] → D.bl b = .bl (takesC s l2).isSome ∧ ∀ s2, takesC s l2 = some s2 → s' = s2 := fun e1 e2 l2 e => by
    simp only [List.cons.injEq, and_true] at e
    obtain rfl := strD_inj e
    exact ⟨by rw [e1], e2⟩
  obtain ⟨hw1, hw2, hw3⟩ := words_ok hl
  have lk : s.ks.length ≤ 3000 := hs.k.1
  have lp : s.ps.length ≤ 100000 := Nat.le_trans hs.p.1 hn
  have lt : s.ts.length ≤ 100000 := Nat.le_trans hs.t.1 hn
  have okK : Ok (.lst (s.ks.map strD)) := fd_lst0 (by rw [List.length_map]; omega) fun y hy => by
    obtain ⟨k, hk, rfl⟩ := List.mem_map.mp hy
    exact fd_name (n := 0) (hs.k.2 k hk)
  have okT : Ok (.lst (s.ts.map telD)) := hs.okT hn
  have okP : Ok (.lst (s.ps.map pasD)) := by
    refine fd_ok (n := 5) (fd_lst (by rw [List.length_map]; omega) fun x hx => ?_) (by omega)
    obtain ⟨p, hp, rfl⟩ := List.mem_map.mp hx
    obtain ⟨h1, h2, h3⟩ := hs.p.2 p hp
    refine fd_tup (n := 3) (by simp) fun y hy => ?_
    rcases List.mem_cons.mp hy with rfl | hy
    · exact (fd_ints (by omega)).mono (by omega)
    · obtain rfl : y = rowsD p.2 := by simpa using hy
      refine fd_tup (n := 2) (by rw [List.length_map]; omega) fun z hz => ?_
      obtain ⟨r, hr, rfl⟩ := List.mem_map.mp hz
      exact fd_row (by have := h3 r hr; omega)
  refine wps_seq (wps_asgV (.lst ((splitC l 32).map strD)) (wp_l (wpl_m1 (wp_var rfl ⟨⟨_, rfl⟩, wp_str ?_⟩))) ?_)
  · rw [show (" " : Str) = S [32] by decide +kernel]
    refine rm_split (by decide +kernel) (by rw [S_len]; have := hl.1; omega) ?_
    rw [split_C _ _ (by decide), ← strs_map]
  generalize ews : splitC l 32 = ws at hw1 hw2 hw3 ⊢
  obtain ⟨w0, wr, rfl⟩ : ∃ w0 wr, ws = w0 :: wr := by
    cases ws with
    | nil => exact absurd rfl hw2
    | cons a b => exact ⟨a, b, rfl⟩
  have hcut : cutD ((w0 :: wr).map strD) (some 1) none = wr.map strD := by rw [cut1]; rfl
  have l1 : wr.length + 1 ≤ 2001 := by simpa using hw1
  have hwr : ∀ v ∈ wr, LnOk v := fun v hv => hw3 v (by simp [hv])
  show wps _ _ [.o (rsO K a s), .d (strD l), .d (.lst ((w0 :: wr).map strD)), .no, .no, .no, .no, .no] _ _
  refine wps_seq (wps_ifD (decide (s.ks = [])) ?_ (fun h => ?_) (fun h => wps_next ?_))
  · refine wpt_pkL (.cons pk_lol (.cons pk_d (.cons pk_d (.cons pk_no (.cons pk_no (.cons pk_no (.cons pk_no (.cons pk_no .nil)))))))) fun F1 H1 => ?_
    refine wpt_test (wp_op (wp_op (wp_var rfl (wp_int (r2_ixL rfl (wp_l (wpl_lst (wpa_nil ⟨by simp, r2_eqD okK.cmp ok_nilL.cmp ⟨_, rfl, ?_⟩⟩))))))))
    rw [eqv_nilL]
    cases s.ks <;> rfl
  · have hk : s.ks = [] := of_decide_eq_true h
    have eT : takesC s l = takesK s (w0 :: wr) := by
      unfold takesC
      rw [if_pos hk, ews]
    have key : takesK s (w0 :: wr) = if decide (w0 = wKinds) && decide (1 < wr.length + 1) && wr.all nameC then some { s with ks := wr } else none := by
      unfold takesK
      have : (decide (w0 = wKinds) && decide (1 < wr.length + 1) && wr.all nameC) = decide ((w0 :: wr).head? = some wKinds ∧ (w0 :: wr).length ≠ 1 ∧ (w0 :: wr).tail.all nameC = true) := by
        rw [Bool.eq_iff_iff]
        simp only [Bool.and_eq_true, decide_eq_true_eq, List.head?_cons, Option.some.injEq, List.length_cons, List.tail_cons]
        constructor
        · rintro ⟨⟨h1, h2⟩, h3⟩; exact ⟨h1, by omega, h3⟩
        · rintro ⟨h1, h2, h3⟩; exact ⟨⟨h1, by omega⟩, h3⟩
      rw [this]
      simp only [decide_eq_true_eq]
      rfl
    refine wps_seq (wps_asgV (.bl (decide (w0 = wKinds) && decide (1 < wr.length + 1))) (wp_andV (wp_op (wp_op (wp_var rfl (wp_int (r2_ixL (at0 _ _) (wp_str (r2_eqS ⟨_, rfl, ?_⟩)))))))) ?_)
    · rw [show ("kinds" : Str) = S wKinds by decide +kernel, S_eq]
      cases hb : decide (w0 = wKinds) with
      | false => exact iteF rfl
      | true =>
        refine iteT (wp_op (wp_cb (wpa_cons (wp_var rfl (wpa_nil (rc_len rfl (wp_int (r2_ib ?_))))))))
        rw [List.length_map, List.length_cons, Bool.true_and]
        congr 1
        exact decide_eq_decide.mpr (by omega)
    show wps _ _ [.o (rsO K a s), .d (strD l), .d (.lst ((w0 :: wr).map strD)), .d (.bl (decide (w0 = wKinds) && decide (1 < wr.length + 1))), .no, .no, .no, .no] _ _
    refine wps_seq (wps_asgV (.bl (decide (w0 = wKinds) && decide (1 < wr.length + 1) && wr.all nameC)) (wp_andV (wp_var rfl ⟨_, rfl, ?_⟩)) ?_)
    · cases hb : (decide (w0 = wKinds) && decide (1 < wr.length + 1)) with
      | false => exact iteF rfl
      | true =>
        refine iteT (wp_emptyLc false (fun d => match d with | .str x => !isNameS x | _ => false) (fun _ => .int 1) rfl (wpi_lst (wp_l (wpl_sl (wp_var rfl (wpo_some (wp_int ⟨1, rfl, wpo_none (rs_list ?_)⟩)))))))
        rw [hcut]
        refine ⟨_, rfl, by rw [List.length_map]; omega, fun d _ => int_fd 1, fun d a o hd => ?_, ?_⟩
        · obtain ⟨v, hv, rfl⟩ := List.mem_map.mp hd
          refine wpt_not (wpt_B (wp_callP (wpa_cons (wp_var rfl (wpa_nil ⟨⟨v, rfl, by have := (hwr v hv).1; omega, (hwr v hv).2⟩, fun r e => ⟨_, e v rfl, ?_, fun _ => wp_int rfl⟩⟩)))))
          show (!nameC v) = !isNameS (S v)
          rw [← name_is]
          rfl
        · rw [if_neg (by decide), List.all_map, Bool.true_and]
          congr 1
          congr 1
          funext v
          show (!!isNameS (S v)) = nameC v
          rw [Bool.not_not, ← name_is]
          rfl
    show wps _ _ [.o (rsO K a s), .d (strD l), .d (.lst ((w0 :: wr).map strD)), .d (.bl (decide (w0 = wKinds) && decide (1 < wr.length + 1) && wr.all nameC)), .no, .no, .no, .no] _ _
    generalize eb : (decide (w0 = wKinds) && decide (1 < wr.length + 1) && wr.all nameC) = fits at key
    refine wps_seq (wps_lolExt (n := 0) (p := a) (xss := s.ls) (xs := s.ks.map strD) rfl rfl fun F1 H1 O1 => ?_)
    show wp _ _ [.v (.ref a), .d (strD l), .d (.lst ((w0 :: wr).map strD)), .d (.bl fits), .no, .no, .no, .no] _
    refine wp_ifD fits (wpt_B (wp_var rfl ⟨_, rfl, rfl⟩)) (fun hf => wp_l (wpl_sl (wp_var rfl (wpo_some (wp_int ⟨1, rfl, wpo_none (rs_list ?_)⟩))))) (fun hf => wp_l (wpl_lst (wpa_nil ⟨by simp, ?_⟩)))
    · rw [hcut]
      refine ⟨_, rfl, by rw [List.length_map, List.length_map]; omega, ?_⟩
      refine wps_ret (wp_var rfl ⟨{ s with ks := wr }, ?_, fin ?_ ?_⟩)
      · rw [hk]; rfl
      · rw [eT, key, if_pos hf, hf]; rfl
      · intro s2 e
        rw [eT, key, if_pos hf] at e
        exact Option.some.inj e
    · refine ⟨_, rfl, by rw [List.length_map]; simp; omega, ?_⟩
      refine wps_ret (wp_var rfl ⟨s, ?_, fin ?_ ?_⟩)
      · rw [List.append_nil]; rfl
      · rw [eT, key, if_neg (by rw [hf]; exact Bool.noConfusion), hf]; rfl
      · intro s2 e
        rw [eT, key, if_neg (by rw [hf]; exact Bool.noConfusion)] at e
        cases e
  have hk : s.ks ≠ [] := of_decide_eq_false h
  have eR := takesR_eq (l := l) hk
  rw [ews] at eR
  refine wps_seq (wps_asgV (numsD (numsC wr)) (wp_callP (wpa_cons (wp_l (wpl_sl (wp_var rfl (wpo_some (wp_int ⟨1, rfl, wpo_none (rs_list ?_)⟩))))))) ?_)
  · rw [hcut]
    exact wpa_nil ⟨⟨wr, rfl, by omega, fun v hv => ⟨by have := (hwr v hv).1; omega, (hwr v hv).2⟩⟩, fun r e => e wr rfl⟩
  show wps _ _ [.o (rsO K a s), .d (strD l), .d (.lst ((w0 :: wr).map strD)), .no, .d (numsD (numsC wr)), .no, .no, .no] _ _
  have hnil : isN (numsD (numsC wr)) = (numsC wr).isNone := by cases numsC wr <;> rfl
  have keyP : takesP s (w0 :: wr) = match numsC wr with
      | none => none
      | some bs => if decide (w0 = wPass) && (decide (1 < wr.length + 1) && (true && s.ts.isEmpty)) then some { s with ps := s.ps ++ [(bs, [])] } else none := by
    unfold takesP
    rw [List.tail_cons]
    cases numsC wr with
    | none => rfl
    | some bs =>
      dsimp only
      have : (decide (w0 = wPass) && (decide (1 < wr.length + 1) && (true && s.ts.isEmpty))) = decide ((w0 :: wr).head? = some wPass ∧ (w0 :: wr).length ≠ 1 ∧ s.ts = []) := by
        rw [Bool.eq_iff_iff]
        simp only [Bool.and_eq_true, decide_eq_true_eq, List.head?_cons, Option.some.injEq, List.length_cons, List.isEmpty_iff, true_and]
        constructor
        · rintro ⟨h1, h2, h3⟩; exact ⟨h1, by omega, h3⟩
        · rintro ⟨h1, h2, h3⟩; exact ⟨h1, by omega, h3⟩
      rw [this]
      simp only [decide_eq_true_eq]
  refine wps_seq (wps_ifD (decide (w0 = wPass) && (decide (1 < wr.length + 1) && (!(numsC wr).isNone && s.ts.isEmpty))) (wpt_andD ?_ fun _ => wpt_andD ?_ fun _ => wpt_andD ?_ fun _ => ?_) (fun hb => ?_) (fun hb => wps_next ?_))
  · refine wpt_test (wp_op (wp_op (wp_var rfl (wp_int (r2_ixL (at0 _ _) (wp_str (r2_eqS ⟨_, rfl, ?_⟩)))))))
    rw [show ("pass" : Str) = S wPass by decide +kernel, S_eq]
  · refine wpt_test (wp_op (wp_cb (wpa_cons (wp_var rfl (wpa_nil (rc_len rfl (wp_int (r2_ib ⟨_, rfl, ?_⟩))))))))
    rw [List.length_map, List.length_cons]
    exact decide_eq_decide.mpr (by omega)
  · exact wpt_test (wp_op (wp_var rfl (wp_non (r2_notN ⟨_, rfl, by rw [hnil]⟩))))
  · refine wpt_pkL (.cons pk_lol (.cons pk_d (.cons pk_d (.cons pk_no (.cons pk_d (.cons pk_no (.cons pk_no (.cons pk_no .nil)))))))) fun F1 H1 => ?_
    refine wpt_test (wp_op (wp_op (wp_var rfl (wp_int (r2_ixL rfl (wp_l (wpl_lst (wpa_nil ⟨by simp, r2_eqD okT.cmp ok_nilL.cmp ⟨_, rfl, ?_⟩⟩))))))))
    rw [eqv_nilL]
    cases s.ts <;> rfl
  · cases en : numsC wr with
    | none => rw [en] at hb; simp at hb
    | some bs =>
      rw [en] at keyP hb
      dsimp only at keyP
      have hb2 : (decide (w0 = wPass) && (decide (1 < wr.length + 1) && (true && s.ts.isEmpty))) = true := hb
      rw [if_pos hb2] at keyP
      rw [keyP] at eR
      dsimp only at eR
      refine wps_seq (wps_lolApp (n := 1) (p := a) (xss := s.ls) (xs := s.ps.map pasD) rfl rfl (by rw [List.length_map]; omega) fun F1 H1 O1 => ?_)
      show wp _ _ [.v (.ref a), .d (strD l), .d (.lst ((w0 :: wr).map strD)), .no, .d (intsD bs), .no, .no, .no] _
      refine wp_tup (wpa_cons (wp_var rfl (wpa_cons (wp_tup (wpa_nil ⟨by simp, wpa_nil ⟨by simp, ?_⟩⟩)))))
      refine wps_ret (wp_bl ⟨{ s with ps := s.ps ++ [(bs, [])] }, ?_, fin ?_ ?_⟩)
      · show some (Ent.o (lolP K a _)) = some (Ent.o (lolP K a _))
        unfold RS.ls
        rw [List.map_append]
        rfl
      · rw [eR]; rfl
      · intro s2 e
        rw [eR] at e
        exact Option.some.inj e
  have eP : takesP s (w0 :: wr) = none := by
    rw [keyP]
    cases en : numsC wr with
    | none => rfl
    | some bs =>
      rw [en] at hb
      dsimp only
      rw [if_neg (by
        intro z
        have hb' : (decide (w0 = wPass) && (decide (1 < wr.length + 1) && (true && s.ts.isEmpty))) = false := hb
        rw [hb'] at z; cases z)]
  rw [eP] at eR
  dsimp only at eR
  have hS : (S l).length ≤ 1000000 := by rw [S_len]; have := hl.1; omega
  have hdl : ((l.drop 2).length) ≤ 2000 := by rw [List.length_drop]; have := hl.1; omega
  have hdw : ∀ v ∈ splitC (l.drop 2) 32, v.length ≤ 1000000 ∧ ∀ c ∈ v, c < 1114112 := fun v hv => by
    refine ⟨?_, fun c hc => ?_⟩
    · have := spl_len hv
      simp at this
      have := hl.1
      omega
    · rcases spl_sub hv c hc with z | z
      · cases z
      · exact hl.2 c (List.mem_of_mem_drop z)
  have hdc : (splitC (l.drop 2) 32).length ≤ 1000000 := by
    have := spl_cnt (l := l.drop 2) (acc := []) (c := 32)
    unfold splitC
    omega
  refine wps_seq (wps_asgV (numsD (numsC (splitC (l.drop 2) 32))) (wp_callP (wpa_cons (wp_l (wpl_m1 (wp_sl (wp_var rfl (wpo_some (wp_int ⟨2, rfl, wpo_none (rs_str hS ?_)⟩)))))))) ?_)
  · rw [show cutS (S l) (some 2) none = S (l.drop 2) from cut_from l 2]
    refine ⟨⟨_, rfl⟩, wp_str ?_⟩
    rw [show (" " : Str) = S [32] by decide +kernel]
    refine rm_split (by decide +kernel) (by rw [S_len]; omega) ?_
    rw [split_C _ _ (by decide), ← strs_map]
    exact wpa_nil ⟨⟨_, rfl, hdc, hdw⟩, fun r e => e _ rfl⟩
  show wps _ _ [.o (rsO K a s), .d (strD l), .d (.lst ((w0 :: wr).map strD)), .no, .d (numsD (numsC (splitC (l.drop 2) 32))), .no, .no, .no] _ _
  have hnil2 : isN (numsD (numsC (splitC (l.drop 2) 32))) = (numsC (splitC (l.drop 2) 32)).isNone := by cases numsC (splitC (l.drop 2) 32) <;> rfl
  have keyR : (rowOf s.ks.length l).isSome = (decide (l.take 2 = [32, 32]) && (!(numsC (splitC (l.drop 2) 32)).isNone && decide (((numsC (splitC (l.drop 2) 32)).getD []).length = 2 * s.ks.length))) ∧ ∀ r, rowOf s.ks.length l = some r → ∃ ns, numsC (splitC (l.drop 2) 32) = some ns ∧ ns.length = 2 * s.ks.length ∧ r = pairsC s.ks.length ns := by
    unfold rowOf
    cases numsC (splitC (l.drop 2) 32) with
    | none => exact ⟨by simp, fun r e => by cases e⟩
    | some ns =>
      dsimp only
      by_cases hc : l.take 2 = [32, 32] ∧ ns.length = 2 * s.ks.length
      · rw [if_pos hc]
        refine ⟨by simp [hc.1, hc.2], fun r e => ⟨ns, rfl, hc.2, (Option.some.inj e).symm⟩⟩
      · rw [if_neg hc]
        refine ⟨?_, fun r e => by cases e⟩
        by_cases h1 : l.take 2 = [32, 32]
        · have h2 : ¬ ns.length = 2 * s.ks.length := fun z => hc ⟨h1, z⟩
          simp [h2]
        · simp [h1]
  refine wps_seq (wps_ifD (rowOf s.ks.length l).isSome (?_ : wpt _ _ _ fun c => c = (rowOf s.ks.length l).isSome) (fun hr => ?_) (fun hr => wps_next ?_))
  · rw [keyR.1]
    refine wpt_andD ?_ fun _ => wpt_andD ?_ fun hs1 => ?_
    · refine wpt_test (wp_op (wp_sl (wp_var rfl (wpo_none (wpo_some (wp_int ⟨2, rfl, rs_str hS ?_⟩))))))
      rw [show cutS (S l) none (some 2) = S (l.take 2) from cut_to l 2]
      refine wp_str (r2_eqS ⟨_, rfl, ?_⟩)
      rw [show ("  " : Str) = S [32, 32] by decide +kernel, S_eq]
    · exact wpt_test (wp_op (wp_var rfl (wp_non (r2_notN ⟨_, rfl, by rw [hnil2]⟩))))
    · cases en : numsC (splitC (l.drop 2) 32) with
      | none => rw [en] at hs1; cases hs1
      | some ns =>
        refine wpt_pkL (.cons pk_lol (.cons pk_d (.cons pk_d (.cons pk_no (.cons pk_d (.cons pk_no (.cons pk_no (.cons pk_no .nil)))))))) fun F1 H1 => ?_
        refine wpt_test (wp_op (wp_cb (wpa_cons (wp_var rfl (wpa_nil (rc_len rfl (wp_op (wp_int (wp_cb (wpa_cons (wp_op (wp_var rfl (wp_int (r2_ixL rfl (wpa_nil (rc_len rfl (r2_ic (.inl ⟨by omega, by omega⟩) (r2_eqI ⟨_, rfl, ?_⟩))))))))))))))))))
        rw [List.length_map, List.length_map]
        show decide ((ns.length : Int) = 2 * (s.ks.length : Int)) = decide (ns.length = 2 * s.ks.length)
        exact decide_eq_decide.mpr (by omega)
  · obtain ⟨r, er⟩ := Option.isSome_iff_exists.mp hr
    obtain ⟨ns, en, hnl, hrp⟩ := keyR.2 r er
    rw [er] at eR
    dsimp only at eR
    rw [en]
    show wps _ _ [.o (rsO K a s), .d (strD l), .d (.lst ((w0 :: wr).map strD)), .no, .d (intsD ns), .no, .no, .no] _ _
    refine wps_seq (wps_ifD (s.ps.isEmpty || !s.ts.isEmpty) (wpt_orD ?_ fun _ => ?_) (fun hq => ?_) (fun hq => wps_next ?_))
    · refine wpt_pkL (.cons pk_lol (.cons pk_d (.cons pk_d (.cons pk_no (.cons pk_d (.cons pk_no (.cons pk_no (.cons pk_no .nil)))))))) fun F1 H1 => ?_
      refine wpt_test (wp_op (wp_op (wp_var rfl (wp_int (r2_ixL rfl (wp_l (wpl_lst (wpa_nil ⟨by simp, r2_eqD okP.cmp ok_nilL.cmp ⟨_, rfl, ?_⟩⟩))))))))
      rw [eqv_nilL]
      cases s.ps <;> rfl
    · refine wpt_pkL (.cons pk_lol (.cons pk_d (.cons pk_d (.cons pk_no (.cons pk_d (.cons pk_no (.cons pk_no (.cons pk_no .nil)))))))) fun F1 H1 => ?_
      refine wpt_test (wp_op (wp_op (wp_var rfl (wp_int (r2_ixL rfl (wp_l (wpl_lst (wpa_nil ⟨by simp, r2_neD okT.cmp ok_nilL.cmp ⟨_, rfl, ?_⟩⟩))))))))
      rw [eqv_nilL]
      cases s.ts <;> rfl
    · have hc : ¬ (s.ps ≠ [] ∧ s.ts = []) := fun z => by
        rw [z.2] at hq
        simp at hq
        exact z.1 hq
      rw [if_neg hc] at eR
      exact wps_ret (wp_bl ⟨s, rfl, fin (by rw [eR]; rfl) fun s2 e => by rw [eR] at e; cases e⟩)
    · have hc : s.ps ≠ [] ∧ s.ts = [] := by
        obtain ⟨h1, h2⟩ := Bool.or_eq_false_iff.mp hq
        exact ⟨List.isEmpty_eq_false_iff.mp h1, List.isEmpty_iff.mp (nb_f h2)⟩
      rw [if_pos hc] at eR
      obtain ⟨ps, q, hps⟩ : ∃ ps q, s.ps = ps ++ [q] := ⟨_, _, (List.dropLast_concat_getLast hc.1).symm⟩
      have hls : s.ls = [s.ks.map strD, ps.map pasD ++ [pasD q], s.ts.map telD] := by
        unfold RS.ls
        rw [hps, List.map_append]
        rfl
      have hq2 := hs.p.2 q (by rw [hps]; simp)
      refine wps_seq (wps_asgV (rowD r) (wp_cb (wpa_cons (wp_l (wpl_map (fun d => match d with | .int k => pairD (ns.getD (2 * k.toNat) 0, ns.getD (2 * k.toNat + 1) 0) | _ => .non) rfl (wpi_rng (wpa_cons ?_)))))) ?_)
      · refine wp_is (.int s.ks.length) (wp_pkL (.cons pk_lol (.cons pk_d (.cons pk_d (.cons pk_no (.cons pk_d (.cons pk_no (.cons pk_no (.cons pk_no .nil)))))))) fun F1 H1 => ?_) ?_
        · exact wp_cb (wpa_cons (wp_op (wp_var rfl (wp_int (r2_ixL rfl (wpa_nil (rc_len rfl ⟨rfl, by rw [List.length_map]⟩)))))))
        · refine wpa_nil ⟨_, rfl, by omega, by rw [List.length_map, List.length_range]; omega, fun d a2 o2 hd => ?_, wpa_nil (rc_tupL ?_)⟩
          · obtain ⟨k, hk2, rfl⟩ := List.mem_map.mp hd
            have hk3 : k < s.ks.length := by simpa using hk2
            refine wp_tup (wpa_cons (wp_op (wp_var rfl (wp_op (wp_int (wp_var rfl (r2_ic (.inl ⟨by omega, by omega⟩) (r2_ixT (d := .int (ns.getD (2 * k) 0)) ?_ (wpa_cons (wp_op (wp_var rfl (wp_op (wp_op (wp_int (wp_var rfl (r2_ic (.inl ⟨by omega, by omega⟩) (wp_int (r2_ii (r2_ixT (d := .int (ns.getD (2 * k + 1) 0)) ?_ (wpa_nil ⟨by simp, rfl⟩))))))))))))))))))))
            · rw [show (2 : Int) * ((k : Nat) : Int) = ((2 * k : Nat) : Int) by omega, atN (by rw [List.length_map]; omega), List.getElem?_map, List.getD_eq_getElem?_getD, List.getElem?_eq_getElem (by omega)]
              rfl
            · rw [show (2 : Int) * ((k : Nat) : Int) + 1 = ((2 * k + 1 : Nat) : Int) by omega, atN (by rw [List.length_map]; omega), List.getElem?_map, List.getD_eq_getElem?_getD, List.getElem?_eq_getElem (by omega)]
              rfl
          · rw [hrp]
            unfold pairsC
            show D.tup _ = D.tup _
            rw [List.map_map, List.map_map]
            rfl
      show wps _ _ [.o (rsO K a s), .d (strD l), .d (.lst ((w0 :: wr).map strD)), .no, .d (intsD ns), .d (rowD r), .no, .no] _ _
      have e0 : ([Ent.o (rsO K a s), .d (strD l), .d (.lst ((w0 :: wr).map strD)), .no, .d (intsD ns), .d (rowD r), .no, .no] : List Ent)[0]? = some (.o (lolP K a [s.ks.map strD, ps.map pasD ++ [pasD q], s.ts.map telD])) := by
        rw [← hls]; rfl
      refine wps_seq (wps_lolSet (n := 1) (ys := ps.map pasD) (d0 := pasD q) e0 rfl ?_)
      refine wp_tup (wpa_cons (wp_op (wp_lolLast e0 rfl (HT_last _ _) (wp_int (r2_ixT rfl (wpa_cons (wp_op (wp_op (wp_lolLast e0 rfl (HT_last _ _) (wp_int (r2_ixT rfl (wp_tup (wpa_cons (wp_var rfl (wpa_nil ⟨by simp, r2_catT (by rw [List.length_map]; simp; omega) (wpa_nil ⟨by simp, ?_⟩)⟩)))))))))))))))
      refine wps_ret (wp_bl ⟨{ s with ps := addRow s.ps r }, ?_, fin ?_ ?_⟩)
      · show some (Ent.o (lolP K a _)) = some (Ent.o (lolP K a _))
        unfold RS.ls
        have e1 : pasD (q.1, q.2 ++ [r]) = .tup [intsD q.1, .tup (q.2.map rowD ++ [rowD r])] := by
          show D.tup [intsD q.1, .tup ((q.2 ++ [r]).map rowD)] = _
          rw [List.map_append]
          rfl
        rw [hps, add_last, List.map_append]
        show some (Ent.o (lolP K a [s.ks.map strD, ps.map pasD ++ [D.tup [intsD q.1, D.tup (q.2.map rowD ++ [rowD r])]], s.ts.map telD])) = some (Ent.o (lolP K a [s.ks.map strD, ps.map pasD ++ [pasD (q.1, q.2 ++ [r])], s.ts.map telD]))
        rw [e1]
      · rw [eR]; rfl
      · intro s2 e
        rw [eR] at e
        exact Option.some.inj e
  have er : rowOf s.ks.length l = none := by
    cases e : rowOf s.ks.length l with
    | none => rfl
    | some r => rw [e] at hr; cases hr
  rw [er] at eR
  dsimp only at eR
  generalize numsD (numsC (splitC (l.drop 2) 32)) = nd4
  refine wps_seq (wps_ifD (!decide (w0 = wTell) || !decide (wr.length + 1 = 3)) (wpt_orD ?_ fun _ => ?_) (fun hq => ?_) (fun hq => wps_next ?_))
  · refine wpt_test (wp_op (wp_op (wp_var rfl (wp_int (r2_ixL (at0 _ _) (wp_str (r2_neS ⟨_, rfl, ?_⟩)))))))
    rw [show ("tell" : Str) = S wTell by decide +kernel, S_eq]
  · refine wpt_test (wp_op (wp_cb (wpa_cons (wp_var rfl (wpa_nil (rc_len rfl (wp_int (r2_neI ⟨_, rfl, ?_⟩))))))))
    rw [List.length_map, List.length_cons]
    congr 1
    exact decide_eq_decide.mpr (by omega)
  · have eT : takesT s (w0 :: wr) = none := by
      unfold takesT
      rcases wr with _ | ⟨b, _ | ⟨c, _ | ⟨d, r⟩⟩⟩
      · rfl
      · rfl
      · dsimp only
        rw [if_neg fun z => by rw [z.1] at hq; simp at hq]
      · rfl
    rw [eT] at eR
    exact wps_ret (wp_bl ⟨s, rfl, fin (by rw [eR]; rfl) fun s2 e => by rw [eR] at e; cases e⟩)
  obtain ⟨h1, h2⟩ := Bool.or_eq_false_iff.mp hq
  have h1 := of_decide_eq_true (nb_f h1)
  have h2 := of_decide_eq_true (nb_f h2)
  obtain ⟨b, c, rfl⟩ : ∃ b c, wr = [b, c] := by
    rcases wr with _ | ⟨b, _ | ⟨c, _ | ⟨d, r⟩⟩⟩
    · simp at h2
    · simp at h2
    · exact ⟨b, c, rfl⟩
    · simp at h2
  have eT : takesT s [w0, b, c] = if nameC b = true ∧ numC c = true ∧ s.ps ≠ [] then some { s with ts := s.ts ++ [(b, valC c)] } else none := by
    unfold takesT
    dsimp only
    simp only [h1, true_and]
  rw [eT] at eR
  have hb := hwr b (by simp)
  have hc := hwr c (by simp)
  refine wps_seq (wps_ifD (!nameC b || !numC c) (wpt_orD ?_ fun _ => ?_) (fun hq => ?_) (fun hq => wps_next ?_))
  · exact wpt_notD (wpt_B (wp_callP (wpa_cons (wp_op (wp_var rfl (wp_int (r2_ixL (d := strD b) rfl (wpa_nil ⟨⟨b, rfl, by have := hb.1; omega, hb.2⟩, fun r e => ⟨_, e _ rfl, rfl⟩⟩))))))))
  · exact wpt_notD (wpt_B (wp_callP (wpa_cons (wp_op (wp_var rfl (wp_int (r2_ixL (d := strD c) rfl (wpa_nil ⟨⟨c, rfl, by have := hc.1; omega, hc.2⟩, fun r e => ⟨_, e _ rfl, rfl⟩⟩))))))))
  · rw [if_neg fun z => by rw [z.1, z.2.1] at hq; cases hq] at eR
    exact wps_ret (wp_bl ⟨s, rfl, fin (by rw [eR]; rfl) fun s2 e => by rw [eR] at e; cases e⟩)
  obtain ⟨h3, h4⟩ := Bool.or_eq_false_iff.mp hq
  have h3 := nb_f h3
  have h4 := nb_f h4
  obtain ⟨h5, h6⟩ := numC_val h4
  refine wps_seq (wps_lolApp (n := 2) (p := a) (xss := s.ls) (xs := s.ts.map telD) rfl rfl (by rw [List.length_map]; omega) fun F1 H1 O1 => ?_)
  show wp _ _ [.v (.ref a), .d (strD l), .d (.lst ([w0, b, c].map strD)), .no, .d nd4, .no, .no, .no] _
  refine wp_tup (wpa_cons (wp_op (wp_var rfl (wp_int (r2_ixL (d := strD b) rfl (wpa_cons (wp_cb (wpa_cons (wp_op (wp_var rfl (wp_int (r2_ixL (d := strD c) rfl (wpa_nil (rc_intS h5 (by rw [S_len]; omega) (wpa_nil ⟨by simp, ?_⟩)))))))))))))))
  have eG : (Ent.o (lolP K a (s.ls.set 2 (s.ts.map telD ++ [.tup [strD b, .int (valC c)]])))) = .o (rsO K a { s with ts := s.ts ++ [(b, valC c)] }) := by
    show Ent.o (lolP K a _) = Ent.o (lolP K a _)
    unfold RS.ls
    rw [List.map_append]
    rfl
  rw [eG]
  show wps _ _ [.o (rsO K a { s with ts := s.ts ++ [(b, valC c)] }), .d (strD l), .d (.lst ([w0, b, c].map strD)), .no, .d nd4, .no, .no, .no] _ _
  refine wps_ret (wp_pkL (.cons pk_lol (.cons pk_d (.cons pk_d (.cons pk_no (.cons pk_d (.cons pk_no (.cons pk_no (.cons pk_no .nil)))))))) fun F1 H1 => ?_)
  refine wp_op (wp_op (wp_var rfl (wp_int (r2_ixL rfl (wp_l (wpl_lst (wpa_nil ⟨by simp, r2_neD okP.cmp ok_nilL.cmp ⟨rfl, _, rfl, fin ?_ ?_⟩⟩)))))))
  · rw [eqv_nilL, eR]
    by_cases hp : s.ps = []
    · rw [if_neg fun z => z.2.2 hp, hp]; rfl
    · rw [if_pos ⟨h3, h4, hp⟩]
      cases e : s.ps with
      | nil => exact absurd e hp
      | cons x y => rfl
  · intro s2 e
    rw [eR] at e
    split at e
    · exact Option.some.inj e
    · cases e
end Sd
set_option Elab.async false
set_option linter.all false
set_option maxRecDepth 100000
set_option maxHeartbeats 4000000
namespace Sd
open PySem PySem.Spec L2
open SX (S S_len S_cat S_inj)
open TL (numL joinL spl)
local macro_rules | `(tactic| walk_at "r") => `(tactic| (first | (dsimp only [cxOf, Cx.nox, Cx.wish, Cx.blk]; done) | (dsimp only [cxOf, Cx.nox, Cx.wish, Cx.blk]; rfl) | rfl))
local macro_rules | `(tactic| walk_at "k") => `(tactic| kernel_rfl)
local macro_rules | `(tactic| walk_at "s") => `(tactic| try dsimp only [cxOf, List.map_cons, List.map_nil])
local macro_rules | `(tactic| walk_at "d") => `(tactic| first
  | (with_reducible refine wps_seq ?_)
  | (with_reducible refine wps_ret ?_)
  | (with_reducible refine wps_if ?_)
  | (with_reducible refine wps_next ?_)
  | (with_reducible refine wps_drop ?_)
  | (with_reducible refine wpt_test ?_)
  | (with_reducible refine wpt_B ?_)
  | (with_reducible refine wpt_not ?_)
  | (with_reducible refine wpt_or ?_)
  | (with_reducible refine wpt_and ?_)
  | (with_reducible refine wp_andV ?_)
  | (with_reducible refine wp_orV ?_)
  | (with_reducible refine wp_notV ?_)
  | (refine wp_isiB (by decide) ?_)
  | (with_reducible refine wp_chain ?_)
  | (with_reducible refine wp_op ?_)
  | (with_reducible refine wp_tup ?_)
  | (with_reducible refine wpl_lst ?_)
  | (with_reducible refine wp_m1 ?_)
  | (with_reducible refine wp_m0 ?_)
  | (with_reducible refine wp_cb ?_)
  | (with_reducible refine wpa_cons ?_)
  | (with_reducible refine wpa_nil ?_)
  | (with_reducible refine wp_int ?_)
  | (with_reducible refine wp_str ?_)
  | (with_reducible refine wp_bl ?_)
  | (with_reducible refine wp_non ?_)
  | (refine wp_var rfl ?_)
  | (refine rc_len rfl ?_)
  | (refine r2_ii ?_)
  | (refine r2_ib ?_)
  | (refine ⟨_, rfl, ?_⟩))
variable {P : Program} {wd : World} {mg : Str → Option Value} {base : Heap} {K : PySem.W.Frag}
abbrev sp__law_read (K : PySem.W.Frag) : Sp := spP K (pre1 fun x => ∃ l, x = strD l ∧ TxOk l) (post1 fun x r => ∀ l, x = strD l → r = resD (readR l))
theorem ok__law_read (T : Tx P K mg) : FnOk P wd K mg base CX0 5 T.f__law_read T.d__law_read ["_law_text"] (sp__law_read K) := by
  refine fn_P T.F__law_read sc__law_read (fun ds h => by obtain ⟨_, rfl, _⟩ := pre1_inv h; rfl) (fun cdv A outer s H E hr => ⟨_, (have nd := sc__law_read.nd; (pss_cons (ps_par (i := 1) (j := 2) rfl nd rfl rfl (by decide) rfl rfl (pa_cons (pe_split (pv 0) pe_str) (pa_cons (pe_lst (pa_cons (pe_lst pa_nil) (pa_cons (pe_lst pa_nil) (pa_cons (pe_lst pa_nil) pa_nil)))) pa_nil)) (by rfl))
      (pss_cons (ps_set (i := 3) nd rfl (.inl rfl) (pe_cmpR op_eq (pe_ix ix_list (pv 1) (pe_un un_neg pe_int) (fun _ _ => rfl)) pe_str (nomark _)))
      (pss_cons (ps_set (i := 1) nd rfl (.inl rfl) (pe_ifExp (pt_val (pv 3)) (pe_slice sl_list (pv 1) po_none (po_some (pe_un un_neg pe_int))) (pv 1)))
      (pss_cons (ps_for PassesOwn.never rfl (pi_enum rfl T.m_enumerate (pa_cons (pv 1) pa_nil)) (pg_tup rfl (pgs_cons (pg_name (i := 4) nd rfl (.inl rfl)) (pgs_cons (pg_name (i := 5) nd rfl (.inl rfl)) pgs_nil))) (pss_one (ps_if (pt_not (pt_val (pe_call (ok__law_taken T) (hr.mono (by decide)) rfl T.g__law_taken T.F__law_taken.kp T.b__law_taken .nil pass0 (pa_cons (pv 2) (pa_cons (pv 5) pa_nil))))) (pss_one (ps_ret (pe_tup (pa_cons pe_str (pa_cons (pv 4) pa_nil))))) pss_nil)))
      (pss_cons (ps_if (PW.pt (pw_or (pt_not (pt_val (pv 3))) (pw_or1 (pt_cmpR (op_eqD hr.units) (pe_ix ix_list (pv 2) pe_int (fun _ _ => rfl)) (pe_lst pa_nil) (nomark _))))) (pss_one (ps_ret (pe_tup (pa_cons pe_str (pa_cons (pe_callB call_len rfl T.m_len (by decide +kernel) (pa_cons (pv 1) pa_nil)) pa_nil))))) pss_nil)
      (pss_cons (ps_set (i := 6) nd rfl (.inl rfl) (pe_tup (pa_cons (pe_callTy call_tuple_of rfl T.m_tuple (by decide +kernel) (pa_cons (pe_ix ix_list (pv 2) pe_int (fun _ _ => rfl)) pa_nil)) (pa_cons (pe_callTy call_tuple_of rfl T.m_tuple (by decide +kernel) (pa_cons (pe_ix ix_list (pv 2) pe_int (fun _ _ => rfl)) pa_nil)) (pa_cons (pe_callTy call_tuple_of rfl T.m_tuple (by decide +kernel) (pa_cons (pe_ix ix_list (pv 2) pe_int (fun _ _ => rfl)) pa_nil)) pa_nil)))))
      (pss_cons (ps_set (i := 7) nd rfl (.inl rfl) (pe_call (ok__law_wrong_part T) (hr.mono (by decide)) rfl T.g__law_wrong_part T.F__law_wrong_part.kp T.b__law_wrong_part .nil pass0 (pa_cons (pe_ix ix_tup (pv 6) pe_int (fun _ _ => rfl)) (pa_cons (pe_ix ix_tup (pv 6) pe_int (fun _ _ => rfl)) (pa_cons (pe_ix ix_tup (pv 6) pe_int (fun _ _ => rfl)) pa_nil)))))
      (pss_one (ps_ret (pe_ifExp (pt_cmpR op_notN (pv 7) pe_non (nomark _)) (pe_tup (pa_cons pe_str (pa_cons (pv 7) pa_nil))) (pe_tup (pa_cons pe_str (pa_cons (pv 6) pa_nil)))))))))))))), fun F0 H0 ds hp => ?_⟩)
  walk_at "s"
  obtain ⟨x, rfl, l, rfl, hl⟩ := pre1_inv hp
  show wps _ _ [.d (strD l), .no, .no, .no, .no, .no, .no, .no] _ _
  have hll := hl.len
  have hcn := hl.cn
  have fin : ∀ {r : D}, r = resD (readR l) → ∀ l2, strD l = strD l2 → r = resD (readR l2) := fun e l2 e2 => by rw [e, strD_inj e2]
  refine wps_seq (wps_parLol3 (by simp) (wp_is (.lst ((splitC l 10).map strD)) (wp_l (wpl_m1 (wp_var rfl ⟨⟨_, rfl⟩, wp_str ?_⟩))) fun x => ?_))
  · rw [show ("\n" : Str) = S [10] by decide +kernel]
    refine rm_split (by decide +kernel) (by rw [S_len]; omega) ?_
    rw [split_C _ _ (by decide), ← strs_map]
  show wps _ _ [.d (strD l), .d (.lst ((splitC l 10).map strD)), .o (rsO K x ⟨[], [], []⟩), .no, .no, .no, .no, .no] _ _
  obtain ⟨ws, w, ew⟩ : ∃ ws w, splitC l 10 = ws ++ [w] := by
    have hne : splitC l 10 ≠ [] := spl_ne
    exact ⟨(splitC l 10).dropLast, (splitC l 10).getLast hne, (List.dropLast_concat_getLast hne).symm⟩
  have eE : endsC l = decide (w = []) := by
    unfold endsC
    rw [ew, List.getLast?_append]
    simp
  have eLn : linesC l = if w = [] then ws else ws ++ [w] := by
    unfold linesC
    rw [ew, List.getLast?_append]
    simp
  rw [ew]
  have eL : (ws ++ [w]).map strD = ws.map strD ++ [strD w] := by rw [List.map_append]; rfl
  rw [eL]
  refine wps_seq (wps_asgV (.bl (endsC l)) (wp_op (wp_op (wp_var rfl (wp_un (wp_int (ru_ii (r2_ixL (HT_last _ _) (wp_str (r2_eqS ?_))))))))) ?_)
  · rw [show ("" : Str) = S [] by decide +kernel, S_eq, eE]
  show wps _ _ [.d (strD l), .d (.lst (ws.map strD ++ [strD w])), .o (rsO K x ⟨[], [], []⟩), .d (.bl (endsC l)), .no, .no, .no, .no] _ _
  refine wps_seq (wps_asgV (.lst ((linesC l).map strD)) (wp_ifD (endsC l) (wpt_B (wp_var rfl ⟨_, rfl, rfl⟩)) (fun h => wp_l (wpl_sl (wp_var rfl (wpo_none (wpo_some (wp_un (wp_int (ru_ii ⟨-1, rfl, rs_list ?_⟩)))))))) fun h => wp_var rfl ?_) ?_)
  · rw [cutm1, eLn, if_pos (of_decide_eq_true (eE.symm.trans h))]
  · rw [eLn, if_neg (of_decide_eq_false (eE.symm.trans h)), eL]
  show wps _ _ [.d (strD l), .d (.lst ((linesC l).map strD)), .o (rsO K x ⟨[], [], []⟩), .d (.bl (endsC l)), .no, .no, .no, .no] _ _
  have hlc := linesC_len l
  have hln : ∀ v ∈ linesC l, LnOk v := fun v hv => hl.line v (linesC_sub hv)
  generalize eLs : linesC l = ls at hlc hln ⊢
  have hls : ls.length ≤ 5000 := by omega
  refine wps_seq (wps_for (ts := [4, 5]) (wpi_enum (wpa_cons (wp_var rfl (wpa_nil ⟨_, rfl, ?_⟩)))))
  refine ⟨fun i G => ∃ (s : RS) (z4 z5 : Ent), G = [.d (strD l), .d (.lst (ls.map strD)), .o (rsO K x s), .d (.bl (endsC l)), z4, z5, .no, .no] ∧ readC ⟨[], [], []⟩ (ls.take i) = some s ∧ RsOk i s, ⟨⟨[], [], []⟩, .no, .no, rfl, rfl, rs0_ok⟩, fun i d G hd hI => ?_, fun G hI => ?_⟩
  · obtain ⟨s, z4, z5, rfl, hs, hok⟩ := hI
    obtain ⟨j, hj, rfl⟩ := map_at hd
    have hi := (List.getElem?_eq_some_iff.mp hj).1
    rw [List.length_range, List.length_map] at hi
    obtain rfl : j = i := by
      rw [List.getElem?_range (by rw [List.length_map]; exact hi)] at hj
      exact (Option.some.inj hj).symm
    have hlj : ls[j]? = some ls[j] := List.getElem?_eq_getElem hi
    have hD : (ls.map strD).getD j .non = strD ls[j] := by
      rw [List.getD_eq_getElem?_getD, List.getElem?_map, hlj]
      rfl
    obtain ⟨st1, st2⟩ := readX_step (s := ⟨[], [], []⟩) (j := 0) rfl hs hlj
    have hlo := hln _ (List.getElem_mem hi)
    rw [hD]
    refine wpg_tup rfl rfl (wpgs_cons (wpg_name (by simp) (wpgs_cons (wpg_name (by simp) (wpgs_nil ?_)))))
    show wps _ _ [.d (strD l), .d (.lst (ls.map strD)), .o (rsO K x s), .d (.bl (endsC l)), .d (.int j), .d (strD ls[j]), .no, .no] _ _
    refine wps_ifNX (wpx_callO rsO_at rfl (wpa_cons (wp_var rfl (wpa_nil ⟨⟨⟨j, by omega, hok⟩, _, rfl, hlo⟩, fun d s' e => ?_⟩))))
    have e := e _ rfl
    cases et : takesC s ls[j] with
    | some s2 =>
      rw [et] at e
      obtain ⟨rfl, e2⟩ := e
      obtain rfl := e2 s2 rfl
      exact ⟨true, rfl, iteT (wps_next ⟨s', _, _, rfl, st2 _ et, takesC_ok hok hlo et⟩)⟩
    | none =>
      rw [et] at e
      obtain ⟨rfl, _⟩ := e
      refine ⟨false, rfl, iteF (wps_ret (wp_tup (wpa_cons (wp_str (wpa_cons (wp_var rfl (wpa_nil ⟨by simp, fin ?_⟩)))))))⟩
      unfold readR
      rw [eLs, st1 et, Nat.zero_add]
      rfl
  · obtain ⟨s, z4, z5, rfl, hs, hok⟩ := hI
    rw [List.length_map, List.length_range, List.length_map, List.take_of_length_le (Nat.le_refl _)] at hs
    rw [List.length_map, List.length_range, List.length_map] at hok
    have hX2 := readX_end (j := 0) hs
    have hok' : RsOk 100000 s := ⟨hok.k, ⟨by have := hok.p.1; omega, fun p hp => by
      obtain ⟨h1, h2, h3⟩ := hok.p.2 p hp
      exact ⟨h1, by omega, h3⟩⟩, ⟨by have := hok.t.1; omega, hok.t.2⟩⟩
    have eR : readR l = if endsC l = false ∨ s.ts = [] then .text ls.length else match s.wrong with
      | some p => .prog p
      | none => .val s := by
      unfold readR
      rw [eLs, hX2]
      all_goals rfl
    refine wps_knowO 2 rfl rfl pk_rs ?_
    show wps _ _ [.d (strD l), .d (.lst (ls.map strD)), .d (lolD s.ls), .d (.bl (endsC l)), z4, z5, .no, .no] _ _
    have emp : decide (s.ts = []) = (s.ts.map telD).isEmpty := by cases s.ts <;> rfl
    refine wps_seq (wps_ifD (!endsC l || decide (s.ts = [])) (wpt_orD (wpt_notD (wpt_B (wp_var rfl ⟨_, rfl, rfl⟩))) fun _ => ?_) (fun h => ?_) (fun h => wps_next ?_))
    · refine wpt_test (wp_op (wp_op (wp_var rfl (wp_int (r2_ixL rfl (wp_l (wpl_lst (wpa_nil ⟨by simp, r2_eqD (hok'.okT (by omega)).cmp ok_nilL.cmp ⟨_, rfl, ?_⟩⟩))))))))
      rw [eqv_nilL, emp]
    · refine wps_ret (wp_tup (wpa_cons (wp_str (wpa_cons (wp_cb (wpa_cons (wp_var rfl (wpa_nil (rc_len rfl (wpa_nil ⟨by simp, fin ?_⟩))))))))))
      rw [eR, if_pos, List.length_map]
      · rfl
      rcases Bool.or_eq_true_iff.mp h with h | h
      · exact .inl (nb_t h)
      · exact .inr (of_decide_eq_true h)
    · obtain ⟨h1, h2⟩ := Bool.or_eq_false_iff.mp h
      have eR2 : readR l = match s.wrong with
        | some p => .prog p
        | none => .val s := by
        rw [eR, if_neg]
        rintro (z | z)
        · rw [nb_f h1] at z; cases z
        · exact of_decide_eq_false h2 z
      refine wps_seq (wps_asgV (.tup [s.kD, s.pD, s.tD]) ?_ ?_)
      · refine wp_tup (wpa_cons (wp_cb (wpa_cons (wp_op (wp_var rfl (wp_int (r2_ixL (d := .lst (s.ks.map strD)) rfl (wpa_nil (rc_tupL ?_)))))))))
        refine wpa_cons (wp_cb (wpa_cons (wp_op (wp_var rfl (wp_int (r2_ixL (d := .lst (s.ps.map pasD)) rfl (wpa_nil (rc_tupL ?_))))))))
        exact wpa_cons (wp_cb (wpa_cons (wp_op (wp_var rfl (wp_int (r2_ixL (d := .lst (s.ts.map telD)) rfl (wpa_nil (rc_tupL (wpa_nil ⟨by simp, rfl⟩)))))))))
      show wps _ _ [.d (strD l), .d (.lst (ls.map strD)), .d (lolD s.ls), .d (.bl (endsC l)), z4, z5, .d (.tup [s.kD, s.pD, s.tD]), .no] _ _
      refine wps_seq (wps_asgV (match s.wrong with | some p => D.str p | none => D.non) ?_ ?_)
      · refine wp_callP (wpa_cons (wp_op (wp_var rfl (wp_int (r2_ixT (d := s.kD) rfl ?_)))))
        refine wpa_cons (wp_op (wp_var rfl (wp_int (r2_ixT (d := s.pD) rfl ?_))))
        refine wpa_cons (wp_op (wp_var rfl (wp_int (r2_ixT (d := s.tD) rfl ?_))))
        exact wpa_nil ⟨⟨s, rfl, rfl, rfl, hok'⟩, fun r e => e s rfl rfl rfl⟩
      show wps _ _ [.d (strD l), .d (.lst (ls.map strD)), .d (lolD s.ls), .d (.bl (endsC l)), z4, z5, .d (.tup [s.kD, s.pD, s.tD]), .d (match s.wrong with | some p => D.str p | none => D.non)] _ _
      cases ewr : s.wrong with
      | some p =>
        rw [ewr] at eR2
        refine wps_ret (wp_ifD true (wpt_test (wp_op (wp_var rfl (wp_non (r2_notN ⟨_, rfl, rfl⟩))))) (fun _ => wp_tup (wpa_cons (wp_str (wpa_cons (wp_var rfl (wpa_nil ⟨by simp, fin ?_⟩)))))) (fun h => nomatch h))
        rw [eR2]
        rfl
      | none =>
        rw [ewr] at eR2
        refine wps_ret (wp_ifD false (wpt_test (wp_op (wp_var rfl (wp_non (r2_notN ⟨_, rfl, rfl⟩))))) (fun h => nomatch h) (fun _ => wp_tup (wpa_cons (wp_str (wpa_cons (wp_var rfl (wpa_nil ⟨by simp, fin ?_⟩)))))))
        rw [eR2]
        rfl
end Sd
set_option Elab.async false
set_option linter.all false
set_option maxRecDepth 100000
set_option maxHeartbeats 4000000
namespace Sd
open PySem PySem.Spec L2
open SX (S S_len S_cat S_inj)
open TL (numL joinL spl)

def tourD : Option (List (List Nat)) → D
  | some ws => .tup (ws.map strD)
  | none => .non
theorem mem_strs {ks : List (List Nat)} {w : List Nat} : decide (S w ∈ ks.map S) = decide (w ∈ ks) := by
  refine decide_eq_decide.mpr ⟨fun h => ?_, fun h => List.mem_map.mpr ⟨w, h, rfl⟩⟩
  obtain ⟨v, hv, e⟩ := List.mem_map.mp h
  rw [← S_inj e]
  exact hv
theorem nameC_len {l : List Nat} (h : nameC l = true) : l.length ≤ 8 := by
  unfold nameC at h
  rw [Bool.and_eq_true, Bool.and_eq_true] at h
  exact of_decide_eq_true h.1.2
local macro_rules | `(tactic| walk_at "r") => `(tactic| (first | (dsimp only [cxOf, Cx.nox, Cx.wish, Cx.blk]; done) | (dsimp only [cxOf, Cx.nox, Cx.wish, Cx.blk]; rfl) | rfl))
local macro_rules | `(tactic| walk_at "k") => `(tactic| kernel_rfl)
local macro_rules | `(tactic| walk_at "s") => `(tactic| try dsimp only [cxOf, List.map_cons, List.map_nil])
local macro_rules | `(tactic| walk_at "d") => `(tactic| first
  | (with_reducible refine wps_seq ?_)
  | (with_reducible refine wps_ret ?_)
  | (with_reducible refine wps_if ?_)
  | (with_reducible refine wps_next ?_)
  | (with_reducible refine wps_drop ?_)
  | (with_reducible refine wpt_test ?_)
  | (with_reducible refine wpt_B ?_)
  | (with_reducible refine wpt_not ?_)
  | (with_reducible refine wpt_or ?_)
  | (with_reducible refine wpt_and ?_)
  | (with_reducible refine wp_andV ?_)
  | (with_reducible refine wp_orV ?_)
  | (with_reducible refine wp_notV ?_)
  | (refine wp_isiB (by decide) ?_)
  | (with_reducible refine wp_chain ?_)
  | (with_reducible refine wp_op ?_)
  | (with_reducible refine wp_tup ?_)
  | (with_reducible refine wpl_lst ?_)
  | (with_reducible refine wp_m1 ?_)
  | (with_reducible refine wp_m0 ?_)
  | (with_reducible refine wp_cb ?_)
  | (with_reducible refine wpa_cons ?_)
  | (with_reducible refine wpa_nil ?_)
  | (with_reducible refine wp_int ?_)
  | (with_reducible refine wp_str ?_)
  | (with_reducible refine wp_bl ?_)
  | (with_reducible refine wp_non ?_)
  | (refine wp_var rfl ?_)
  | (refine rc_len rfl ?_)
  | (refine r2_ii ?_)
  | (refine r2_ib ?_)
  | (refine ⟨_, rfl, ?_⟩))
variable {P : Program} {wd : World} {mg : Str → Option Value} {base : Heap} {K : PySem.W.Frag}
abbrev sp__law_tour_of (K : PySem.W.Frag) : Sp := spP K (pre2 fun x y => ∃ (ks : List (List Nat)) (l : List Nat), x = .tup (ks.map strD) ∧ y = strD l ∧ l.length ≤ 100000 ∧ ∀ c ∈ l, c < 1114112) (post2 fun x y r => ∀ (ks : List (List Nat)) (l : List Nat), x = .tup (ks.map strD) → y = strD l → r = tourD (orderC ks l))
theorem ok__law_tour_of (T : Tx P K mg) : FnOk P wd K mg base CX0 1 T.f__law_tour_of T.d__law_tour_of ["_law_sorts", "_law_text"] (sp__law_tour_of K) := by
  refine fn_P T.F__law_tour_of sc__law_tour_of (fun ds h => by obtain ⟨_, _, rfl, _⟩ := pre2_inv h; rfl) (fun cdv A outer s H E hr => ⟨_, (have nd := sc__law_tour_of.nd; (pss_cons (ps_set (i := 2) nd rfl (.inl rfl) (pe_ifExp (pt_cmpR op_ne (pv 1) pe_str (nomark _)) (pe_split (pv 1) pe_str) (pe_lst pa_nil)))
      (pss_one (ps_ret (pe_ifExp (pt_cmpR (op_eqD hr.units) (pe_lc (own := [("_law_word", 3)]) (g := gName 3) rfl nd (pi_list (pv 2)) (blkOk_by (N := N__law_tour_of) (sc := defScope s__law_tour_of) (by decide +kernel)) (fun _ _ _ _ _ => (pg_name (i := 3) nd rfl (.inl rfl))) (fun _ _ _ _ _ => (castT (pts_one (pt_cmpR op_notIn_seq (pv 3) (pv 0) (by rfl))) (by walk_at "r"))) (fun _ _ _ _ _ => (castE (pv 3) (by walk_at "r")))) (pe_lst pa_nil) (nomark _)) (pe_callTy call_tuple_of rfl T.m_tuple (by decide +kernel) (pa_cons (pv 2) pa_nil)) pe_non))))), fun F0 H0 ds hp => ?_⟩)
  walk_at "s"
  obtain ⟨x, y, rfl, ks, l, rfl, rfl, hl, hc⟩ := pre2_inv hp
  show wps _ _ [.d (.tup (ks.map strD)), .d (strD l), .no, .no] _ _
  have fin : ∀ {r : D}, r = tourD (orderC ks l) → ∀ (ks2 : List (List Nat)) (l2 : List Nat), D.tup (ks.map strD) = .tup (ks2.map strD) → strD l = strD l2 → r = tourD (orderC ks2 l2) := fun e ks2 l2 e1 e2 => by rw [e, kD_inj (D.tup.inj e1), strD_inj e2]
  have ed : ("-" : Str) = S [45] := by decide +kernel
  have hcnt : (wordsC l).length ≤ 1000000 := by
    unfold wordsC
    split
    · simp
    · have := spl_cnt (l := l) (acc := []) (c := 32)
      unfold splitC
      omega
  have hwf : ∀ w ∈ wordsC l, w.length ≤ 1000000 ∧ ∀ c ∈ w, c < 1114112 := fun w hw => by
    unfold wordsC at hw
    split at hw
    · cases hw
    · unfold splitC at hw
      have h1 := spl_len hw
      refine ⟨by rw [List.length_nil] at h1; omega, fun c hc2 => ?_⟩
      rcases spl_sub hw c hc2 with z | z
      · cases z
      · exact hc c z
  refine wps_seq (wps_asgV (.lst ((wordsC l).map strD)) (wp_ifD (!decide (l = [45])) ?_ (fun h => ?_) (fun h => ?_)) ?_)
  · refine wpt_test (wp_op (wp_var rfl (wp_str (r2_neS ⟨_, rfl, ?_⟩))))
    rw [ed, S_eq]
  · refine wp_l (wpl_m1 (wp_var rfl ⟨⟨_, rfl⟩, wp_str ?_⟩))
    rw [show (" " : Str) = S [32] by decide +kernel]
    refine rm_split (by decide +kernel) (by rw [S_len]; omega) ?_
    unfold wordsC
    rw [split_C _ _ (by decide), ← strs_map, if_neg (of_decide_eq_false (nb_t h))]
  · refine wp_l (wpl_lst (wpa_nil ⟨by simp, ?_⟩))
    unfold wordsC
    rw [if_pos (of_decide_eq_true (nb_f h))]
    rfl
  show wps _ _ [.d (.tup (ks.map strD)), .d (strD l), .d (.lst ((wordsC l).map strD)), .no] _ _
  refine wps_ret (wp_ifD ((wordsC l).all fun w => decide (w ∈ ks)) (wpt_test (wp_emptyLc false (fun d => !inD d (ks.map strD)) id rfl (wpi_lst (wp_var rfl ⟨_, rfl, ?_⟩)))) (fun h => ?_) (fun h => ?_))
  · refine ⟨by rw [List.length_map]; exact hcnt, fun d hd => ?_, fun d a o hd => ?_, _, rfl, ?_⟩
    · obtain ⟨w, hw, rfl⟩ := List.mem_map.mp hd
      obtain ⟨h1, h2⟩ := hwf w hw
      exact fd_str (n := 0) h1 h2
    · obtain ⟨w, hw, rfl⟩ := List.mem_map.mp hd
      refine wpt_test (wp_op (wp_var rfl (wp_var rfl (r2_inT rfl (by rw [strs_map]; exact flat_strs _) ⟨_, rfl, rfl, fun _ => wp_var rfl rfl⟩))))
    · rw [if_neg (by decide), List.all_map]
      congr 1
      funext w
      show (!!inD (strD w) (ks.map strD)) = decide (w ∈ ks)
      rw [Bool.not_not, strs_map, inD_strs]
      exact mem_strs
  · refine wp_cb (wpa_cons (wp_var rfl (wpa_nil (rc_tupL (fin ?_)))))
    unfold orderC
    rw [if_pos h]
    rfl
  · refine wp_non (fin ?_)
    unfold orderC
    rw [if_neg (by rw [h]; decide)]
    rfl
abbrev sp__law_bent_text (K : PySem.W.Frag) : Sp := spR K (pre1 fun x => ∃ ks : List (List Nat), x = .tup (ks.map strD) ∧ ks ≠ [] ∧ ks.length ≤ 1000 ∧ ∀ k ∈ ks, nameC k = true) (post1 fun x r => ∃ l : List Nat, r = strD l ∧ l.length ≤ 1000 ∧ ∀ c ∈ l, c < 1114112)
theorem ok__law_bent_text (T : Tx P K mg) : FnOk P wd K mg base CX0 4 T.f__law_bent_text T.d__law_bent_text ["_law_draws", "_law_sorts"] (sp__law_bent_text K) := by
  refine fn_R T.F__law_bent_text sc__law_bent_text (fun ds h => by obtain ⟨_, rfl, _⟩ := pre1_inv h; rfl) (fun cdv A outer s H E hr => ⟨_, (have nd := sc__law_bent_text.nd; (pss_cons (ps_set (i := 2) nd rfl (.inl rfl) (pe_callTy call_list_of rfl T.m_list (by decide +kernel) (pa_cons (pe_call (ok__law_tour T) (hr.mono (by decide)) rfl T.g__law_tour T.F__law_tour.kp T.b__law_tour .nil pass0 (pa_cons (pv 0) (pa_cons (pv 1) (pa_cons pe_int pa_nil)))) pa_nil)))
      (pss_cons (ps_set (i := 3) nd rfl (.inl rfl) (pe_ifExp (pt_cmpR (op_neD hr.units) (pv 2) (pe_lst pa_nil) (nomark _)) (pe_join pe_str (pv 2)) pe_str))
      (pss_cons (ps_for PassesOwn.never rfl (pi_range1 rfl T.m_range (pa_cons (pe_call (ok__law_draw T) (hr.mono (by decide)) rfl T.g__law_draw T.F__law_draw.kp T.b__law_draw .nil pass0 (pa_cons (pv 0) (pa_cons pe_int pa_nil))) pa_nil)) (pg_name (i := 4) nd rfl (.inl rfl)) (pss_cons (ps_set (i := 5) nd rfl (.inl rfl) (pe_call (ok__law_draw T) (hr.mono (by decide)) rfl T.g__law_draw T.F__law_draw.kp T.b__law_draw .nil pass0 (pa_cons (pv 0) (pa_cons (pe_op op_add (pe_callB call_len rfl T.m_len (by decide +kernel) (pa_cons (pv 3) pa_nil)) pe_int) pa_nil))))
      (pss_cons (ps_set (i := 6) nd rfl (.inl rfl) (pe_call (ok__law_pick T) (hr.mono (by decide)) rfl T.g__law_pick T.F__law_pick.kp T.b__law_pick .nil pass0 (pa_cons (pv 0) (pa_cons (pe_lst (pa_cons pe_str (pa_cons pe_str (pa_cons pe_str (pa_cons pe_str (pa_cons (pe_ix ix_tup (pv 1) pe_int (fun _ _ => rfl)) (pa_cons pe_str pa_nil))))))) pa_nil))))
      (pss_one (ps_set (i := 3) nd rfl (.inl rfl) (pe_op op_add_str (pe_op op_add_str (pe_slice sl_str (pv 3) po_none (po_some (pv 5))) (pv 6)) (pe_slice sl_str (pv 3) (po_some (pe_op op_add (pv 5) (pe_call (ok__law_draw T) (hr.mono (by decide)) rfl T.g__law_draw T.F__law_draw.kp T.b__law_draw .nil pass0 (pa_cons (pv 0) (pa_cons pe_int pa_nil))))) po_none)))))))
      (pss_one (ps_ret (pv 3))))))), fun F0 H0 p c ds hp => ?_⟩)
  walk_at "s"
  obtain ⟨x, rfl, ks, rfl, hk, hkl, hkn⟩ := pre1_inv hp
  show wps _ _ [.dr p c, .d (.tup (ks.map strD)), .no, .no, .no, .no, .no] _ _
  refine wps_seq (wps_asg (wp_l (wpl_cb (wpa_cons (wp_callR rfl (wpa_cons (wp_var rfl (wpa_cons (wp_int (wpa_nil ⟨⟨⟨ks, rfl, hk, hkl⟩, 5, rfl, by omega, by omega⟩, fun r e => ?_⟩))))))))))
  obtain ⟨ws, rfl, h1, h2⟩ := e ks 5 rfl rfl
  have h3 : ∀ w ∈ ws, w.length ≤ 8 := fun w hw => nameC_len (hkn w (h2 w hw))
  have h4 : ∀ w ∈ ws, ∀ c ∈ w, c < 1114112 := fun w hw => name_sign (hkn w (h2 w hw))
  refine wpa_nil (rc_list rfl ?_)
  show wps _ _ [.dr p c, .d (.tup (ks.map strD)), .d (.lst (ws.map strD)), .no, .no, .no, .no] _ _
  have ed : ("-" : Str) = S [45] := by decide +kernel
  have hsum := sum_len h3
  refine wps_seq (wps_asgV (strD (if ws = [] then [45] else joinL [32] ws)) (wp_ifD (!decide (ws = [])) ?_ (fun h => ?_) (fun h => ?_)) ?_)
  · refine wpt_test (wp_op (wp_var rfl (wp_l (wpl_lst (wpa_nil ⟨by simp, r2_neD (fd_ok (n := 1) (fd_lst (by rw [List.length_map]; omega) fun x hx => by obtain ⟨w, hw, rfl⟩ := List.mem_map.mp hx; exact fd_str (by have := h3 w hw; omega) (h4 w hw)) (by omega)).cmp ok_nilL.cmp ⟨_, rfl, ?_⟩⟩)))))
    rw [eqv_nilL]
    cases ws <;> rfl
  · refine wp_m1 (wp_str ⟨⟨_, rfl⟩, wp_var rfl ?_⟩)
    rw [strs_map, show (" " : Str) = S [32] by decide +kernel]
    refine rm_join ?_ ?_
    · rw [List.length_map, S_len]
      show _ + _ * 1 ≤ _
      omega
    · rw [join_SS, if_neg (of_decide_eq_false (nb_t h))]
  · refine wp_str ?_
    rw [if_pos (of_decide_eq_true (nb_f h)), ed]
  obtain ⟨l0, el0, hl0, hc0⟩ : ∃ l0, (if ws = [] then [45] else joinL [32] ws) = l0 ∧ l0.length ≤ 900 ∧ ∀ c ∈ l0, c < 1114112 := by
    refine ⟨_, rfl, ?_, ?_⟩
    · split
      · simp
      · have := joinL_len [32] h3
        rw [List.length_singleton] at this
        omega
    · split
      · simp
      · exact join_sign h4
  rw [el0]
  refine wps_seq (wps_for (ts := [4, 5, 6, 3]) (wpi_rng (wpa_cons (wp_callR rfl (wpa_cons (wp_int (wpa_nil ⟨⟨3, rfl, by omega, by omega⟩, fun r e => ?_⟩)))))))
  obtain ⟨k, rfl, k0, k1⟩ := e 3 rfl
  refine wpa_nil ⟨k, rfl, by omega, ?_⟩
  refine ⟨fun i G => ∃ (l : List Nat) (z4 z5 z6 : Ent), G = [.dr p c, .d (.tup (ks.map strD)), .d (.lst (ws.map strD)), .d (strD l), z4, z5, z6] ∧ l.length ≤ 900 + 10 * i ∧ ∀ c ∈ l, c < 1114112, ⟨l0, .no, .no, .no, rfl, by omega, hc0⟩, fun i d G hd hI => ?_, fun G hI => ?_⟩
  · obtain ⟨l, z4, z5, z6, rfl, hl, hc⟩ := hI
    have hi := (List.getElem?_eq_some_iff.mp hd).1
    rw [List.length_map, List.length_range] at hi
    refine wpg_name (by simp) ?_
    show wps _ _ [.dr p c, .d (.tup (ks.map strD)), .d (.lst (ws.map strD)), .d (strD l), .d d, z5, z6] _ _
    refine wps_seq (wps_asg (wp_callR rfl (wpa_cons (wp_op (wp_cb (wpa_cons (wp_var rfl (wpa_nil (rc_len (len_str (by rw [S_len]; omega)) (wp_int (r2_ii (wpa_nil ⟨⟨((S l).length : Int) + 1, rfl, ?_, ?_⟩, fun r e => ?_⟩))))))))))))
    · rw [S_len]; omega
    · rw [S_len]; omega
    obtain ⟨s, rfl, s0, s1⟩ := e _ rfl
    rw [S_len] at s1
    show wps _ _ [.dr p c, .d (.tup (ks.map strD)), .d (.lst (ws.map strD)), .d (strD l), .d d, .d (.int s), z6] _ _
    obtain ⟨k1, kr, ek⟩ : ∃ k1 kr, ks = k1 :: kr := by
      cases ks with
      | nil => exact absurd rfl hk
      | cons a b => exact ⟨a, b, rfl⟩
    refine wps_seq (wps_asg (wp_callR rfl (wpa_cons (wp_l (wpl_lst ?_)))))
    refine wpa_cons (wp_str (wpa_cons (wp_str (wpa_cons (wp_str (wpa_cons (wp_str (wpa_cons (wp_op (wp_var rfl (wp_int (r2_ixT (d := strD k1) (by rw [ek, List.map_cons]; exact at0 _ _) (wpa_cons (wp_str (wpa_nil ⟨by simp, wpa_nil ⟨⟨by simp [itemsP], by simp [itemsP]⟩, fun r e => ?_⟩⟩)))))))))))))))
    obtain ⟨g, rfl, hg1, hg2⟩ : ∃ g : List Nat, r = strD g ∧ g.length ≤ 8 ∧ ∀ c ∈ g, c < 1114112 := by
      have e' : r ∈ [D.str " ", .str "-", .str "a", .str "\n", strD k1, .str ""] := e
      simp only [List.mem_cons, List.not_mem_nil, or_false] at e'
      rcases e' with rfl | rfl | rfl | rfl | rfl | rfl
      · exact ⟨[32], by rw [show (" " : Str) = S [32] by decide +kernel], by decide, by simp⟩
      · exact ⟨[45], by rw [show ("-" : Str) = S [45] by decide +kernel], by decide, by simp⟩
      · exact ⟨[97], by rw [show ("a" : Str) = S [97] by decide +kernel], by decide, by simp⟩
      · exact ⟨[10], by rw [show ("\n" : Str) = S [10] by decide +kernel], by decide, by simp⟩
      · have hn := hkn k1 (by rw [ek]; simp)
        exact ⟨k1, rfl, nameC_len hn, name_sign hn⟩
      · exact ⟨[], by rw [show ("" : Str) = S [] by decide +kernel], by decide, by simp⟩
    show wps _ _ [.dr p c, .d (.tup (ks.map strD)), .d (.lst (ws.map strD)), .d (strD l), .d d, .d (.int s), .d (strD g)] _ _
    obtain ⟨n, rfl⟩ : ∃ n : Nat, s = n := ⟨s.toNat, by omega⟩
    have hS : (S l).length ≤ 1000000 := by rw [S_len]; omega
    refine wps_asg (wp_op (wp_op (wp_sl (wp_var rfl (wpo_none (wpo_some (wp_var rfl ⟨n, rfl, rs_str hS (wp_var rfl ?_)⟩)))))))
    rw [show cutS (S l) none (some n) = S (l.take n) from cut_to l n]
    have ht : (l.take n).length ≤ l.length := List.length_take_le' _ _
    refine r2_addS (by rw [S_len, S_len]; omega) ?_
    rw [S_cat]
    refine wp_sl (wp_var rfl (wpo_some (wp_op (wp_var rfl (wp_callR rfl (wpa_cons (wp_int (wpa_nil ⟨⟨2, rfl, by omega, by omega⟩, fun r e => ?_⟩)))))))) 
    obtain ⟨j, rfl, j0, j1⟩ := e 2 rfl
    obtain ⟨m, rfl⟩ : ∃ m : Nat, j = m := ⟨j.toNat, by omega⟩
    refine r2_ii ⟨((n + m : Nat) : Int), by push_cast; rfl, wpo_none (rs_str hS ?_)⟩
    rw [show cutS (S l) (some ((n + m : Nat) : Int)) none = S (l.drop (n + m)) from cut_from l (n + m)]
    have hd2 : (l.drop (n + m)).length ≤ l.length := by rw [List.length_drop]; omega
    have hlen : (l.take n ++ g ++ l.drop (n + m)).length ≤ l.length + g.length := by
      rw [List.length_append, List.length_append, List.length_take, List.length_drop]
      omega
    refine r2_addS (by rw [S_len, S_len, List.length_append]; omega) ?_
    rw [S_cat]
    refine ⟨_, _, _, _, rfl, by omega, fun c hc' => ?_⟩
    rcases List.mem_append.mp hc' with hc' | hc'
    · rcases List.mem_append.mp hc' with hc' | hc'
      · exact hc c (List.mem_of_mem_take hc')
      · exact hg2 c hc'
    · exact hc c (List.mem_of_mem_drop hc')
  · obtain ⟨l, z4, z5, z6, rfl, hl, hc⟩ := hI
    rw [List.length_map, List.length_range] at hl
    exact wps_ret (wp_var rfl ⟨rfl, l, rfl, by omega, hc⟩)
end Sd
set_option Elab.async false
set_option linter.all false
set_option maxRecDepth 100000
set_option maxHeartbeats 4000000
namespace Sd
open PySem PySem.Spec L2
local macro_rules | `(tactic| walk_at "r") => `(tactic| (first | (dsimp only [cxOf, Cx.nox, Cx.wish, Cx.blk]; done) | (dsimp only [cxOf, Cx.nox, Cx.wish, Cx.blk]; rfl) | rfl))
local macro_rules | `(tactic| walk_at "k") => `(tactic| kernel_rfl)
local macro_rules | `(tactic| walk_at "s") => `(tactic| try dsimp only [cxOf, List.map_cons, List.map_nil])
local macro_rules | `(tactic| walk_at "d") => `(tactic| first
  | (with_reducible refine wps_seq ?_)
  | (with_reducible refine wps_ret ?_)
  | (with_reducible refine wps_if ?_)
  | (with_reducible refine wps_next ?_)
  | (with_reducible refine wps_drop ?_)
  | (with_reducible refine wpt_test ?_)
  | (with_reducible refine wpt_B ?_)
  | (with_reducible refine wpt_not ?_)
  | (with_reducible refine wpt_or ?_)
  | (with_reducible refine wpt_and ?_)
  | (with_reducible refine wp_andV ?_)
  | (with_reducible refine wp_orV ?_)
  | (with_reducible refine wp_notV ?_)
  | (refine wp_isiB (by decide) ?_)
  | (with_reducible refine wp_chain ?_)
  | (with_reducible refine wp_op ?_)
  | (with_reducible refine wp_tup ?_)
  | (with_reducible refine wpl_lst ?_)
  | (with_reducible refine wp_m1 ?_)
  | (with_reducible refine wp_m0 ?_)
  | (with_reducible refine wp_cb ?_)
  | (with_reducible refine wpa_cons ?_)
  | (with_reducible refine wpa_nil ?_)
  | (with_reducible refine wp_int ?_)
  | (with_reducible refine wp_str ?_)
  | (with_reducible refine wp_bl ?_)
  | (with_reducible refine wp_non ?_)
  | (refine wp_var rfl ?_)
  | (refine rc_len rfl ?_)
  | (refine r2_ii ?_)
  | (refine r2_ib ?_)
  | (refine ⟨_, rfl, ?_⟩))
variable {P : Program} {wd : World} {mg : Str → Option Value} {base : Heap} {K : PySem.W.Frag}

open LamX in
theorem _law_text_told_gives {X : Cx} (T : Tx X.prog X.K X.mg) (cdg : Value) {q : Str} : GivesTo X N__law_text_told "_law_text_told" (defScope s__law_text_told) T.f__law_text_told cdg (defBody s__law_text_told) "_law_work" q (TTell X.K T.a_SeedError T.a_BadText T.a_BadProgram) := by
  intro f c' s H Q tl act hc h
  have nd := sc__law_text_told.nd
  have hu : True := trivial
  refine ⟨_, pss_cons (ps_set (i := 1) nd rfl (.inl rfl) pe_non) (pss_cons (ps_try_keep (X := (cxOf C8.CX0 X.prog X.w X.K X.mg X.base N__law_text_told "_law_text_told" (defScope s__law_text_told) T.f__law_text_told cdg X.A X.stack s H C8.E0).nox) (c := .ref T.a_SeedError) (i := 3)
      (tb := fun W D σ H => ∃ Ech : XK, (∀ cls d σ' H', σ'.length = 4 → Ech cls d H' → W cls d σ' H') ∧ σ[0]? = some (some (.ref f)) ∧ H c' = some (CodeO c' q) ∧ tl Ech H (fun v H' => D.nx (σ.set 2 (some v)) H'))
      rfl rfl nd rfl rfl rfl ⟨rfl, by decide, .inl T.g_SeedError⟩ (fun W pn xe tk _ => ?_) (fun a oe pn => pss_one (ps_set (i := 1) nd rfl (.inl rfl) (pv 3))))
    (pss_cons (ps_if (pt_cmpR op_isN (pv 1) pe_non (nomark _)) (pss_one (ps_ret (pe_tup (pa_cons pe_str (pa_cons (pv 2) pa_nil))))) pss_nil)
    (pss_cons (ps_if (pt_val (pe_callB call_isV rfl T.m_isinstance (by decide +kernel) (pa_cons (pv 1) (pa_cons (pe_glob (v := .ref T.a_BadText) rfl T.g_BadText rfl) pa_nil)))) (pss_one (ps_ret (pe_tup (pa_cons pe_str (pa_cons (pe_fldV (pv 1)) pa_nil))))) pss_nil)
    (pss_one (ps_ret (pe_ifExp (pt_val (pe_callB call_isV rfl T.m_isinstance (by decide +kernel) (pa_cons (pv 1) (pa_cons (pe_glob (v := .ref T.a_BadProgram) rfl T.g_BadProgram rfl) pa_nil)))) (pe_tup (pa_cons pe_str (pa_cons (pe_fldV (pv 1)) pa_nil))) (pe_tup (pa_cons pe_str pa_nil)))))))), ?_⟩
  · refine ⟨fun pins s' σ H' D I h' => ?_⟩
    obtain ⟨Ech, hW, h1, h2, h3⟩ := h'
    have tk' : L2.Takes ((cxOf C8.CX0 X.prog X.w X.K X.mg X.base N__law_text_told "_law_text_told" (defScope s__law_text_told) T.f__law_text_told cdg X.A X.stack s H C8.E0).nox.tr pn xe) (fun cls d σ H => σ.length = 4 → W cls d σ H) := fun u s2 x => by
      obtain ⟨a, B, sI, pins', σ2, H2, cls, d, e1, I2, e2, e3, e4, e5, e6, e7, w⟩ := x
      exact tk u s2 ⟨a, B, sI, pins', σ2, H2, cls, d, e1, I2, e2, e3, e4, e5, e6, e7, w I2.len⟩
    have hp := act _ pn xe Ech ⟨323, 21, 323, 30⟩ ⟨323, 21, 323, 32⟩ tk' fun cls d σ' H' e hl => hW cls d σ' H' hl e
    have hq := pss_one (ps_set (i := 2) (pos := ⟨323, 8, 323, 32⟩) (pos' := ⟨323, 8, 323, 18⟩) nd rfl (.inl rfl) hp)
    exact hq.run pins s' σ H' D I ⟨h1, h2, h3⟩
  · refine ⟨fun cls d H' => ∀ σ' : L2.St, σ'.length = 4 → (_ : WX) cls d σ' H', fun cls d σ' H' hl e => e σ' hl, rfl, hc, h _ _ (fun v H' hv => ?_) fun cls d H' hE σ' hl => ?_⟩
    · exact ⟨.non, rfl, rfl, true, by simp, iteT ⟨v, rfl, line_ok (n := 2) (by omega), hv⟩⟩
    · obtain ⟨s0, s1, s2, s3, rfl⟩ : ∃ s0 s1 s2 s3, σ' = [s0, s1, s2, s3] := by
        rcases σ' with _ | ⟨s0, _ | ⟨s1, _ | ⟨s2, _ | ⟨s3, _ | ⟨s4, r⟩⟩⟩⟩⟩ <;> first | exact ⟨_, _, _, _, rfl⟩ | cases hl
      obtain ⟨C, dx, fl, v, rfl, rfl, hx, hEx, hXf, hno, hsub, hfin⟩ := hE
      refine ⟨hsub, fun a oe na hz hf => ⟨.ref a, rfl, .ref a, rfl, rfl, false, by simp, iteF ?_⟩⟩
      have hdx : dx ≠ a := fun z => by rw [z, na] at hx; cases hx
      have hEr : ErAt (upd H' a (ExV a oe)) a C dx fl v := ⟨oe, upd_same, hz, hf, by rw [upd_ne hdx]; exact hx⟩
      rcases hfin with ⟨k1, rfl, hq⟩ | ⟨k1, k2, rfl, hq⟩
      · exact ⟨.ref a, rfl, a, C, dx, "row", v, T.a_BadText, true, rfl, hEr, hEx, k1, true, rfl, iteT ⟨.ref a, rfl, a, C, dx, v, rfl, hEr, hXf, hno, line_ok (n := 2) (by omega), fun p hp => hq a oe na p hp⟩⟩
      · exact ⟨.ref a, rfl, a, C, dx, "part", v, T.a_BadText, false, rfl, hEr, hEx, k1, false, rfl, iteF ⟨.ref a, rfl, a, C, dx, "part", v, T.a_BadProgram, true, rfl, hEr, hEx, k2, true, rfl, iteT ⟨.ref a, rfl, a, C, dx, v, rfl, hEr, hXf, hno, line_ok (n := 2) (by omega), fun p hp => hq a oe na p hp⟩⟩⟩
end Sd
set_option Elab.async false
set_option linter.all false
set_option maxRecDepth 100000
set_option maxHeartbeats 4000000
namespace Sd
open PySem PySem.Spec L2
open SX (S S_len S_cat S_inj)
open TL (numL joinL spl)
open LamX

theorem iteF' {b : Bool} {p q : Prop} (h : b = false) (hq : q) : if b = true then p else q := by rw [h]; exact hq
theorem iteT' {b : Bool} {p q : Prop} (h : b = true) (hp : p) : if b = true then p else q := by rw [if_pos h]; exact hp
def ordD : Option (List (List Nat)) → D
  | some ws => .tup [.str "value", .tup (ws.map strD)]
  | none => .tup [.str "text", .int 0]
theorem order_names {ks : List (List Nat)} {l : List Nat} {ws : List (List Nat)} (hk : ∀ k ∈ ks, nameC k = true) (e : orderC ks l = some ws) : ∀ w ∈ ws, nameC w = true := by
  unfold orderC at e
  split at e
  · rename_i h
    cases e
    exact fun w hw => hk w (of_decide_eq_true (List.all_eq_true.mp h w hw))
  · cases e
theorem order_len {ks : List (List Nat)} {l : List Nat} {ws : List (List Nat)} (e : orderC ks l = some ws) : ws.length ≤ l.length + 1 := by
  unfold orderC at e
  split at e
  · cases e
    unfold wordsC
    split
    · simp
    · exact spl_cnt
  · cases e
local macro_rules | `(tactic| walk_at "r") => `(tactic| (first | (dsimp only [cxOf, Cx.nox, Cx.wish, Cx.blk]; done) | (dsimp only [cxOf, Cx.nox, Cx.wish, Cx.blk]; rfl) | rfl))
local macro_rules | `(tactic| walk_at "k") => `(tactic| kernel_rfl)
local macro_rules | `(tactic| walk_at "s") => `(tactic| try dsimp only [cxOf, List.map_cons, List.map_nil])
local macro_rules | `(tactic| walk_at "d") => `(tactic| first
  | (with_reducible refine wps_seq ?_)
  | (with_reducible refine wps_ret ?_)
  | (with_reducible refine wps_if ?_)
  | (with_reducible refine wps_next ?_)
  | (with_reducible refine wps_drop ?_)
  | (with_reducible refine wpt_test ?_)
  | (with_reducible refine wpt_B ?_)
  | (with_reducible refine wpt_not ?_)
  | (with_reducible refine wpt_or ?_)
  | (with_reducible refine wpt_and ?_)
  | (with_reducible refine wp_andV ?_)
  | (with_reducible refine wp_orV ?_)
  | (with_reducible refine wp_notV ?_)
  | (refine wp_isiB (by decide) ?_)
  | (with_reducible refine wp_chain ?_)
  | (with_reducible refine wp_op ?_)
  | (with_reducible refine wp_tup ?_)
  | (with_reducible refine wpl_lst ?_)
  | (with_reducible refine wp_m1 ?_)
  | (with_reducible refine wp_m0 ?_)
  | (with_reducible refine wp_cb ?_)
  | (with_reducible refine wpa_cons ?_)
  | (with_reducible refine wpa_nil ?_)
  | (with_reducible refine wp_int ?_)
  | (with_reducible refine wp_str ?_)
  | (with_reducible refine wp_bl ?_)
  | (with_reducible refine wp_non ?_)
  | (refine wp_var rfl ?_)
  | (refine rc_len rfl ?_)
  | (refine r2_ii ?_)
  | (refine r2_ib ?_)
  | (refine ⟨_, rfl, ?_⟩))
variable {P : Program} {wd : World} {mg : Str → Option Value} {base : Heap} {K : PySem.W.Frag}
theorem ok_law (T : Tx P K mg) (TB : LamX.TabB base mg T.c_law T.t_law) : LawRun P wd K mg base 14 T.f_law T.d_law ["_law_script"] (spLawT K T.t_law) := by
  refine law_fnC T.F_law sc_law (fun vs H Q E h => by obtain ⟨_, _, rfl, _⟩ := h; rfl) (fun A outer s H vs Q E hg hr h => ?_)
  have hu := hr.un
  replace hu : (A.deeper (PyProof.Rows.envOfC "law" (defScope s_law) s.heap.objs.size T.f_law (.ref T.c_law))).units + 66 < cLine := by omega
  refine ⟨_, (have nd := sc_law.nd; (pss_cons (ps_set (i := 1) nd rfl (.inl rfl) (pe_call (ok__law_state T) (hr.mono (by decide)) rfl T.g__law_state T.F__law_state.kp T.b__law_state .nil pass0 (pa_cons (pv 0) pa_nil)))
      (pss_cons (ps_for PassesOwn.never rfl (pi_range1 rfl T.m_range (pa_cons (pe_op op_add pe_int (pe_callB (call_min2 rfl) rfl T.m_min (by decide +kernel) (pa_cons (pe_callB call_len rfl T.m_len (by decide +kernel) (pa_cons (pv 0) pa_nil)) (pa_cons pe_int pa_nil)))) pa_nil)) (pg_name (i := 2) nd rfl (.inl rfl)) (pss_cons (ps_set (i := 3) nd rfl (.inl rfl) (pe_call (ok__law_parts T) (hr.mono (by decide)) rfl T.g__law_parts T.F__law_parts.kp T.b__law_parts .nil pass0 (pa_cons (pv 1) (pa_cons pe_int (pa_cons pe_int pa_nil)))))
      (pss_cons (ps_set (i := 4) nd rfl (.inr rfl) (pe_call (ok__law_made T) (hr.mono (by decide)) rfl T.g__law_made T.F__law_made.kp T.b__law_made .nil pass0 (pa_cons (pv 3) pa_nil)))
      (pss_cons (ps_for PassesOwn.never rfl (pi_list (pe_lst (pa_cons pe_non (pa_cons pe_int (pa_cons pe_bl (pa_cons (pe_lst pa_nil) (pa_cons pe_dnewK (pa_cons (pe_tup (pa_cons pe_str pa_nil)) (pa_cons (pe_lst (pa_cons pe_str pa_nil)) pa_nil))))))))) (pg_name (i := 5) nd rfl (.inr rfl)) (pss_cons (ps_if (pt_cmpR (op_neD hr.units) (pe_lamOf (TT := TTell K T.a_SeedError T.a_BadText T.a_BadProgram) (k := 10) rfl T.g__law_text_told T.F__law_text_told T.b__law_text_told sc__law_text_told rfl (.inl rfl) (fun cdg => _law_text_told_gives (X := (cxOf CX0 P wd K mg base N_law "law" (defScope s_law) T.f_law (.ref T.c_law) A outer s H E).nox) T cdg) rfl TB rfl (hr.mono (by decide)) (lamS_by (by show lamSB (defScope s_law) _ = true; decide +kernel)) rfl (fun _ _ _ _ _ => rfl) (fun A outer s H E f c hr => (pe_call (ok_read_program T) (hr.mono (by decide)) rfl T.g_read_program T.F_read_program.kp T.b_read_program .nil passL (pa_cons (pv 5) pa_nil)))) (pe_tup (pa_cons pe_str (pa_cons pe_int pa_nil))) (nomark _)) (pss_one (ps_ret pe_bl)) pss_nil)
      (pss_one (ps_if (pt_cmpR (op_neD hr.units) (pe_lamOf (TT := TTell K T.a_SeedError T.a_BadText T.a_BadProgram) (k := 3) rfl T.g__law_text_told T.F__law_text_told T.b__law_text_told sc__law_text_told rfl (.inl rfl) (fun cdg => _law_text_told_gives (X := (cxOf CX0 P wd K mg base N_law "law" (defScope s_law) T.f_law (.ref T.c_law) A outer s H E).nox) T cdg) rfl TB rfl (hr.mono (by decide)) (lamS_by (by show lamSB (defScope s_law) _ = true; decide +kernel)) rfl (fun _ _ _ _ _ => rfl) (fun A outer s H E f c hr => (pe_call (ok_read_order T) (hr.mono (by decide)) rfl T.g_read_order T.F_read_order.kp T.b_read_order .nil passL (pa_cons (pv 4) (pa_cons (pv 5) pa_nil))))) (pe_tup (pa_cons pe_str (pa_cons pe_int pa_nil))) (nomark _)) (pss_one (ps_ret pe_bl)) pss_nil))))
      (pss_cons (ps_if (pt_cmpR (op_neD hr.units) (pe_lamOf (TT := TTell K T.a_SeedError T.a_BadText T.a_BadProgram) (k := 10) rfl T.g__law_text_told T.F__law_text_told T.b__law_text_told sc__law_text_told rfl (.inl rfl) (fun cdg => _law_text_told_gives (X := (cxOf CX0 P wd K mg base N_law "law" (defScope s_law) T.f_law (.ref T.c_law) A outer s H E).nox) T cdg) rfl TB rfl (hr.mono (by decide)) (lamS_by (by show lamSB (defScope s_law) _ = true; decide +kernel)) rfl (fun _ _ _ _ _ => rfl) (fun A outer s H E f c hr => (pe_call (ok_read_program T) (hr.mono (by decide)) rfl T.g_read_program T.F_read_program.kp T.b_read_program .nil passL (pa_cons pe_str pa_nil)))) (pe_tup (pa_cons pe_str (pa_cons pe_int pa_nil))) (nomark _)) (pss_one (ps_ret pe_bl)) pss_nil)
      (pss_cons (ps_set (i := 6) nd rfl (.inr rfl) (pe_call (ok__law_page T) (hr.mono (by decide)) rfl T.g__law_page T.F__law_page.kp T.b__law_page .nil pass0 (pa_cons (pe_call (ok__law_lines T) (hr.mono (by decide)) rfl T.g__law_lines T.F__law_lines.kp T.b__law_lines .nil pass0 (pa_cons (pv 3) pa_nil)) pa_nil)))
      (pss_cons (ps_for PassesOwn.never rfl (pi_range1 rfl T.m_range (pa_cons (pe_callB call_len rfl T.m_len (by decide +kernel) (pa_cons (pv 6) pa_nil)) pa_nil)) (pg_name (i := 7) nd rfl (.inr rfl)) (pss_cons (ps_set (i := 8) nd rfl (.inl rfl) (pe_call (ok__law_read T) (hr.mono (by decide)) rfl T.g__law_read T.F__law_read.kp T.b__law_read .nil pass0 (pa_cons (pe_slice sl_str (pv 6) po_none (po_some (pv 7))) pa_nil)))
      (pss_cons (ps_set (i := 9) nd rfl (.inl rfl) (pe_lamOf (TT := TTell K T.a_SeedError T.a_BadText T.a_BadProgram) (k := 10) rfl T.g__law_text_told T.F__law_text_told T.b__law_text_told sc__law_text_told rfl (.inl rfl) (fun cdg => _law_text_told_gives (X := (cxOf CX0 P wd K mg base N_law "law" (defScope s_law) T.f_law (.ref T.c_law) A outer s H E).nox) T cdg) rfl TB rfl (hr.mono (by decide)) (lamS_by (by show lamSB (defScope s_law) _ = true; decide +kernel)) rfl (fun _ _ _ _ _ => rfl) (fun A outer s H E f c hr => (pe_call (ok_read_program T) (hr.mono (by decide)) rfl T.g_read_program T.F_read_program.kp T.b_read_program .nil passL (pa_cons (pe_slice sl_str (pv 6) po_none (po_some (pv 7))) pa_nil)))))
      (pss_one (ps_if (PW.pt (pw_or (pt_cmpR op_ne (pe_ix ix_tup (pv 8) pe_int (fun _ _ => rfl)) (pe_ix ix_tup (pv 9) pe_int (fun _ _ => rfl)) (nomark _)) (pw_or1 (PW.pt (pw_and (pt_cmpR op_ne (pe_ix ix_tup (pv 8) pe_int (fun _ _ => rfl)) pe_str (nomark _)) (pw_and1 (pt_cmpR op_ne (pe_callB (call_reprD hg hu) rfl T.m_repr (by decide +kernel) (pa_cons (pv 8) pa_nil)) (pe_callB (call_reprD hg hu) rfl T.m_repr (by decide +kernel) (pa_cons (pv 9) pa_nil)) (nomark _)))))))) (pss_one (ps_ret pe_bl)) pss_nil)))))
      (pss_cons (ps_set (i := 10) nd rfl (.inl rfl) (pe_call (ok__law_pick T) (hr.mono (by decide)) rfl T.g__law_pick T.F__law_pick.kp T.b__law_pick .nil pass0 (pa_cons (pv 1) (pa_cons (pe_lst (pa_cons (pe_op op_mulS pe_str pe_int) (pa_cons (pe_op op_mulS pe_str pe_int) (pa_cons (pe_op op_mulS pe_str pe_int) (pa_cons (pe_op op_mulS pe_str pe_int) (pa_cons (pe_op op_add_str pe_str (pe_op op_mulS pe_str pe_int)) (pa_cons pe_str (pa_cons pe_str (pa_cons pe_str pa_nil))))))))) pa_nil))))
      (pss_cons (ps_for PassesOwn.never rfl (pi_list (pe_lst (pa_cons (pe_op op_add_str (pe_op op_add_str pe_str (pv 10)) pe_str) (pa_cons (pe_op op_add_str (pe_op op_add_str pe_str (pv 10)) pe_str) pa_nil)))) (pg_name (i := 11) nd rfl (.inr rfl)) (pss_one (ps_if (pt_cmpR (op_neD hr.units) (pe_lamOf (TT := TTell K T.a_SeedError T.a_BadText T.a_BadProgram) (k := 10) rfl T.g__law_text_told T.F__law_text_told T.b__law_text_told sc__law_text_told rfl (.inl rfl) (fun cdg => _law_text_told_gives (X := (cxOf CX0 P wd K mg base N_law "law" (defScope s_law) T.f_law (.ref T.c_law) A outer s H E).nox) T cdg) rfl TB rfl (hr.mono (by decide)) (lamS_by (by show lamSB (defScope s_law) _ = true; decide +kernel)) rfl (fun _ _ _ _ _ => rfl) (fun A outer s H E f c hr => (pe_call (ok_read_program T) (hr.mono (by decide)) rfl T.g_read_program T.F_read_program.kp T.b_read_program .nil passL (pa_cons (pv 11) pa_nil)))) (pe_tup (pa_cons pe_str (pa_cons pe_int pa_nil))) (nomark _)) (pss_one (ps_ret pe_bl)) pss_nil)))
      (pss_one (ps_for PassesOwn.never rfl (pi_range1 rfl T.m_range (pa_cons pe_int pa_nil)) (pg_name (i := 12) nd rfl (.inl rfl)) (pss_cons (ps_set (i := 6) nd rfl (.inr rfl) (pe_call (ok__law_bent_text T) (hr.mono (by decide)) rfl T.g__law_bent_text T.F__law_bent_text.kp T.b__law_bent_text .nil pass0 (pa_cons (pv 1) (pa_cons (pe_ix ix_tup (pv 3) pe_int (fun _ _ => rfl)) pa_nil))))
      (pss_cons (ps_par (i := 8) (j := 9) rfl nd rfl rfl (by decide) rfl rfl (pa_cons (pe_call (ok__law_tour_of T) (hr.mono (by decide)) rfl T.g__law_tour_of T.F__law_tour_of.kp T.b__law_tour_of .nil pass0 (pa_cons (pe_ix ix_tup (pv 3) pe_int (fun _ _ => rfl)) (pa_cons (pv 6) pa_nil))) (pa_cons (pe_lamOf (TT := TTell K T.a_SeedError T.a_BadText T.a_BadProgram) (k := 3) rfl T.g__law_text_told T.F__law_text_told T.b__law_text_told sc__law_text_told rfl (.inl rfl) (fun cdg => _law_text_told_gives (X := (cxOf CX0 P wd K mg base N_law "law" (defScope s_law) T.f_law (.ref T.c_law) A outer s H E).nox) T cdg) rfl TB rfl (hr.mono (by decide)) (lamS_by (by show lamSB (defScope s_law) _ = true; decide +kernel)) rfl (fun _ _ _ _ _ => rfl) (fun A outer s H E f c hr => (pe_call (ok_read_order T) (hr.mono (by decide)) rfl T.g_read_order T.F_read_order.kp T.b_read_order .nil passL (pa_cons (pv 4) (pa_cons (pv 6) pa_nil))))) pa_nil)) (by rfl))
      (pss_one (ps_if (pt_cmpR op_ne (pe_callB (call_reprD hg hu) rfl T.m_repr (by decide +kernel) (pa_cons (pv 9) pa_nil)) (pe_callB (call_reprD hg hu) rfl T.m_repr (by decide +kernel) (pa_cons (pe_ifExp (pt_cmpR op_notN (pv 8) pe_non (nomark _)) (pe_tup (pa_cons pe_str (pa_cons (pv 8) pa_nil))) (pe_tup (pa_cons pe_str (pa_cons pe_int pa_nil)))) pa_nil)) (nomark _)) (pss_one (ps_ret pe_bl)) pss_nil)))))))))))))))
      (pss_one (ps_ret pe_bl))))), spLawT_body "law.<locals>.<lambda>" (by decide) (fun F0 H0 a ns hl => ?_) h⟩
  walk_at "s"
  have tell : ∀ {q : Str} {G : List Ent} {t : XK → TE} {Q : D → Prop}, G[0]? = some (.o (tabP K T.t_law "law.<locals>.<lambda>" a ns)) → q = "law.<locals>.<lambda>" → wpE ⟨K, F0, H0, [T.t_law], []⟩ t G (fun d => Q (.tup [.str "value", d])) (fun x => (∃ d, x = .e1 T.a_BadText "row" d ∧ Q (.tup [.str "text", d])) ∨ ∃ d, x = .e1 T.a_BadProgram "part" d ∧ Q (.tup [.str "program", d])) → wp ⟨K, F0, H0, [T.t_law], []⟩ (tLamP T.t_law q (TTell K T.a_SeedError T.a_BadText T.a_BadProgram) t) G Q := fun e h z => wp_tell e h T.E_BadText T.E_BadProgram T.no_BadProgram_BadText z
  show wps ⟨K, F0, H0, [T.t_law], []⟩ _ [.o (tabP K T.t_law "law.<locals>.<lambda>" a ns), .no, .no, .no, .no, .no, .no, .no, .no, .no, .no, .no, .no] _ _
  have c0 : ∀ i : Int, cmpOk (.tup [.str "text", .int i]) = true := fun i => (fd_ok (n := 1) (fd_tup (by simp) fun x hx => by
    simp only [List.mem_cons, List.not_mem_nil, or_false] at hx
    rcases hx with rfl | rfl
    · rw [show ("text" : Str) = S [116, 101, 120, 116] by decide +kernel]
      exact fd_str (by simp) (by simp)
    · exact fd_int i) (by omega)).cmp
  have e0 : ∀ i : Int, eqvD (.tup [.str "text", .int i]) (.tup [.str "text", .int i]) = true := fun i => (eqv_iff (by simp [nbl, nblL]) (by simp [nbl, nblL])).mpr rfl
  refine wps_seq (wps_stateT rfl (by simp) hl fun p c => ?_)
  show wps ⟨K, F0, H0, [T.t_law], []⟩ _ [.o (tabP K T.t_law "law.<locals>.<lambda>" a ns), .dr p c, .no, .no, .no, .no, .no, .no, .no, .no, .no, .no, .no] _ _
  refine wps_seq (wps_for (ts := [2]) (wpi_rng (wpa_cons (wp_op (wp_int (wp_cb (wpa_cons (wp_lenT rfl (wpa_cons (wp_int (wpa_nil (rc_min2 (r2_ii ?_)))))))))))))
  refine wpa_nil ⟨_, rfl, by split <;> omega, ?_⟩
  generalize ((2 : Int) + if (6 : Int) < (ns.length : Int) then 6 else (ns.length : Int)).toNat = turns
  refine ⟨fun i G => ∃ z2 z3 z4 z5 z6 z7 z8 z9 z10 z11 z12 : Ent, G = [.o (tabP K T.t_law "law.<locals>.<lambda>" a ns), .dr p c, z2, z3, z4, z5, z6, z7, z8, z9, z10, z11, z12], ⟨_, _, _, _, _, _, _, _, _, _, _, rfl⟩, fun i d G hd hI => ?_, fun G hI => ?_⟩
  · obtain ⟨z2, z3, z4, z5, z6, z7, z8, z9, z10, z11, z12, rfl⟩ := hI
    refine wpg_name (by simp) ?_
    show wps ⟨K, F0, H0, [T.t_law], []⟩ _ [.o (tabP K T.t_law "law.<locals>.<lambda>" a ns), .dr p c, .d d, z3, z4, z5, z6, z7, z8, z9, z10, z11, z12] _ _
    refine wps_seq (wps_asg (wp_callR rfl (wpa_cons (wp_int (wpa_cons (wp_int (wpa_nil ⟨⟨3, 3, rfl, rfl, by omega, by omega, by omega, by omega⟩, fun r e => ?_⟩)))))))
    obtain ⟨g, rfl, hg2⟩ := e
    have hgs := hg2.size
    obtain ⟨hll, hlw⟩ := lines_len hgs
    have hpl := page_len hll hlw
    have hlo := lines_ok hg2
    refine wps_seq (wps_asgV (pgD T.a_Program g.kD g.pD g.tD) (wp_callP (wpa_cons (wp_var rfl (wpa_nil ⟨⟨_, _, _, rfl, hg2.ok⟩, fun r e => e _ _ _ rfl⟩)))) ?_)
    show wps ⟨K, F0, H0, [T.t_law], []⟩ _ [.o (tabP K T.t_law "law.<locals>.<lambda>" a ns), .dr p c, .d d, .d g.D, .d (pgD T.a_Program g.kD g.pD g.tD), z5, z6, z7, z8, z9, z10, z11, z12] _ _
    refine wps_seq (wps_for (ts := [5]) (wpi_lst (wp_l (wpl_lst ?_))))
    refine wpa_cons (wp_non (wpa_cons (wp_int (wpa_cons (wp_bl (wpa_cons (wp_l (wpl_lst (wpa_nil ⟨by simp, ?_⟩)))))))))
    refine wpa_cons (wp_dic (wpa_cons (wp_tup (wpa_cons (wp_str (wpa_nil ⟨by simp, ?_⟩))))))
    refine wpa_cons (wp_l (wpl_lst (wpa_cons (wp_str (wpa_nil ⟨by simp, wpa_nil ⟨by simp, _, rfl, ?_⟩⟩)))))
    refine ⟨fun i G => ∃ z5 : Ent, G = [.o (tabP K T.t_law "law.<locals>.<lambda>" a ns), .dr p c, .d d, .d g.D, .d (pgD T.a_Program g.kD g.pD g.tD), z5, z6, z7, z8, z9, z10, z11, z12], ⟨_, rfl⟩, fun i v G hd hI => ?_, fun G hI => ?_⟩
    · obtain ⟨z5, rfl⟩ := hI
      obtain ⟨v1, v2⟩ : noObj v = true ∧ ∀ l, v ≠ strD l := by
        have hm := List.mem_of_getElem? hd
        simp only [List.mem_cons, List.not_mem_nil, or_false] at hm
        rcases hm with rfl | rfl | rfl | rfl | rfl | rfl | rfl <;> exact ⟨rfl, fun l e => by cases e⟩
      refine wpg_name (by simp) ?_
      show wps ⟨K, F0, H0, [T.t_law], []⟩ _ [.o (tabP K T.t_law "law.<locals>.<lambda>" a ns), .dr p c, .d d, .d g.D, .d (pgD T.a_Program g.kD g.pD g.tD), .d v, z6, z7, z8, z9, z10, z11, z12] _ _
      refine wps_seq (wps_ifD false ?_ (fun h => nomatch h) (fun _ => wps_next ?_))
      · refine wpt_test (wp_op (tell rfl rfl (wpE_call (wpa_cons (wp_var rfl (wpa_nil ⟨⟨v1, fun l e => absurd e (v2 l)⟩, fun r e => ?_, fun x hx => .inl ⟨.int 0, ?_, ?_⟩⟩))))))
        · obtain ⟨l, s, e, _⟩ := e
          exact absurd e (v2 l)
        · rcases hx v rfl with ⟨_, e⟩ | ⟨l, e, _⟩
          · exact e
          · exact absurd e (v2 l)
        · exact wp_tup (wpa_cons (wp_str (wpa_cons (wp_int (wpa_nil ⟨by simp, r2_neD (c0 0) (c0 0) ⟨_, rfl, by rw [e0]; rfl⟩⟩)))))
      refine wps_ifD false ?_ (fun h => nomatch h) (fun _ => wps_next ⟨_, rfl⟩)
      refine wpt_test (wp_op (tell rfl rfl (wpE_call (wpa_cons (wp_var rfl (wpa_cons (wp_var rfl (wpa_nil ⟨⟨g.ks, g.pD, g.tD, rfl, v1, fun l e => absurd e (v2 l)⟩, fun r e => ?_, fun x hx => .inl ⟨.int 0, hx.1, ?_⟩⟩))))))))
      · obtain ⟨l, ws, e, _⟩ := e _ _ _ rfl
        exact absurd e (v2 l)
      · exact wp_tup (wpa_cons (wp_str (wpa_cons (wp_int (wpa_nil ⟨by simp, r2_neD (c0 0) (c0 0) ⟨_, rfl, by rw [e0]; rfl⟩⟩)))))
    obtain ⟨z5, rfl⟩ := hI
    have en : ("" : Str) = S [] := by decide +kernel
    have hre : readR [] = .text 0 := isT_is read_empty
    refine wps_seq (wps_ifD false ?_ (fun h => nomatch h) (fun _ => wps_next ?_))
    · refine wpt_test (wp_op (tell rfl rfl (wpE_call (wpa_cons (wp_str (wpa_nil ⟨⟨rfl, fun l e => ?_⟩, fun r e => ?_, fun x hx => .inl ⟨.int 0, ?_, ?_⟩⟩))))))
      · rw [en] at e
        rw [← strD_inj e]
        exact tx_small (by decide)
      · obtain ⟨l, s, e, e2, _⟩ := e
        rw [en] at e
        rw [← strD_inj e, hre] at e2
        cases e2
      · rcases hx _ rfl with ⟨z, _⟩ | ⟨l, e, z⟩
        · exact absurd (by rw [en]) (z [])
        · rw [en] at e
          rw [← strD_inj e, hre] at z
          rcases z with ⟨i, e1, e2⟩ | ⟨p, e1, _⟩
          · cases e1
            exact e2
          · cases e1
      · exact wp_tup (wpa_cons (wp_str (wpa_cons (wp_int (wpa_nil ⟨by simp, r2_neD (c0 0) (c0 0) ⟨_, rfl, by rw [e0]; rfl⟩⟩)))))
    refine wps_seq (wps_asgV (strD (pageC g.lines)) (wp_callP (wpa_cons (wp_callP (wpa_cons (wp_var rfl (wpa_nil ⟨⟨g, rfl, hgs⟩, fun r e => by rw [e g rfl]; exact wpa_nil ⟨⟨_, rfl, hll, hlw⟩, fun r e => e _ rfl⟩⟩)))))) ?_)
    show wps ⟨K, F0, H0, [T.t_law], []⟩ _ [.o (tabP K T.t_law "law.<locals>.<lambda>" a ns), .dr p c, .d d, .d g.D, .d (pgD T.a_Program g.kD g.pD g.tD), z5, .d (strD (pageC g.lines)), z7, z8, z9, z10, z11, z12] _ _
    have hS : (S (pageC g.lines)).length ≤ 1000000 := by rw [S_len]; omega
    have htx : ∀ n, TxOk ((pageC g.lines).take n) := fun n => tx_take hll hlw (fun l h => (hlo l h).2) (nl_free hg2) n
    refine wps_seq (wps_for (ts := [7]) (wpi_rng (wpa_cons (wp_cb (wpa_cons (wp_var rfl (wpa_nil (rc_len (len_str hS) (wpa_nil ⟨_, rfl, ⟨by omega, by omega⟩, ?_⟩)))))))))
    refine ⟨fun i G => ∃ z7 z8 z9 : Ent, G = [.o (tabP K T.t_law "law.<locals>.<lambda>" a ns), .dr p c, .d d, .d g.D, .d (pgD T.a_Program g.kD g.pD g.tD), z5, .d (strD (pageC g.lines)), z7, z8, z9, z10, z11, z12], ⟨_, _, _, rfl⟩, fun i v G hd hI => ?_, fun G hI => ?_⟩
    · obtain ⟨z7, z8, z9, rfl⟩ := hI
      obtain ⟨n, hj, rfl⟩ := map_at hd
      refine wpg_name (by simp) ?_
      show wps ⟨K, F0, H0, [T.t_law], []⟩ _ [.o (tabP K T.t_law "law.<locals>.<lambda>" a ns), .dr p c, .d d, .d g.D, .d (pgD T.a_Program g.kD g.pD g.tD), z5, .d (strD (pageC g.lines)), .d (.int n), z8, z9, z10, z11, z12] _ _
      refine wps_seq (wps_asgV (resD (readR ((pageC g.lines).take n))) (wp_callP (wpa_cons (wp_sl (wp_var rfl (wpo_none (wpo_some (wp_var rfl ⟨n, rfl, rs_str hS ?_⟩))))))) ?_)
      · rw [show cutS (S (pageC g.lines)) none (some (n : Int)) = S ((pageC g.lines).take n) from cut_to _ n]
        exact wpa_nil ⟨⟨_, rfl, htx n⟩, fun r e => e _ rfl⟩
      show wps ⟨K, F0, H0, [T.t_law], []⟩ _ [.o (tabP K T.t_law "law.<locals>.<lambda>" a ns), .dr p c, .d d, .d g.D, .d (pgD T.a_Program g.kD g.pD g.tD), z5, .d (strD (pageC g.lines)), .d (.int n), .d (resD (readR ((pageC g.lines).take n))), z9, z10, z11, z12] _ _
      have ht := htx n
      generalize el : (pageC g.lines).take n = l at ht ⊢
      refine wps_seq (wps_asg ((tell (Q := toldOk l) rfl rfl (wpE_call (wpa_cons (wp_sl (wp_var rfl (wpo_none (wpo_some (wp_var rfl ⟨n, rfl, rs_str hS ?_⟩)))))))).imp fun td htd => ?_))
      · rw [show cutS (S (pageC g.lines)) none (some (n : Int)) = S ((pageC g.lines).take n) from cut_to _ n, el]
        refine wpa_nil ⟨⟨rfl, fun l2 e => by rw [← strD_inj e]; exact ht⟩, fun r e => ?_, fun x hx => ?_⟩
        · obtain ⟨l2, s, e, e2, _⟩ := e
          rw [← strD_inj e] at e2
          exact .inl ⟨_, s, e2, rfl⟩
        · rcases hx _ rfl with ⟨z, _⟩ | ⟨l2, e, z⟩
          · exact absurd rfl (z l)
          · rw [← strD_inj e] at z
            rcases z with ⟨i, e1, e2⟩ | ⟨p, e1, e2⟩
            · exact .inl ⟨_, e2, told_text ht e1⟩
            · exact .inr ⟨_, e2, told_prog e1⟩
      show wps ⟨K, F0, H0, [T.t_law], []⟩ _ [.o (tabP K T.t_law "law.<locals>.<lambda>" a ns), .dr p c, .d d, .d g.D, .d (pgD T.a_Program g.kD g.pD g.tD), z5, .d (strD (pageC g.lines)), .d (.int n), .d (resD (readR l)), .d td, z10, z11, z12] _ _
      refine wps_ifD false ?_ (fun h => nomatch h) (fun _ => wps_next ⟨_, _, _, rfl⟩)
      rcases htd with ⟨v, s, e1, rfl⟩ | ⟨x, v, e1, rfl, hx, hr2⟩
      · obtain ⟨v2, e2⟩ := res_val e1
        rw [e2]
        refine wpt_orD (b := false) (c := false) ?_ fun _ => ?_
        · exact wpt_test (wp_op (wp_op (wp_var rfl (wp_int (r2_ixT rfl (wp_op (wp_var rfl (wp_int (r2_ixT rfl (r2_neS ⟨_, rfl, by simp⟩))))))))))
        · exact wpt_and (wpt_test (wp_op (wp_op (wp_var rfl (wp_int (r2_ixT rfl (wp_str (r2_neS ⟨_, rfl, iteF' (by simp) rfl⟩))))))))
      · rw [e1]
        refine wpt_orD (b := false) (c := false) ?_ fun _ => ?_
        · exact wpt_test (wp_op (wp_op (wp_var rfl (wp_int (r2_ixT rfl (wp_op (wp_var rfl (wp_int (r2_ixT rfl (r2_neS ⟨_, rfl, by simp⟩))))))))))
        · refine wpt_and (wpt_test (wp_op (wp_op (wp_var rfl (wp_int (r2_ixT rfl (wp_str (r2_neS ⟨_, rfl, iteT' (by simpa using hx) ?_⟩))))))))
          exact wpt_test (wp_op (wp_cb (wpa_cons (wp_var rfl (wpa_nil (rc_reprS hr2 (by omega) (by omega) (wp_cb (wpa_cons (wp_var rfl (wpa_nil (rc_reprS hr2 (by omega) (by omega) (r2_neS ⟨_, rfl, by simp⟩))))))))))))
    obtain ⟨z7, z8, z9, rfl⟩ := hI
    refine wps_seq (wps_asg (wp_callR rfl (wpa_cons (wp_l (wpl_lst ?_)))))
    refine wpa_cons (wp_op (wp_str (wp_int (r2_mulS (by decide +kernel) (by omega) (by omega) ?_))))
    refine wpa_cons (wp_op (wp_str (wp_int (r2_mulS (by decide +kernel) (by omega) (by omega) ?_))))
    refine wpa_cons (wp_op (wp_str (wp_int (r2_mulS (by decide +kernel) (by omega) (by omega) ?_))))
    refine wpa_cons (wp_op (wp_str (wp_int (r2_mulS (by decide +kernel) (by omega) (by omega) ?_))))
    refine wpa_cons (wp_op (wp_str (wp_op (wp_str (wp_int (r2_mulS (by decide +kernel) (by omega) (by omega) (r2_addS (by decide +kernel) ?_)))))))
    refine wpa_cons (wp_str (wpa_cons (wp_str (wpa_cons (wp_str (wpa_nil ⟨by simp, wpa_nil ⟨⟨by simp [itemsP], by simp [itemsP]⟩, fun r e => ?_⟩⟩))))))
    obtain ⟨w, hw, rfl⟩ : ∃ w, w ∈ wordsW ∧ r = strD w := by
      have e' : r ∈ [D.str (Txt.mul "a" 9), .str (Txt.mul "b" 300), .str (Txt.mul "1" 7), .str (Txt.mul "7" 300), .str ("-" ++ Txt.mul "7" 300), .str "A", .str "-", .str ""] := e
      simp only [List.mem_cons, List.not_mem_nil, or_false] at e'
      rcases e' with rfl | rfl | rfl | rfl | rfl | rfl | rfl | rfl
      · exact ⟨List.replicate 9 97, by simp [wordsW], congrArg D.str (by decide +kernel)⟩
      · exact ⟨List.replicate 300 98, by simp [wordsW], congrArg D.str (by decide +kernel)⟩
      · exact ⟨List.replicate 7 49, by simp [wordsW], congrArg D.str (by decide +kernel)⟩
      · exact ⟨List.replicate 300 55, by simp [wordsW], congrArg D.str (by decide +kernel)⟩
      · exact ⟨45 :: List.replicate 300 55, by simp [wordsW], congrArg D.str (by decide +kernel)⟩
      · exact ⟨[65], by simp [wordsW], congrArg D.str (by decide +kernel)⟩
      · exact ⟨[45], by simp [wordsW], congrArg D.str (by decide +kernel)⟩
      · exact ⟨[], by simp [wordsW], congrArg D.str (by decide +kernel)⟩
    obtain ⟨hb1, hb2⟩ := Bool.and_eq_true_iff.mp (List.all_eq_true.mp pages_bad w hw)
    obtain ⟨ht1, ht2⟩ := Bool.and_eq_true_iff.mp (List.all_eq_true.mp pages_tx w hw)
    have hwl : w.length ≤ 1000 := by
      have := of_decide_eq_true (Bool.and_eq_true_iff.mp (show txB (pageA w) = true from ht1)).1
      unfold pageA at this
      rw [List.length_append, List.length_append] at this
      have hall : (wordsW.all fun w => decide (w.length ≤ 1000)) = true := by decide +kernel
      exact of_decide_eq_true (List.all_eq_true.mp hall w hw)
    show wps ⟨K, F0, H0, [T.t_law], []⟩ _ [.o (tabP K T.t_law "law.<locals>.<lambda>" a ns), .dr p c, .d d, .d g.D, .d (pgD T.a_Program g.kD g.pD g.tD), z5, .d (strD (pageC g.lines)), z7, z8, z9, .d (strD w), z11, z12] _ _
    refine wps_seq (wps_for (ts := [11]) (wpi_lst (wp_is (.lst [strD (pageA w), strD (pageB w)]) (wp_l (wpl_lst (wpa_is (strD (pageA w)) ?_ (wpa_is (strD (pageB w)) ?_ (wpa_nil ⟨by simp, rfl⟩))))) ?_)))
    · have h1 : ("kinds a
pass " : Str) = S [107, 105, 110, 100, 115, 32, 97, 10, 112, 97, 115, 115, 32] := by decide +kernel
      have h2 : ("
" : Str) = S [10] := by decide +kernel
      refine wp_op (wp_op (wp_str (wp_var rfl ?_)))
      rw [h1]
      refine r2_addS (by rw [S_len, S_len]; show 13 + _ ≤ _; omega) (wp_str ?_)
      rw [S_cat, h2]
      refine r2_addS (by rw [S_len, S_len, List.length_append]; show 13 + _ + 1 ≤ _; omega) ?_
      rw [S_cat]
      rfl
    · have h1 : ("kinds a
tell " : Str) = S [107, 105, 110, 100, 115, 32, 97, 10, 116, 101, 108, 108, 32] := by decide +kernel
      have h2 : (" 0
" : Str) = S [32, 48, 10] := by decide +kernel
      refine wp_op (wp_op (wp_str (wp_var rfl ?_)))
      rw [h1]
      refine r2_addS (by rw [S_len, S_len]; show 13 + _ ≤ _; omega) (wp_str ?_)
      rw [S_cat, h2]
      refine r2_addS (by rw [S_len, S_len, List.length_append]; show 13 + _ + 3 ≤ _; omega) ?_
      rw [S_cat]
      rfl
    refine ⟨_, rfl, fun i G => ∃ z11 : Ent, G = [.o (tabP K T.t_law "law.<locals>.<lambda>" a ns), .dr p c, .d d, .d g.D, .d (pgD T.a_Program g.kD g.pD g.tD), z5, .d (strD (pageC g.lines)), z7, z8, z9, .d (strD w), z11, z12], ⟨_, rfl⟩, fun i v G hd hI => ?_, fun G hI => ?_⟩
    · obtain ⟨z11, rfl⟩ := hI
      obtain ⟨l, rfl, hl1, hl2⟩ : ∃ l, v = strD l ∧ readR l = .text 1 ∧ TxOk l := by
        have hm := List.mem_of_getElem? hd
        simp only [List.mem_cons, List.not_mem_nil, or_false] at hm
        rcases hm with rfl | rfl
        · exact ⟨_, rfl, isT_is hb1, tx_small ht1⟩
        · exact ⟨_, rfl, isT_is hb2, tx_small ht2⟩
      refine wpg_name (by simp) ?_
      show wps ⟨K, F0, H0, [T.t_law], []⟩ _ [.o (tabP K T.t_law "law.<locals>.<lambda>" a ns), .dr p c, .d d, .d g.D, .d (pgD T.a_Program g.kD g.pD g.tD), z5, .d (strD (pageC g.lines)), z7, z8, z9, .d (strD w), .d (strD l), z12] _ _
      refine wps_ifD false ?_ (fun h => nomatch h) (fun _ => wps_next ⟨_, rfl⟩)
      refine wpt_test (wp_op (tell rfl rfl (wpE_call (wpa_cons (wp_var rfl (wpa_nil ⟨⟨rfl, fun l2 e => by rw [← strD_inj e]; exact hl2⟩, fun r e => ?_, fun x hx => .inl ⟨.int 1, ?_, ?_⟩⟩))))))
      · obtain ⟨l2, s, e, e2, _⟩ := e
        rw [← strD_inj e, hl1] at e2
        cases e2
      · rcases hx _ rfl with ⟨z, _⟩ | ⟨l2, e, z⟩
        · exact absurd rfl (z l)
        · rw [← strD_inj e, hl1] at z
          rcases z with ⟨i, e1, e2⟩ | ⟨p, e1, _⟩
          · cases e1
            exact e2
          · cases e1
      · exact wp_tup (wpa_cons (wp_str (wpa_cons (wp_int (wpa_nil ⟨by simp, r2_neD (c0 1) (c0 1) ⟨_, rfl, by rw [e0]; rfl⟩⟩)))))
    obtain ⟨z11, rfl⟩ := hI
    refine wps_for (ts := [12]) (wpi_rng (wpa_cons (wp_int (wpa_nil ⟨6, rfl, ⟨by omega, by omega⟩, ?_⟩))))
    refine ⟨fun i G => ∃ z6 z8 z9 z12 : Ent, G = [.o (tabP K T.t_law "law.<locals>.<lambda>" a ns), .dr p c, .d d, .d g.D, .d (pgD T.a_Program g.kD g.pD g.tD), z5, z6, z7, z8, z9, .d (strD w), z11, z12], ⟨_, _, _, _, rfl⟩, fun i v G hd hI => ?_, fun G hI => ?_⟩
    · obtain ⟨z6, z8, z9, z12, rfl⟩ := hI
      refine wpg_name (by simp) ?_
      show wps ⟨K, F0, H0, [T.t_law], []⟩ _ [.o (tabP K T.t_law "law.<locals>.<lambda>" a ns), .dr p c, .d d, .d g.D, .d (pgD T.a_Program g.kD g.pD g.tD), z5, z6, z7, z8, z9, .d (strD w), z11, .d v] _ _
      refine wps_seq (wps_asg (wp_callR rfl (wpa_cons (wp_op (wp_var rfl (wp_int (r2_ixT rfl (wpa_nil ⟨⟨g.ks, rfl, List.length_pos_iff.mp hg2.k1, by have := hg2.k4; omega, hg2.kn⟩, fun r e => ?_⟩))))))))
      obtain ⟨l, rfl, hl1, hl2⟩ := e
      show wps ⟨K, F0, H0, [T.t_law], []⟩ _ [.o (tabP K T.t_law "law.<locals>.<lambda>" a ns), .dr p c, .d d, .d g.D, .d (pgD T.a_Program g.kD g.pD g.tD), z5, .d (strD l), z7, z8, z9, .d (strD w), z11, .d v] _ _
      refine wps_seq (wps_par (wpa_is (tourD (orderC g.ks l)) (wp_callP (wpa_cons (wp_op (wp_var rfl (wp_int (r2_ixT rfl (wpa_cons (wp_var rfl (wpa_nil ⟨⟨g.ks, l, rfl, rfl, by omega, hl2⟩, fun r e => e _ _ rfl rfl⟩))))))))) (wpa_is (ordD (orderC g.ks l)) ?_ (wpa_nil ⟨_, _, rfl, ?_⟩))))
      · refine tell rfl rfl (wpE_call (wpa_cons (wp_var rfl (wpa_cons (wp_var rfl (wpa_nil ⟨⟨g.ks, g.pD, g.tD, rfl, rfl, fun l2 e => by rw [← strD_inj e]; omega⟩, fun r e => ?_, fun x hx => .inl ⟨.int 0, hx.1, ?_⟩⟩))))))
        · obtain ⟨l2, ws, e1, e2, rfl⟩ := e _ _ _ rfl
          rw [← strD_inj e1] at e2
          rw [e2]
          rfl
        · rw [hx.2 _ _ rfl _ _ _ rfl l rfl]
          rfl
      show wps ⟨K, F0, H0, [T.t_law], []⟩ _ [.o (tabP K T.t_law "law.<locals>.<lambda>" a ns), .dr p c, .d d, .d g.D, .d (pgD T.a_Program g.kD g.pD g.tD), z5, .d (strD l), z7, .d (tourD (orderC g.ks l)), .d (ordD (orderC g.ks l)), .d (strD w), z11, .d v] _ _
      refine wps_ifD false ?_ (fun h => nomatch h) (fun _ => wps_next ⟨_, _, _, _, rfl⟩)
      cases eo : orderC g.ks l with
      | none =>
        have hr2 : RpS 64 1000000 (.tup [.str "text", .int 0]) := (rps_told (k := 82) (m := 0) (by decide +kernel) (rps_nat (i := 0) (by omega)) (by omega)).mono (by omega) (by omega)
        refine wpt_test (wp_op (wp_cb (wpa_cons (wp_var rfl (wpa_nil (rc_reprS hr2 (by omega) (by omega) (wp_cb (wpa_is (.tup [.str "text", .int 0]) ?_ (wpa_nil (rc_reprS hr2 (by omega) (by omega) (r2_neS ⟨_, rfl, by simp⟩)))))))))))
        exact wp_ifD false (wpt_test (wp_op (wp_var rfl (wp_non (r2_notN ⟨_, rfl, rfl⟩))))) (fun h => nomatch h) (fun _ => wp_tup (wpa_cons (wp_str (wpa_cons (wp_int (wpa_nil ⟨by simp, rfl⟩))))))
      | some ws =>
        have hws := order_names hg2.kn eo
        have hwc : ws.length ≤ 2000 := by have := order_len eo; omega
        have hr2 : RpS 64 1000000 (.tup [.str "value", .tup (ws.map strD)]) := (rps_told (by decide +kernel) (rps_names hwc hws) (by omega)).mono (by omega) (by omega)
        refine wpt_test (wp_op (wp_cb (wpa_cons (wp_var rfl (wpa_nil (rc_reprS hr2 (by omega) (by omega) (wp_cb (wpa_is (.tup [.str "value", .tup (ws.map strD)]) ?_ (wpa_nil (rc_reprS hr2 (by omega) (by omega) (r2_neS ⟨_, rfl, by simp⟩)))))))))))
        exact wp_ifD true (wpt_test (wp_op (wp_var rfl (wp_non (r2_notN ⟨_, rfl, rfl⟩))))) (fun _ => wp_tup (wpa_cons (wp_str (wpa_cons (wp_var rfl (wpa_nil ⟨by simp, rfl⟩)))))) (fun h => nomatch h)
    · obtain ⟨z6, z8, z9, z12, rfl⟩ := hI
      exact ⟨_, _, _, _, _, _, _, _, _, _, _, rfl⟩
  · obtain ⟨z2, z3, z4, z5, z6, z7, z8, z9, z10, z11, z12, rfl⟩ := hI
    exact wps_ret (wp_bl rfl)
end Sd
set_option Elab.async false
set_option linter.all false
set_option maxRecDepth 100000
set_option maxHeartbeats 4000000
namespace Sd
open PySem PySem.Spec L2
theorem body_BadProgram : defBody s_BadProgram_init = initBody "not a program" "part" "part" 0 ⟨10, 8, 10, 13⟩ ⟨10, 8, 10, 15⟩ ⟨10, 8, 10, 24⟩ ⟨10, 25, 10, 40⟩ ⟨10, 8, 10, 41⟩ ⟨10, 8, 10, 41⟩ ⟨11, 8, 11, 12⟩ ⟨11, 8, 11, 17⟩ ⟨11, 20, 11, 24⟩ ⟨11, 8, 11, 24⟩ := rfl
theorem swp_BadProgram (fd : FuncData) {f : Addr} (L : Addr) (e : fd.scope = defScope s_BadProgram_init) : ∃ pl : Sem Bool, eval (.Call (.Attribute (.Call (.Name "super" ⟨10, 8, 10, 13⟩) [] [] ⟨10, 8, 10, 15⟩) "__init__" ⟨10, 8, 10, 24⟩) [.Constant (.str "not a program") 0 ⟨10, 25, 10, 40⟩] [] ⟨10, 8, 10, 41⟩) (callEnv fd L f) = (do
      let ov ← attributeBase (.Call (.Name "super" ⟨10, 8, 10, 13⟩) [] [] ⟨10, 8, 10, 15⟩) "__init__" (callEnv fd L f) (eval (.Call (.Name "super" ⟨10, 8, 10, 13⟩) [] [] ⟨10, 8, 10, 15⟩) (callEnv fd L f))
      standAt (PySem.Pos.atName ⟨10, 8, 10, 24⟩)
      let (g, first) ← holding [ov] (getMethod ov "__init__" pl)
      callWith ⟨10, 8, 10, 41⟩ g first (backTo ⟨10, 8, 10, 41⟩ (starEach [.Constant (.str "not a program") 0 ⟨10, 25, 10, 40⟩] (callEnv fd L f))) []) := by
  obtain ⟨⟩ := fd
  dsimp only at e
  subst e
  exact ⟨_, rfl⟩
theorem body_BadText : defBody s_BadText_init = initBody "not a text" "row" "row" 0 ⟨15, 8, 15, 13⟩ ⟨15, 8, 15, 15⟩ ⟨15, 8, 15, 24⟩ ⟨15, 25, 15, 37⟩ ⟨15, 8, 15, 38⟩ ⟨15, 8, 15, 38⟩ ⟨16, 8, 16, 12⟩ ⟨16, 8, 16, 16⟩ ⟨16, 19, 16, 22⟩ ⟨16, 8, 16, 22⟩ := rfl
theorem swp_BadText (fd : FuncData) {f : Addr} (L : Addr) (e : fd.scope = defScope s_BadText_init) : ∃ pl : Sem Bool, eval (.Call (.Attribute (.Call (.Name "super" ⟨15, 8, 15, 13⟩) [] [] ⟨15, 8, 15, 15⟩) "__init__" ⟨15, 8, 15, 24⟩) [.Constant (.str "not a text") 0 ⟨15, 25, 15, 37⟩] [] ⟨15, 8, 15, 38⟩) (callEnv fd L f) = (do
      let ov ← attributeBase (.Call (.Name "super" ⟨15, 8, 15, 13⟩) [] [] ⟨15, 8, 15, 15⟩) "__init__" (callEnv fd L f) (eval (.Call (.Name "super" ⟨15, 8, 15, 13⟩) [] [] ⟨15, 8, 15, 15⟩) (callEnv fd L f))
      standAt (PySem.Pos.atName ⟨15, 8, 15, 24⟩)
      let (g, first) ← holding [ov] (getMethod ov "__init__" pl)
      callWith ⟨15, 8, 15, 38⟩ g first (backTo ⟨15, 8, 15, 38⟩ (starEach [.Constant (.str "not a text") 0 ⟨15, 25, 15, 37⟩] (callEnv fd L f))) []) := by
  obtain ⟨⟩ := fd
  dsimp only at e
  subst e
  exact ⟨_, rfl⟩
theorem all_mk {P : Program} {w : World} {K : PySem.W.Frag} {h : Heap} {mg : Str → Option Value} {fa : Addr} {a_Program : Addr} {a_Reader : Addr} {a_SeedError : Addr} {a_BadProgram f_BadProgram cc_BadProgram cd_BadProgram : Addr} {nm_BadProgram qn_BadProgram : Str} {N_BadProgram : Addr} {bs_BadProgram bm_BadProgram sub_BadProgram : List Value} {sn_BadProgram : List Str} {ab_BadProgram : Bool} {col_BadProgram : Option Bool} {dd_BadProgram : Option Addr} {k0_BadProgram k1_BadProgram k2_BadProgram k3_BadProgram k5_BadProgram : Option Value} {oc_BadProgram kV_BadProgram dc_BadProgram pm_BadProgram ct_BadProgram ccl_BadProgram cl_BadProgram : Value} {od_BadProgram an_BadProgram cdd_BadProgram cld_BadProgram : Option Addr} {osl_BadProgram ccs_BadProgram csl_BadProgram : Array (Option Value)} {vs_BadProgram : Array Value} {tf_BadProgram : Tok} {a_BadText f_BadText cc_BadText cd_BadText : Addr} {nm_BadText qn_BadText : Str} {N_BadText : Addr} {bs_BadText bm_BadText sub_BadText : List Value} {sn_BadText : List Str} {ab_BadText : Bool} {col_BadText : Option Bool} {dd_BadText : Option Addr} {k0_BadText k1_BadText k2_BadText k3_BadText k5_BadText : Option Value} {oc_BadText kV_BadText dc_BadText pm_BadText ct_BadText ccl_BadText cl_BadText : Value} {od_BadText an_BadText cdd_BadText cld_BadText : Option Addr} {osl_BadText ccs_BadText csl_BadText : Array (Option Value)} {vs_BadText : Array Value} {tf_BadText : Tok} {f_is_integer : Addr} {oc2 kV2 dc2 pm2 ct2 : Value} {od2 an2 : Option Addr} {sl2 : Array (Option Value)} {cd2 : Value} {f_is_name : Addr} {oc3 kV3 dc3 pm3 ct3 : Value} {od3 an3 : Option Addr} {sl3 : Array (Option Value)} {cd3 : Value} {f_are_kinds : Addr} {oc4 kV4 dc4 pm4 ct4 : Value} {od4 an4 : Option Addr} {sl4 : Array (Option Value)} {cd4 : Value} {f_is_state : Addr} {oc5 kV5 dc5 pm5 ct5 : Value} {od5 an5 : Option Addr} {sl5 : Array (Option Value)} {cd5 : Value} {f_is_pair : Addr} {oc6 kV6 dc6 pm6 ct6 : Value} {od6 an6 : Option Addr} {sl6 : Array (Option Value)} {cd6 : Value} {f_are_rows : Addr} {oc7 kV7 dc7 pm7 ct7 : Value} {od7 an7 : Option Addr} {sl7 : Array (Option Value)} {cd7 : Value} {f_is_pass : Addr} {oc8 kV8 dc8 pm8 ct8 : Value} {od8 an8 : Option Addr} {sl8 : Array (Option Value)} {cd8 : Value} {f_are_passes : Addr} {oc9 kV9 dc9 pm9 ct9 : Value} {od9 an9 : Option Addr} {sl9 : Array (Option Value)} {cd9 : Value} {f_is_tell : Addr} {oc10 kV10 dc10 pm10 ct10 : Value} {od10 an10 : Option Addr} {sl10 : Array (Option Value)} {cd10 : Value} {f_Program_init : Addr} {oc11 kV11 dc11 pm11 ct11 : Value} {od11 an11 : Option Addr} {sl11 : Array (Option Value)} {cd11 : Value} {f_Program_kinds : Addr} {oc12 kV12 dc12 pm12 ct12 : Value} {od12 an12 : Option Addr} {sl12 : Array (Option Value)} {cd12 : Value} {p_Program_kinds : Addr} {rs12 : List Value} {f_Program_passes : Addr} {oc13 kV13 dc13 pm13 ct13 : Value} {od13 an13 : Option Addr} {sl13 : Array (Option Value)} {cd13 : Value} {p_Program_passes : Addr} {rs13 : List Value} {f_Program_tells : Addr} {oc14 kV14 dc14 pm14 ct14 : Value} {od14 an14 : Option Addr} {sl14 : Array (Option Value)} {cd14 : Value} {p_Program_tells : Addr} {rs14 : List Value} {f_Program_parts : Addr} {oc15 kV15 dc15 pm15 ct15 : Value} {od15 an15 : Option Addr} {sl15 : Array (Option Value)} {cd15 : Value} {f_Program_eq : Addr} {oc16 kV16 dc16 pm16 ct16 : Value} {od16 an16 : Option Addr} {sl16 : Array (Option Value)} {cd16 : Value} {f_is_numeral : Addr} {oc17 kV17 dc17 pm17 ct17 : Value} {od17 an17 : Option Addr} {sl17 : Array (Option Value)} {cd17 : Value} {f_numbers_in : Addr} {oc18 kV18 dc18 pm18 ct18 : Value} {od18 an18 : Option Addr} {sl18 : Array (Option Value)} {cd18 : Value} {f_read_row : Addr} {oc19 kV19 dc19 pm19 ct19 : Value} {od19 an19 : Option Addr} {sl19 : Array (Option Value)} {cd19 : Value} {f_Reader_init : Addr} {oc20 kV20 dc20 pm20 ct20 : Value} {od20 an20 : Option Addr} {sl20 : Array (Option Value)} {cd20 : Value} {f_Reader_takes_kinds : Addr} {oc21 kV21 dc21 pm21 ct21 : Value} {od21 an21 : Option Addr} {sl21 : Array (Option Value)} {cd21 : Value} {f_Reader_takes_pass : Addr} {oc22 kV22 dc22 pm22 ct22 : Value} {od22 an22 : Option Addr} {sl22 : Array (Option Value)} {cd22 : Value} {f_Reader_takes_row : Addr} {oc23 kV23 dc23 pm23 ct23 : Value} {od23 an23 : Option Addr} {sl23 : Array (Option Value)} {cd23 : Value} {f_Reader_takes_tell : Addr} {oc24 kV24 dc24 pm24 ct24 : Value} {od24 an24 : Option Addr} {sl24 : Array (Option Value)} {cd24 : Value} {f_Reader_takes : Addr} {oc25 kV25 dc25 pm25 ct25 : Value} {od25 an25 : Option Addr} {sl25 : Array (Option Value)} {cd25 : Value} {f_Reader_result : Addr} {oc26 kV26 dc26 pm26 ct26 : Value} {od26 an26 : Option Addr} {sl26 : Array (Option Value)} {cd26 : Value} {f_read_program : Addr} {oc27 kV27 dc27 pm27 ct27 : Value} {od27 an27 : Option Addr} {sl27 : Array (Option Value)} {cd27 : Value} {f_read_order : Addr} {oc28 kV28 dc28 pm28 ct28 : Value} {od28 an28 : Option Addr} {sl28 : Array (Option Value)} {cd28 : Value} {f__law_state : Addr} {oc29 kV29 dc29 pm29 ct29 : Value} {od29 an29 : Option Addr} {sl29 : Array (Option Value)} {cd29 : Value} {f__law_draw : Addr} {oc30 kV30 dc30 pm30 ct30 : Value} {od30 an30 : Option Addr} {sl30 : Array (Option Value)} {cd30 : Value} {f__law_pick : Addr} {oc31 kV31 dc31 pm31 ct31 : Value} {od31 an31 : Option Addr} {sl31 : Array (Option Value)} {cd31 : Value} {f__law_labels : Addr} {oc32 kV32 dc32 pm32 ct32 : Value} {od32 an32 : Option Addr} {sl32 : Array (Option Value)} {cd32 : Value} {f__law_gain : Addr} {oc33 kV33 dc33 pm33 ct33 : Value} {od33 an33 : Option Addr} {sl33 : Array (Option Value)} {cd33 : Value} {f__law_lap : Addr} {oc34 kV34 dc34 pm34 ct34 : Value} {od34 an34 : Option Addr} {sl34 : Array (Option Value)} {cd34 : Value} {f__law_parts : Addr} {oc35 kV35 dc35 pm35 ct35 : Value} {od35 an35 : Option Addr} {sl35 : Array (Option Value)} {cd35 : Value} {f__law_made : Addr} {oc36 kV36 dc36 pm36 ct36 : Value} {od36 an36 : Option Addr} {sl36 : Array (Option Value)} {cd36 : Value} {f__law_tour : Addr} {oc37 kV37 dc37 pm37 ct37 : Value} {od37 an37 : Option Addr} {sl37 : Array (Option Value)} {cd37 : Value} {f__law_is_name : Addr} {oc38 kV38 dc38 pm38 ct38 : Value} {od38 an38 : Option Addr} {sl38 : Array (Option Value)} {cd38 : Value} {f__law_is_int : Addr} {oc39 kV39 dc39 pm39 ct39 : Value} {od39 an39 : Option Addr} {sl39 : Array (Option Value)} {cd39 : Value} {f__law_is_state : Addr} {oc40 kV40 dc40 pm40 ct40 : Value} {od40 an40 : Option Addr} {sl40 : Array (Option Value)} {cd40 : Value} {f__law_is_lap : Addr} {oc41 kV41 dc41 pm41 ct41 : Value} {od41 an41 : Option Addr} {sl41 : Array (Option Value)} {cd41 : Value} {f__law_wrong_part : Addr} {oc42 kV42 dc42 pm42 ct42 : Value} {od42 an42 : Option Addr} {sl42 : Array (Option Value)} {cd42 : Value} {f__law_lines : Addr} {oc43 kV43 dc43 pm43 ct43 : Value} {od43 an43 : Option Addr} {sl43 : Array (Option Value)} {cd43 : Value} {f__law_page : Addr} {oc44 kV44 dc44 pm44 ct44 : Value} {od44 an44 : Option Addr} {sl44 : Array (Option Value)} {cd44 : Value} {f__law_is_numeral : Addr} {oc45 kV45 dc45 pm45 ct45 : Value} {od45 an45 : Option Addr} {sl45 : Array (Option Value)} {cd45 : Value} {f__law_numbers : Addr} {oc46 kV46 dc46 pm46 ct46 : Value} {od46 an46 : Option Addr} {sl46 : Array (Option Value)} {cd46 : Value} {f__law_taken : Addr} {oc47 kV47 dc47 pm47 ct47 : Value} {od47 an47 : Option Addr} {sl47 : Array (Option Value)} {cd47 : Value} {f__law_read : Addr} {oc48 kV48 dc48 pm48 ct48 : Value} {od48 an48 : Option Addr} {sl48 : Array (Option Value)} {cd48 : Value} {f__law_text_told : Addr} {oc49 kV49 dc49 pm49 ct49 : Value} {od49 an49 : Option Addr} {sl49 : Array (Option Value)} {cd49 : Value} {f__law_tour_of : Addr} {oc50 kV50 dc50 pm50 ct50 : Value} {od50 an50 : Option Addr} {sl50 : Array (Option Value)} {cd50 : Value} {f__law_bent_text : Addr} {oc51 kV51 dc51 pm51 ct51 : Value} {od51 an51 : Option Addr} {sl51 : Array (Option Value)} {cd51 : Value} {f_law : Addr} {oc52 kV52 dc52 pm52 ct52 : Value} {od52 an52 : Option Addr} {sl52 : Array (Option Value)} {c_law t_law : Addr} {le52 : Value} {ld52 : Option Addr} {lv52 : Array Value} {ls52 : Array (Option Value)} {t_LETTERS : Tok} {t_MOST_LETTERS : Tok} {t_MOST_KINDS : Tok} {t_MOST_PASSES : Tok} {t_DIGITS : Tok} {t_MOST_DIGITS : Tok} {t_MARGIN : Tok} {t_EMPTY : Tok} (X : K.In h) (G : h.Ns mainGlobals mg) (hfa : mg "law" = some (.ref fa)) (hPF : PF P) (own : LamX.OwnTab K fa h)
    (A_Program : PySem.W.nsIn K mainGlobals "Program" = some (some (.ref a_Program)))
    (pg_Program : PySem.W.plainGet K a_Program Str.empty = true)
    (hd_Program : PySem.W.hasDictIn K a_Program = true)
    (po_Program : PySem.W.plainOver K a_Program = true)
    (sa_Program : PySem.W.findIn K (.ref a_Program) "__setattr__" = some (some (.builtin "object.__setattr__")))
    (n_Program_p_kinds : PySem.W.findIn K (.ref a_Program) "p_kinds" = some none)
    (n_Program_p_passes : PySem.W.findIn K (.ref a_Program) "p_passes" = some none)
    (n_Program_p_tells : PySem.W.findIn K (.ref a_Program) "p_tells" = some none)
    (ia_Program : PySem.W.findIn K (.ref a_Program) "__class__" = some (some (.builtin "object.__class__")))
    (ib_Program : PySem.W.specialIn K (.builtin "object.__class__") "__get__" = some (some (.builtin "getset_descriptor.__get__")))
    (ic_Program : PySem.W.takesIn K (.builtin "object.__class__") = some true)
    (id_Program : PySem.W.mroIn K a_Program (.type "object") = some true)
    (A_Reader : PySem.W.nsIn K mainGlobals "Reader" = some (some (.ref a_Reader)))
    (pg_Reader : PySem.W.plainGet K a_Reader Str.empty = true)
    (hd_Reader : PySem.W.hasDictIn K a_Reader = true)
    (po_Reader : PySem.W.plainOver K a_Reader = true)
    (sa_Reader : PySem.W.findIn K (.ref a_Reader) "__setattr__" = some (some (.builtin "object.__setattr__")))
    (n_Reader_r_kinds : PySem.W.findIn K (.ref a_Reader) "r_kinds" = some none)
    (n_Reader_r_passes : PySem.W.findIn K (.ref a_Reader) "r_passes" = some none)
    (n_Reader_r_tells : PySem.W.findIn K (.ref a_Reader) "r_tells" = some none)
    (A_SeedError : PySem.W.nsIn K mainGlobals "SeedError" = some (some (.ref a_SeedError)))
    (q_super : PySem.W.nsIn K mainGlobals "super" = some none)
    (S1 : PySem.W.subIn K (.ref a_SeedError) (.type "BaseException") = some true)
    (S2 : PySem.W.hasDictIn K a_SeedError = true)
    (S3 : PySem.W.typeIn K (.ref a_SeedError) = some (.type "type"))
    (ib_E : PySem.W.specialIn K (.builtin "object.__class__") "__get__" = some (some (.builtin "getset_descriptor.__get__")))
    (ic_E : PySem.W.takesIn K (.builtin "object.__class__") = some true)
    (hop : PySem.W.nsIn K cStatics "thirdparty.any" = some none)
    (A_BadProgram : PySem.W.nsIn K mainGlobals "BadProgram" = some (some (.ref a_BadProgram)))
    (e1_BadProgram : K.lookup a_BadProgram = some (excClassObj nm_BadProgram qn_BadProgram a_BadProgram N_BadProgram bs_BadProgram bm_BadProgram true sn_BadProgram sub_BadProgram ab_BadProgram col_BadProgram dd_BadProgram k0_BadProgram k1_BadProgram k2_BadProgram k3_BadProgram k5_BadProgram "ValueError.__new__"))
    (e2_BadProgram : PySem.HandSPX.refsVE bm_BadProgram = true)
    (e3_BadProgram : PySem.W.findIn K (.ref a_BadProgram) "__setattr__" = some (some (.builtin "object.__setattr__")))
    (e4_BadProgram : PySem.W.subIn K (.ref a_BadProgram) (.type "BaseException") = some true)
    (e5_BadProgram : PySem.W.typeIn K (.ref a_BadProgram) = some (.type "type"))
    (e6_BadProgram : PySem.W.keepIn K (.ref a_BadProgram) = true)
    (e7_BadProgram : PySem.W.findIn K (.ref a_BadProgram) "__getattribute__" = some (some (.builtin "BaseException.__getattribute__")))
    (e8_BadProgram : PySem.W.findIn K (.ref a_BadProgram) "__getattr__" = some none)
    (e9_BadProgram : PySem.W.hasDictIn K a_BadProgram = true)
    (e10_BadProgram : PySem.W.findIn K (.ref a_BadProgram) "__class__" = some (some (.builtin "object.__class__")))
    (e13_BadProgram : PySem.W.mroIn K a_BadProgram (.type "object") = some true)
    (e14_BadProgram : PySem.W.findIn K (.ref a_BadProgram) "part" = some none)
    (e15_BadProgram : PySem.W.findIn K (.ref a_BadProgram) "__init__" = some (some (.ref f_BadProgram)))
    (e16_BadProgram : PySem.W.typeIn K (.ref f_BadProgram) = some (.type "function"))
    (e20_BadProgram : PySem.W.subIn K (.ref a_BadProgram) (.ref a_SeedError) = some true)
    (i1_BadProgram : K.lookup f_BadProgram = some ⟨oc_BadProgram, od_BadProgram, .func (PySem.W.fnX "__init__" "BadProgram.__init__" (defArgs s_BadProgram_init) (defBody s_BadProgram_init) (defScope s_BadProgram_init) [("__class__", cc_BadProgram)] .none kV_BadProgram dc_BadProgram pm_BadProgram an_BadProgram (.ref cd_BadProgram) ct_BadProgram), osl_BadProgram⟩)
    (i2_BadProgram : PySem.W.codeIn K (.ref cd_BadProgram) "BadProgram.__init__" = true)
    (i3_BadProgram : K.lookup cd_BadProgram = some ⟨ccl_BadProgram, cdd_BadProgram, .fields vs_BadProgram, ccs_BadProgram⟩)
    (i4_BadProgram : vs_BadProgram[2]? = some (.str "/claim/cut.py" tf_BadProgram))
    (i5_BadProgram : K.lookup cc_BadProgram = some ⟨cl_BadProgram, cld_BadProgram, .cell (some (.ref a_BadProgram)), csl_BadProgram⟩)
    (i6_BadProgram : PySem.W.ks_superIn K a_BadProgram a_BadProgram "__init__" = some (some (.builtin "ValueError.__init__")))
    (i7_BadProgram : PySem.W.subIn K (.ref a_BadProgram) (.type "ValueError") = some true)
    (i8_BadProgram : PySem.W.mroIn K a_BadProgram (.ref a_BadProgram) = some true)
    (A_BadText : PySem.W.nsIn K mainGlobals "BadText" = some (some (.ref a_BadText)))
    (e1_BadText : K.lookup a_BadText = some (excClassObj nm_BadText qn_BadText a_BadText N_BadText bs_BadText bm_BadText true sn_BadText sub_BadText ab_BadText col_BadText dd_BadText k0_BadText k1_BadText k2_BadText k3_BadText k5_BadText "ValueError.__new__"))
    (e2_BadText : PySem.HandSPX.refsVE bm_BadText = true)
    (e3_BadText : PySem.W.findIn K (.ref a_BadText) "__setattr__" = some (some (.builtin "object.__setattr__")))
    (e4_BadText : PySem.W.subIn K (.ref a_BadText) (.type "BaseException") = some true)
    (e5_BadText : PySem.W.typeIn K (.ref a_BadText) = some (.type "type"))
    (e6_BadText : PySem.W.keepIn K (.ref a_BadText) = true)
    (e7_BadText : PySem.W.findIn K (.ref a_BadText) "__getattribute__" = some (some (.builtin "BaseException.__getattribute__")))
    (e8_BadText : PySem.W.findIn K (.ref a_BadText) "__getattr__" = some none)
    (e9_BadText : PySem.W.hasDictIn K a_BadText = true)
    (e10_BadText : PySem.W.findIn K (.ref a_BadText) "__class__" = some (some (.builtin "object.__class__")))
    (e13_BadText : PySem.W.mroIn K a_BadText (.type "object") = some true)
    (e14_BadText : PySem.W.findIn K (.ref a_BadText) "row" = some none)
    (e15_BadText : PySem.W.findIn K (.ref a_BadText) "__init__" = some (some (.ref f_BadText)))
    (e16_BadText : PySem.W.typeIn K (.ref f_BadText) = some (.type "function"))
    (e20_BadText : PySem.W.subIn K (.ref a_BadText) (.ref a_SeedError) = some true)
    (i1_BadText : K.lookup f_BadText = some ⟨oc_BadText, od_BadText, .func (PySem.W.fnX "__init__" "BadText.__init__" (defArgs s_BadText_init) (defBody s_BadText_init) (defScope s_BadText_init) [("__class__", cc_BadText)] .none kV_BadText dc_BadText pm_BadText an_BadText (.ref cd_BadText) ct_BadText), osl_BadText⟩)
    (i2_BadText : PySem.W.codeIn K (.ref cd_BadText) "BadText.__init__" = true)
    (i3_BadText : K.lookup cd_BadText = some ⟨ccl_BadText, cdd_BadText, .fields vs_BadText, ccs_BadText⟩)
    (i4_BadText : vs_BadText[2]? = some (.str "/claim/cut.py" tf_BadText))
    (i5_BadText : K.lookup cc_BadText = some ⟨cl_BadText, cld_BadText, .cell (some (.ref a_BadText)), csl_BadText⟩)
    (i6_BadText : PySem.W.ks_superIn K a_BadText a_BadText "__init__" = some (some (.builtin "ValueError.__init__")))
    (i7_BadText : PySem.W.subIn K (.ref a_BadText) (.type "ValueError") = some true)
    (i8_BadText : PySem.W.mroIn K a_BadText (.ref a_BadText) = some true)
    (no_BadProgram_BadText : PySem.W.kitOne K (.ref a_BadProgram) (.ref a_BadText) = some false)
    (x2 : PySem.W.nsIn K mainGlobals "is_integer" = some (some (.ref f_is_integer)))
    (l2 : K.lookup f_is_integer = some ⟨oc2, od2, .func (PySem.W.fnOf "is_integer" "is_integer" (defArgs s_is_integer) (defBody s_is_integer) (defScope s_is_integer) .none kV2 dc2 pm2 an2 cd2 ct2), sl2⟩)
    (c2 : PySem.W.codeIn K cd2 "is_integer" = true)
    (k2 : PySem.W.keepIn K (.ref f_is_integer) = true)
    (x3 : PySem.W.nsIn K mainGlobals "is_name" = some (some (.ref f_is_name)))
    (l3 : K.lookup f_is_name = some ⟨oc3, od3, .func (PySem.W.fnOf "is_name" "is_name" (defArgs s_is_name) (defBody s_is_name) (defScope s_is_name) .none kV3 dc3 pm3 an3 cd3 ct3), sl3⟩)
    (c3 : PySem.W.codeIn K cd3 "is_name" = true)
    (k3 : PySem.W.keepIn K (.ref f_is_name) = true)
    (x4 : PySem.W.nsIn K mainGlobals "are_kinds" = some (some (.ref f_are_kinds)))
    (l4 : K.lookup f_are_kinds = some ⟨oc4, od4, .func (PySem.W.fnOf "are_kinds" "are_kinds" (defArgs s_are_kinds) (defBody s_are_kinds) (defScope s_are_kinds) .none kV4 dc4 pm4 an4 cd4 ct4), sl4⟩)
    (c4 : PySem.W.codeIn K cd4 "are_kinds" = true)
    (k4 : PySem.W.keepIn K (.ref f_are_kinds) = true)
    (x5 : PySem.W.nsIn K mainGlobals "is_state" = some (some (.ref f_is_state)))
    (l5 : K.lookup f_is_state = some ⟨oc5, od5, .func (PySem.W.fnOf "is_state" "is_state" (defArgs s_is_state) (defBody s_is_state) (defScope s_is_state) .none kV5 dc5 pm5 an5 cd5 ct5), sl5⟩)
    (c5 : PySem.W.codeIn K cd5 "is_state" = true)
    (k5 : PySem.W.keepIn K (.ref f_is_state) = true)
    (x6 : PySem.W.nsIn K mainGlobals "is_pair" = some (some (.ref f_is_pair)))
    (l6 : K.lookup f_is_pair = some ⟨oc6, od6, .func (PySem.W.fnOf "is_pair" "is_pair" (defArgs s_is_pair) (defBody s_is_pair) (defScope s_is_pair) .none kV6 dc6 pm6 an6 cd6 ct6), sl6⟩)
    (c6 : PySem.W.codeIn K cd6 "is_pair" = true)
    (k6 : PySem.W.keepIn K (.ref f_is_pair) = true)
    (x7 : PySem.W.nsIn K mainGlobals "are_rows" = some (some (.ref f_are_rows)))
    (l7 : K.lookup f_are_rows = some ⟨oc7, od7, .func (PySem.W.fnOf "are_rows" "are_rows" (defArgs s_are_rows) (defBody s_are_rows) (defScope s_are_rows) .none kV7 dc7 pm7 an7 cd7 ct7), sl7⟩)
    (c7 : PySem.W.codeIn K cd7 "are_rows" = true)
    (k7 : PySem.W.keepIn K (.ref f_are_rows) = true)
    (x8 : PySem.W.nsIn K mainGlobals "is_pass" = some (some (.ref f_is_pass)))
    (l8 : K.lookup f_is_pass = some ⟨oc8, od8, .func (PySem.W.fnOf "is_pass" "is_pass" (defArgs s_is_pass) (defBody s_is_pass) (defScope s_is_pass) .none kV8 dc8 pm8 an8 cd8 ct8), sl8⟩)
    (c8 : PySem.W.codeIn K cd8 "is_pass" = true)
    (k8 : PySem.W.keepIn K (.ref f_is_pass) = true)
    (x9 : PySem.W.nsIn K mainGlobals "are_passes" = some (some (.ref f_are_passes)))
    (l9 : K.lookup f_are_passes = some ⟨oc9, od9, .func (PySem.W.fnOf "are_passes" "are_passes" (defArgs s_are_passes) (defBody s_are_passes) (defScope s_are_passes) .none kV9 dc9 pm9 an9 cd9 ct9), sl9⟩)
    (c9 : PySem.W.codeIn K cd9 "are_passes" = true)
    (k9 : PySem.W.keepIn K (.ref f_are_passes) = true)
    (x10 : PySem.W.nsIn K mainGlobals "is_tell" = some (some (.ref f_is_tell)))
    (l10 : K.lookup f_is_tell = some ⟨oc10, od10, .func (PySem.W.fnOf "is_tell" "is_tell" (defArgs s_is_tell) (defBody s_is_tell) (defScope s_is_tell) .none kV10 dc10 pm10 an10 cd10 ct10), sl10⟩)
    (c10 : PySem.W.codeIn K cd10 "is_tell" = true)
    (k10 : PySem.W.keepIn K (.ref f_is_tell) = true)
    (x11 : PySem.W.findIn K (.ref a_Program) "__init__" = some (some (.ref f_Program_init)))
    (y11 : PySem.W.isFn K (.ref f_Program_init) = true)
    (l11 : K.lookup f_Program_init = some ⟨oc11, od11, .func (PySem.W.fnOf "__init__" "Program.__init__" (defArgs s_Program_init) (defBody s_Program_init) (defScope s_Program_init) .none kV11 dc11 pm11 an11 cd11 ct11), sl11⟩)
    (c11 : PySem.W.codeIn K cd11 "Program.__init__" = true)
    (k11 : PySem.W.keepIn K (.ref f_Program_init) = true)
    (mk_Program : PySem.W.makesIn K a_Program = true)
    (kc_Program : PySem.W.keepIn K (.ref a_Program) = true)
    (x12 : PySem.W.findIn K (.ref a_Program) "kinds" = some (some (.ref p_Program_kinds)))
    (y12 : PySem.W.specialIn K (.ref p_Program_kinds) "__get__" = some (some (.builtin "property.__get__")))
    (z12 : PySem.W.takesIn K (.ref p_Program_kinds) = some true)
    (w12 : PySem.W.recIn K p_Program_kinds "property" = some (.ref f_Program_kinds :: rs12))
    (l12 : K.lookup f_Program_kinds = some ⟨oc12, od12, .func (PySem.W.fnOf "kinds" "Program.kinds" (defArgs s_Program_kinds) (defBody s_Program_kinds) (defScope s_Program_kinds) .none kV12 dc12 pm12 an12 cd12 ct12), sl12⟩)
    (c12 : PySem.W.codeIn K cd12 "Program.kinds" = true)
    (k12 : PySem.W.keepIn K (.ref f_Program_kinds) = true)
    (x13 : PySem.W.findIn K (.ref a_Program) "passes" = some (some (.ref p_Program_passes)))
    (y13 : PySem.W.specialIn K (.ref p_Program_passes) "__get__" = some (some (.builtin "property.__get__")))
    (z13 : PySem.W.takesIn K (.ref p_Program_passes) = some true)
    (w13 : PySem.W.recIn K p_Program_passes "property" = some (.ref f_Program_passes :: rs13))
    (l13 : K.lookup f_Program_passes = some ⟨oc13, od13, .func (PySem.W.fnOf "passes" "Program.passes" (defArgs s_Program_passes) (defBody s_Program_passes) (defScope s_Program_passes) .none kV13 dc13 pm13 an13 cd13 ct13), sl13⟩)
    (c13 : PySem.W.codeIn K cd13 "Program.passes" = true)
    (k13 : PySem.W.keepIn K (.ref f_Program_passes) = true)
    (x14 : PySem.W.findIn K (.ref a_Program) "tells" = some (some (.ref p_Program_tells)))
    (y14 : PySem.W.specialIn K (.ref p_Program_tells) "__get__" = some (some (.builtin "property.__get__")))
    (z14 : PySem.W.takesIn K (.ref p_Program_tells) = some true)
    (w14 : PySem.W.recIn K p_Program_tells "property" = some (.ref f_Program_tells :: rs14))
    (l14 : K.lookup f_Program_tells = some ⟨oc14, od14, .func (PySem.W.fnOf "tells" "Program.tells" (defArgs s_Program_tells) (defBody s_Program_tells) (defScope s_Program_tells) .none kV14 dc14 pm14 an14 cd14 ct14), sl14⟩)
    (c14 : PySem.W.codeIn K cd14 "Program.tells" = true)
    (k14 : PySem.W.keepIn K (.ref f_Program_tells) = true)
    (x15 : PySem.W.findIn K (.ref a_Program) "parts" = some (some (.ref f_Program_parts)))
    (y15 : PySem.W.isFn K (.ref f_Program_parts) = true)
    (l15 : K.lookup f_Program_parts = some ⟨oc15, od15, .func (PySem.W.fnOf "parts" "Program.parts" (defArgs s_Program_parts) (defBody s_Program_parts) (defScope s_Program_parts) .none kV15 dc15 pm15 an15 cd15 ct15), sl15⟩)
    (c15 : PySem.W.codeIn K cd15 "Program.parts" = true)
    (k15 : PySem.W.keepIn K (.ref f_Program_parts) = true)
    (x16 : PySem.W.findIn K (.ref a_Program) "__eq__" = some (some (.ref f_Program_eq)))
    (y16 : PySem.W.isFn K (.ref f_Program_eq) = true)
    (l16 : K.lookup f_Program_eq = some ⟨oc16, od16, .func (PySem.W.fnOf "__eq__" "Program.__eq__" (defArgs s_Program_eq) (defBody s_Program_eq) (defScope s_Program_eq) .none kV16 dc16 pm16 an16 cd16 ct16), sl16⟩)
    (c16 : PySem.W.codeIn K cd16 "Program.__eq__" = true)
    (k16 : PySem.W.keepIn K (.ref f_Program_eq) = true)
    (ne_Program : PySem.W.findIn K (.ref a_Program) "__ne__" = some (some (.builtin "object.__ne__")))
    (mo_Program : PySem.W.mroIn K a_Program (.type "object") = some true)
    (x17 : PySem.W.nsIn K mainGlobals "is_numeral" = some (some (.ref f_is_numeral)))
    (l17 : K.lookup f_is_numeral = some ⟨oc17, od17, .func (PySem.W.fnOf "is_numeral" "is_numeral" (defArgs s_is_numeral) (defBody s_is_numeral) (defScope s_is_numeral) .none kV17 dc17 pm17 an17 cd17 ct17), sl17⟩)
    (c17 : PySem.W.codeIn K cd17 "is_numeral" = true)
    (k17 : PySem.W.keepIn K (.ref f_is_numeral) = true)
    (x18 : PySem.W.nsIn K mainGlobals "numbers_in" = some (some (.ref f_numbers_in)))
    (l18 : K.lookup f_numbers_in = some ⟨oc18, od18, .func (PySem.W.fnOf "numbers_in" "numbers_in" (defArgs s_numbers_in) (defBody s_numbers_in) (defScope s_numbers_in) .none kV18 dc18 pm18 an18 cd18 ct18), sl18⟩)
    (c18 : PySem.W.codeIn K cd18 "numbers_in" = true)
    (k18 : PySem.W.keepIn K (.ref f_numbers_in) = true)
    (x19 : PySem.W.nsIn K mainGlobals "read_row" = some (some (.ref f_read_row)))
    (l19 : K.lookup f_read_row = some ⟨oc19, od19, .func (PySem.W.fnOf "read_row" "read_row" (defArgs s_read_row) (defBody s_read_row) (defScope s_read_row) .none kV19 dc19 pm19 an19 cd19 ct19), sl19⟩)
    (c19 : PySem.W.codeIn K cd19 "read_row" = true)
    (k19 : PySem.W.keepIn K (.ref f_read_row) = true)
    (x20 : PySem.W.findIn K (.ref a_Reader) "__init__" = some (some (.ref f_Reader_init)))
    (y20 : PySem.W.isFn K (.ref f_Reader_init) = true)
    (l20 : K.lookup f_Reader_init = some ⟨oc20, od20, .func (PySem.W.fnOf "__init__" "Reader.__init__" (defArgs s_Reader_init) (defBody s_Reader_init) (defScope s_Reader_init) .none kV20 dc20 pm20 an20 cd20 ct20), sl20⟩)
    (c20 : PySem.W.codeIn K cd20 "Reader.__init__" = true)
    (k20 : PySem.W.keepIn K (.ref f_Reader_init) = true)
    (mk_Reader : PySem.W.makesIn K a_Reader = true)
    (kc_Reader : PySem.W.keepIn K (.ref a_Reader) = true)
    (x21 : PySem.W.findIn K (.ref a_Reader) "takes_kinds" = some (some (.ref f_Reader_takes_kinds)))
    (y21 : PySem.W.isFn K (.ref f_Reader_takes_kinds) = true)
    (l21 : K.lookup f_Reader_takes_kinds = some ⟨oc21, od21, .func (PySem.W.fnOf "takes_kinds" "Reader.takes_kinds" (defArgs s_Reader_takes_kinds) (defBody s_Reader_takes_kinds) (defScope s_Reader_takes_kinds) .none kV21 dc21 pm21 an21 cd21 ct21), sl21⟩)
    (c21 : PySem.W.codeIn K cd21 "Reader.takes_kinds" = true)
    (k21 : PySem.W.keepIn K (.ref f_Reader_takes_kinds) = true)
    (x22 : PySem.W.findIn K (.ref a_Reader) "takes_pass" = some (some (.ref f_Reader_takes_pass)))
    (y22 : PySem.W.isFn K (.ref f_Reader_takes_pass) = true)
    (l22 : K.lookup f_Reader_takes_pass = some ⟨oc22, od22, .func (PySem.W.fnOf "takes_pass" "Reader.takes_pass" (defArgs s_Reader_takes_pass) (defBody s_Reader_takes_pass) (defScope s_Reader_takes_pass) .none kV22 dc22 pm22 an22 cd22 ct22), sl22⟩)
    (c22 : PySem.W.codeIn K cd22 "Reader.takes_pass" = true)
    (k22 : PySem.W.keepIn K (.ref f_Reader_takes_pass) = true)
    (x23 : PySem.W.findIn K (.ref a_Reader) "takes_row" = some (some (.ref f_Reader_takes_row)))
    (y23 : PySem.W.isFn K (.ref f_Reader_takes_row) = true)
    (l23 : K.lookup f_Reader_takes_row = some ⟨oc23, od23, .func (PySem.W.fnOf "takes_row" "Reader.takes_row" (defArgs s_Reader_takes_row) (defBody s_Reader_takes_row) (defScope s_Reader_takes_row) .none kV23 dc23 pm23 an23 cd23 ct23), sl23⟩)
    (c23 : PySem.W.codeIn K cd23 "Reader.takes_row" = true)
    (k23 : PySem.W.keepIn K (.ref f_Reader_takes_row) = true)
    (x24 : PySem.W.findIn K (.ref a_Reader) "takes_tell" = some (some (.ref f_Reader_takes_tell)))
    (y24 : PySem.W.isFn K (.ref f_Reader_takes_tell) = true)
    (l24 : K.lookup f_Reader_takes_tell = some ⟨oc24, od24, .func (PySem.W.fnOf "takes_tell" "Reader.takes_tell" (defArgs s_Reader_takes_tell) (defBody s_Reader_takes_tell) (defScope s_Reader_takes_tell) .none kV24 dc24 pm24 an24 cd24 ct24), sl24⟩)
    (c24 : PySem.W.codeIn K cd24 "Reader.takes_tell" = true)
    (k24 : PySem.W.keepIn K (.ref f_Reader_takes_tell) = true)
    (x25 : PySem.W.findIn K (.ref a_Reader) "takes" = some (some (.ref f_Reader_takes)))
    (y25 : PySem.W.isFn K (.ref f_Reader_takes) = true)
    (l25 : K.lookup f_Reader_takes = some ⟨oc25, od25, .func (PySem.W.fnOf "takes" "Reader.takes" (defArgs s_Reader_takes) (defBody s_Reader_takes) (defScope s_Reader_takes) .none kV25 dc25 pm25 an25 cd25 ct25), sl25⟩)
    (c25 : PySem.W.codeIn K cd25 "Reader.takes" = true)
    (k25 : PySem.W.keepIn K (.ref f_Reader_takes) = true)
    (x26 : PySem.W.findIn K (.ref a_Reader) "result" = some (some (.ref f_Reader_result)))
    (y26 : PySem.W.isFn K (.ref f_Reader_result) = true)
    (l26 : K.lookup f_Reader_result = some ⟨oc26, od26, .func (PySem.W.fnOf "result" "Reader.result" (defArgs s_Reader_result) (defBody s_Reader_result) (defScope s_Reader_result) .none kV26 dc26 pm26 an26 cd26 ct26), sl26⟩)
    (c26 : PySem.W.codeIn K cd26 "Reader.result" = true)
    (k26 : PySem.W.keepIn K (.ref f_Reader_result) = true)
    (x27 : PySem.W.nsIn K mainGlobals "read_program" = some (some (.ref f_read_program)))
    (l27 : K.lookup f_read_program = some ⟨oc27, od27, .func (PySem.W.fnOf "read_program" "read_program" (defArgs s_read_program) (defBody s_read_program) (defScope s_read_program) .none kV27 dc27 pm27 an27 cd27 ct27), sl27⟩)
    (c27 : PySem.W.codeIn K cd27 "read_program" = true)
    (k27 : PySem.W.keepIn K (.ref f_read_program) = true)
    (x28 : PySem.W.nsIn K mainGlobals "read_order" = some (some (.ref f_read_order)))
    (l28 : K.lookup f_read_order = some ⟨oc28, od28, .func (PySem.W.fnOf "read_order" "read_order" (defArgs s_read_order) (defBody s_read_order) (defScope s_read_order) .none kV28 dc28 pm28 an28 cd28 ct28), sl28⟩)
    (c28 : PySem.W.codeIn K cd28 "read_order" = true)
    (k28 : PySem.W.keepIn K (.ref f_read_order) = true)
    (x29 : PySem.W.nsIn K mainGlobals "_law_state" = some (some (.ref f__law_state)))
    (l29 : K.lookup f__law_state = some ⟨oc29, od29, .func (PySem.W.fnOf "_law_state" "_law_state" (defArgs s__law_state) (defBody s__law_state) (defScope s__law_state) .none kV29 dc29 pm29 an29 cd29 ct29), sl29⟩)
    (c29 : PySem.W.codeIn K cd29 "_law_state" = true)
    (k29 : PySem.W.keepIn K (.ref f__law_state) = true)
    (x30 : PySem.W.nsIn K mainGlobals "_law_draw" = some (some (.ref f__law_draw)))
    (l30 : K.lookup f__law_draw = some ⟨oc30, od30, .func (PySem.W.fnOf "_law_draw" "_law_draw" (defArgs s__law_draw) (defBody s__law_draw) (defScope s__law_draw) .none kV30 dc30 pm30 an30 cd30 ct30), sl30⟩)
    (c30 : PySem.W.codeIn K cd30 "_law_draw" = true)
    (k30 : PySem.W.keepIn K (.ref f__law_draw) = true)
    (x31 : PySem.W.nsIn K mainGlobals "_law_pick" = some (some (.ref f__law_pick)))
    (l31 : K.lookup f__law_pick = some ⟨oc31, od31, .func (PySem.W.fnOf "_law_pick" "_law_pick" (defArgs s__law_pick) (defBody s__law_pick) (defScope s__law_pick) .none kV31 dc31 pm31 an31 cd31 ct31), sl31⟩)
    (c31 : PySem.W.codeIn K cd31 "_law_pick" = true)
    (k31 : PySem.W.keepIn K (.ref f__law_pick) = true)
    (x32 : PySem.W.nsIn K mainGlobals "_law_labels" = some (some (.ref f__law_labels)))
    (l32 : K.lookup f__law_labels = some ⟨oc32, od32, .func (PySem.W.fnOf "_law_labels" "_law_labels" (defArgs s__law_labels) (defBody s__law_labels) (defScope s__law_labels) .none kV32 dc32 pm32 an32 cd32 ct32), sl32⟩)
    (c32 : PySem.W.codeIn K cd32 "_law_labels" = true)
    (k32 : PySem.W.keepIn K (.ref f__law_labels) = true)
    (x33 : PySem.W.nsIn K mainGlobals "_law_gain" = some (some (.ref f__law_gain)))
    (l33 : K.lookup f__law_gain = some ⟨oc33, od33, .func (PySem.W.fnOf "_law_gain" "_law_gain" (defArgs s__law_gain) (defBody s__law_gain) (defScope s__law_gain) .none kV33 dc33 pm33 an33 cd33 ct33), sl33⟩)
    (c33 : PySem.W.codeIn K cd33 "_law_gain" = true)
    (k33 : PySem.W.keepIn K (.ref f__law_gain) = true)
    (x34 : PySem.W.nsIn K mainGlobals "_law_lap" = some (some (.ref f__law_lap)))
    (l34 : K.lookup f__law_lap = some ⟨oc34, od34, .func (PySem.W.fnOf "_law_lap" "_law_lap" (defArgs s__law_lap) (defBody s__law_lap) (defScope s__law_lap) .none kV34 dc34 pm34 an34 cd34 ct34), sl34⟩)
    (c34 : PySem.W.codeIn K cd34 "_law_lap" = true)
    (k34 : PySem.W.keepIn K (.ref f__law_lap) = true)
    (x35 : PySem.W.nsIn K mainGlobals "_law_parts" = some (some (.ref f__law_parts)))
    (l35 : K.lookup f__law_parts = some ⟨oc35, od35, .func (PySem.W.fnOf "_law_parts" "_law_parts" (defArgs s__law_parts) (defBody s__law_parts) (defScope s__law_parts) .none kV35 dc35 pm35 an35 cd35 ct35), sl35⟩)
    (c35 : PySem.W.codeIn K cd35 "_law_parts" = true)
    (k35 : PySem.W.keepIn K (.ref f__law_parts) = true)
    (x36 : PySem.W.nsIn K mainGlobals "_law_made" = some (some (.ref f__law_made)))
    (l36 : K.lookup f__law_made = some ⟨oc36, od36, .func (PySem.W.fnOf "_law_made" "_law_made" (defArgs s__law_made) (defBody s__law_made) (defScope s__law_made) .none kV36 dc36 pm36 an36 cd36 ct36), sl36⟩)
    (c36 : PySem.W.codeIn K cd36 "_law_made" = true)
    (k36 : PySem.W.keepIn K (.ref f__law_made) = true)
    (x37 : PySem.W.nsIn K mainGlobals "_law_tour" = some (some (.ref f__law_tour)))
    (l37 : K.lookup f__law_tour = some ⟨oc37, od37, .func (PySem.W.fnOf "_law_tour" "_law_tour" (defArgs s__law_tour) (defBody s__law_tour) (defScope s__law_tour) .none kV37 dc37 pm37 an37 cd37 ct37), sl37⟩)
    (c37 : PySem.W.codeIn K cd37 "_law_tour" = true)
    (k37 : PySem.W.keepIn K (.ref f__law_tour) = true)
    (x38 : PySem.W.nsIn K mainGlobals "_law_is_name" = some (some (.ref f__law_is_name)))
    (l38 : K.lookup f__law_is_name = some ⟨oc38, od38, .func (PySem.W.fnOf "_law_is_name" "_law_is_name" (defArgs s__law_is_name) (defBody s__law_is_name) (defScope s__law_is_name) .none kV38 dc38 pm38 an38 cd38 ct38), sl38⟩)
    (c38 : PySem.W.codeIn K cd38 "_law_is_name" = true)
    (k38 : PySem.W.keepIn K (.ref f__law_is_name) = true)
    (x39 : PySem.W.nsIn K mainGlobals "_law_is_int" = some (some (.ref f__law_is_int)))
    (l39 : K.lookup f__law_is_int = some ⟨oc39, od39, .func (PySem.W.fnOf "_law_is_int" "_law_is_int" (defArgs s__law_is_int) (defBody s__law_is_int) (defScope s__law_is_int) .none kV39 dc39 pm39 an39 cd39 ct39), sl39⟩)
    (c39 : PySem.W.codeIn K cd39 "_law_is_int" = true)
    (k39 : PySem.W.keepIn K (.ref f__law_is_int) = true)
    (x40 : PySem.W.nsIn K mainGlobals "_law_is_state" = some (some (.ref f__law_is_state)))
    (l40 : K.lookup f__law_is_state = some ⟨oc40, od40, .func (PySem.W.fnOf "_law_is_state" "_law_is_state" (defArgs s__law_is_state) (defBody s__law_is_state) (defScope s__law_is_state) .none kV40 dc40 pm40 an40 cd40 ct40), sl40⟩)
    (c40 : PySem.W.codeIn K cd40 "_law_is_state" = true)
    (k40 : PySem.W.keepIn K (.ref f__law_is_state) = true)
    (x41 : PySem.W.nsIn K mainGlobals "_law_is_lap" = some (some (.ref f__law_is_lap)))
    (l41 : K.lookup f__law_is_lap = some ⟨oc41, od41, .func (PySem.W.fnOf "_law_is_lap" "_law_is_lap" (defArgs s__law_is_lap) (defBody s__law_is_lap) (defScope s__law_is_lap) .none kV41 dc41 pm41 an41 cd41 ct41), sl41⟩)
    (c41 : PySem.W.codeIn K cd41 "_law_is_lap" = true)
    (k41 : PySem.W.keepIn K (.ref f__law_is_lap) = true)
    (x42 : PySem.W.nsIn K mainGlobals "_law_wrong_part" = some (some (.ref f__law_wrong_part)))
    (l42 : K.lookup f__law_wrong_part = some ⟨oc42, od42, .func (PySem.W.fnOf "_law_wrong_part" "_law_wrong_part" (defArgs s__law_wrong_part) (defBody s__law_wrong_part) (defScope s__law_wrong_part) .none kV42 dc42 pm42 an42 cd42 ct42), sl42⟩)
    (c42 : PySem.W.codeIn K cd42 "_law_wrong_part" = true)
    (k42 : PySem.W.keepIn K (.ref f__law_wrong_part) = true)
    (x43 : PySem.W.nsIn K mainGlobals "_law_lines" = some (some (.ref f__law_lines)))
    (l43 : K.lookup f__law_lines = some ⟨oc43, od43, .func (PySem.W.fnOf "_law_lines" "_law_lines" (defArgs s__law_lines) (defBody s__law_lines) (defScope s__law_lines) .none kV43 dc43 pm43 an43 cd43 ct43), sl43⟩)
    (c43 : PySem.W.codeIn K cd43 "_law_lines" = true)
    (k43 : PySem.W.keepIn K (.ref f__law_lines) = true)
    (x44 : PySem.W.nsIn K mainGlobals "_law_page" = some (some (.ref f__law_page)))
    (l44 : K.lookup f__law_page = some ⟨oc44, od44, .func (PySem.W.fnOf "_law_page" "_law_page" (defArgs s__law_page) (defBody s__law_page) (defScope s__law_page) .none kV44 dc44 pm44 an44 cd44 ct44), sl44⟩)
    (c44 : PySem.W.codeIn K cd44 "_law_page" = true)
    (k44 : PySem.W.keepIn K (.ref f__law_page) = true)
    (x45 : PySem.W.nsIn K mainGlobals "_law_is_numeral" = some (some (.ref f__law_is_numeral)))
    (l45 : K.lookup f__law_is_numeral = some ⟨oc45, od45, .func (PySem.W.fnOf "_law_is_numeral" "_law_is_numeral" (defArgs s__law_is_numeral) (defBody s__law_is_numeral) (defScope s__law_is_numeral) .none kV45 dc45 pm45 an45 cd45 ct45), sl45⟩)
    (c45 : PySem.W.codeIn K cd45 "_law_is_numeral" = true)
    (k45 : PySem.W.keepIn K (.ref f__law_is_numeral) = true)
    (x46 : PySem.W.nsIn K mainGlobals "_law_numbers" = some (some (.ref f__law_numbers)))
    (l46 : K.lookup f__law_numbers = some ⟨oc46, od46, .func (PySem.W.fnOf "_law_numbers" "_law_numbers" (defArgs s__law_numbers) (defBody s__law_numbers) (defScope s__law_numbers) .none kV46 dc46 pm46 an46 cd46 ct46), sl46⟩)
    (c46 : PySem.W.codeIn K cd46 "_law_numbers" = true)
    (k46 : PySem.W.keepIn K (.ref f__law_numbers) = true)
    (x47 : PySem.W.nsIn K mainGlobals "_law_taken" = some (some (.ref f__law_taken)))
    (l47 : K.lookup f__law_taken = some ⟨oc47, od47, .func (PySem.W.fnOf "_law_taken" "_law_taken" (defArgs s__law_taken) (defBody s__law_taken) (defScope s__law_taken) .none kV47 dc47 pm47 an47 cd47 ct47), sl47⟩)
    (c47 : PySem.W.codeIn K cd47 "_law_taken" = true)
    (k47 : PySem.W.keepIn K (.ref f__law_taken) = true)
    (x48 : PySem.W.nsIn K mainGlobals "_law_read" = some (some (.ref f__law_read)))
    (l48 : K.lookup f__law_read = some ⟨oc48, od48, .func (PySem.W.fnOf "_law_read" "_law_read" (defArgs s__law_read) (defBody s__law_read) (defScope s__law_read) .none kV48 dc48 pm48 an48 cd48 ct48), sl48⟩)
    (c48 : PySem.W.codeIn K cd48 "_law_read" = true)
    (k48 : PySem.W.keepIn K (.ref f__law_read) = true)
    (x49 : PySem.W.nsIn K mainGlobals "_law_text_told" = some (some (.ref f__law_text_told)))
    (l49 : K.lookup f__law_text_told = some ⟨oc49, od49, .func (PySem.W.fnOf "_law_text_told" "_law_text_told" (defArgs s__law_text_told) (defBody s__law_text_told) (defScope s__law_text_told) .none kV49 dc49 pm49 an49 cd49 ct49), sl49⟩)
    (c49 : PySem.W.codeIn K cd49 "_law_text_told" = true)
    (k49 : PySem.W.keepIn K (.ref f__law_text_told) = true)
    (x50 : PySem.W.nsIn K mainGlobals "_law_tour_of" = some (some (.ref f__law_tour_of)))
    (l50 : K.lookup f__law_tour_of = some ⟨oc50, od50, .func (PySem.W.fnOf "_law_tour_of" "_law_tour_of" (defArgs s__law_tour_of) (defBody s__law_tour_of) (defScope s__law_tour_of) .none kV50 dc50 pm50 an50 cd50 ct50), sl50⟩)
    (c50 : PySem.W.codeIn K cd50 "_law_tour_of" = true)
    (k50 : PySem.W.keepIn K (.ref f__law_tour_of) = true)
    (x51 : PySem.W.nsIn K mainGlobals "_law_bent_text" = some (some (.ref f__law_bent_text)))
    (l51 : K.lookup f__law_bent_text = some ⟨oc51, od51, .func (PySem.W.fnOf "_law_bent_text" "_law_bent_text" (defArgs s__law_bent_text) (defBody s__law_bent_text) (defScope s__law_bent_text) .none kV51 dc51 pm51 an51 cd51 ct51), sl51⟩)
    (c51 : PySem.W.codeIn K cd51 "_law_bent_text" = true)
    (k51 : PySem.W.keepIn K (.ref f__law_bent_text) = true)
    (x52 : PySem.W.nsIn K mainGlobals "law" = some (some (.ref f_law)))
    (l52 : K.lookup f_law = some ⟨oc52, od52, .func (PySem.W.fnOf "law" "law" (defArgs s_law) (defBody s_law) (defScope s_law) .none kV52 dc52 pm52 an52 (.ref c_law) ct52), sl52⟩)
    (c52 : PySem.W.codeIn K (.ref c_law) "law" = true)
    (k52 : PySem.W.keepIn K (.ref f_law) = true)
    (la52 : K.lookup c_law = some ⟨le52, ld52, .fields lv52, ls52⟩)
    (lb52 : lv52[11]? = some (.ref t_law))
    (lc52 : K.lookup t_law = none)
    (le_52 : PySem.W.codeHdIn K c_law t_law = true)
    (q_isinstance : PySem.W.nsIn K mainGlobals "isinstance" = some none)
    (q_len : PySem.W.nsIn K mainGlobals "len" = some none)
    (q_all : PySem.W.nsIn K mainGlobals "all" = some none)
    (q_abs : PySem.W.nsIn K mainGlobals "abs" = some none)
    (q_min : PySem.W.nsIn K mainGlobals "min" = some none)
    (q_int : PySem.W.nsIn K mainGlobals "int" = some none)
    (q_str : PySem.W.nsIn K mainGlobals "str" = some none)
    (q_bool : PySem.W.nsIn K mainGlobals "bool" = some none)
    (q_tuple : PySem.W.nsIn K mainGlobals "tuple" = some none)
    (q_list : PySem.W.nsIn K mainGlobals "list" = some none)
    (q_sorted : PySem.W.nsIn K mainGlobals "sorted" = some none)
    (q_repr : PySem.W.nsIn K mainGlobals "repr" = some none)
    (q_range : PySem.W.nsIn K mainGlobals "range" = some none)
    (q_enumerate : PySem.W.nsIn K mainGlobals "enumerate" = some none)
    (q_zip : PySem.W.nsIn K mainGlobals "zip" = some none)
    (q_LETTERS : PySem.W.nsIn K mainGlobals "LETTERS" = some (some (.str "abcdefghijklmnopqrstuvwxyz" t_LETTERS)))
    (q_MOST_LETTERS : PySem.W.nsIn K mainGlobals "MOST_LETTERS" = some (some (.int 8 t_MOST_LETTERS)))
    (q_MOST_KINDS : PySem.W.nsIn K mainGlobals "MOST_KINDS" = some (some (.int 4 t_MOST_KINDS)))
    (q_MOST_PASSES : PySem.W.nsIn K mainGlobals "MOST_PASSES" = some (some (.int 2 t_MOST_PASSES)))
    (q_DIGITS : PySem.W.nsIn K mainGlobals "DIGITS" = some (some (.str "0123456789" t_DIGITS)))
    (q_MOST_DIGITS : PySem.W.nsIn K mainGlobals "MOST_DIGITS" = some (some (.int 6 t_MOST_DIGITS)))
    (q_MARGIN : PySem.W.nsIn K mainGlobals "MARGIN" = some (some (.str "  " t_MARGIN)))
    (q_EMPTY : PySem.W.nsIn K mainGlobals "EMPTY" = some (some (.str "-" t_EMPTY)))
    : ∃ (fd : FuncData) (cs : List (Addr × Addr)) (sp : Sp), (∀ (s : Shared) (u : Value), BindsTo s fd ⟨[u], []⟩ [("_law_script", u)]) ∧ (∀ p ∈ cs, h.get? p.2 = some empT ∧ K.lookup p.2 = none ∧ PySem.W.CodeHd h p.1 p.2) ∧ (∀ (H : Hp) (a : Addr) (ns : List Int), ns.length ≤ 63 → (∀ p ∈ cs, H p.2 = some (.tbl #[])) → SqL K H a (ns.map V.int) → sp [.ref a] H (fun v _ => v = .bl true) fun _ _ _ => False) ∧ ∀ base : Heap, K.In base → base.Ns mainGlobals mg → (∀ p ∈ cs, LamX.TabB base mg p.1 p.2) → LawRun P w K mg base 14 fa fd ["_law_script"] sp := by
  have e := (PySem.W.mg_of X G x52).symm.trans hfa
  have e2 : f_law = fa := by cases e; rfl
  subst e2
  have EF_BadProgram : ErrF K a_SeedError a_BadProgram f_BadProgram "part" := errF_mk e1_BadProgram e2_BadProgram e3_BadProgram e4_BadProgram e5_BadProgram e6_BadProgram e7_BadProgram e8_BadProgram e9_BadProgram e10_BadProgram ib_E ic_E e13_BadProgram e14_BadProgram e15_BadProgram e16_BadProgram S1 S2 S3 e20_BadProgram
  have EF_BadText : ErrF K a_SeedError a_BadText f_BadText "row" := errF_mk e1_BadText e2_BadText e3_BadText e4_BadText e5_BadText e6_BadText e7_BadText e8_BadText e9_BadText e10_BadText ib_E ic_E e13_BadText e14_BadText e15_BadText e16_BadText S1 S2 S3 e20_BadText
  have F2 := fun_mk (st := s_is_integer) l2 c2 k2
  have F3 := fun_mk (st := s_is_name) l3 c3 k3
  have F4 := fun_mk (st := s_are_kinds) l4 c4 k4
  have F5 := fun_mk (st := s_is_state) l5 c5 k5
  have F6 := fun_mk (st := s_is_pair) l6 c6 k6
  have F7 := fun_mk (st := s_are_rows) l7 c7 k7
  have F8 := fun_mk (st := s_is_pass) l8 c8 k8
  have F9 := fun_mk (st := s_are_passes) l9 c9 k9
  have F10 := fun_mk (st := s_is_tell) l10 c10 k10
  have F11 := fun_mk (st := s_Program_init) l11 c11 k11
  have F12 := fun_mk (st := s_Program_kinds) l12 c12 k12
  have F13 := fun_mk (st := s_Program_passes) l13 c13 k13
  have F14 := fun_mk (st := s_Program_tells) l14 c14 k14
  have F15 := fun_mk (st := s_Program_parts) l15 c15 k15
  have F16 := fun_mk (st := s_Program_eq) l16 c16 k16
  have F17 := fun_mk (st := s_is_numeral) l17 c17 k17
  have F18 := fun_mk (st := s_numbers_in) l18 c18 k18
  have F19 := fun_mk (st := s_read_row) l19 c19 k19
  have F20 := fun_mk (st := s_Reader_init) l20 c20 k20
  have F21 := fun_mk (st := s_Reader_takes_kinds) l21 c21 k21
  have F22 := fun_mk (st := s_Reader_takes_pass) l22 c22 k22
  have F23 := fun_mk (st := s_Reader_takes_row) l23 c23 k23
  have F24 := fun_mk (st := s_Reader_takes_tell) l24 c24 k24
  have F25 := fun_mk (st := s_Reader_takes) l25 c25 k25
  have F26 := fun_mk (st := s_Reader_result) l26 c26 k26
  have F27 := fun_mk (st := s_read_program) l27 c27 k27
  have F28 := fun_mk (st := s_read_order) l28 c28 k28
  have F29 := fun_mk (st := s__law_state) l29 c29 k29
  have F30 := fun_mk (st := s__law_draw) l30 c30 k30
  have F31 := fun_mk (st := s__law_pick) l31 c31 k31
  have F32 := fun_mk (st := s__law_labels) l32 c32 k32
  have F33 := fun_mk (st := s__law_gain) l33 c33 k33
  have F34 := fun_mk (st := s__law_lap) l34 c34 k34
  have F35 := fun_mk (st := s__law_parts) l35 c35 k35
  have F36 := fun_mk (st := s__law_made) l36 c36 k36
  have F37 := fun_mk (st := s__law_tour) l37 c37 k37
  have F38 := fun_mk (st := s__law_is_name) l38 c38 k38
  have F39 := fun_mk (st := s__law_is_int) l39 c39 k39
  have F40 := fun_mk (st := s__law_is_state) l40 c40 k40
  have F41 := fun_mk (st := s__law_is_lap) l41 c41 k41
  have F42 := fun_mk (st := s__law_wrong_part) l42 c42 k42
  have F43 := fun_mk (st := s__law_lines) l43 c43 k43
  have F44 := fun_mk (st := s__law_page) l44 c44 k44
  have F45 := fun_mk (st := s__law_is_numeral) l45 c45 k45
  have F46 := fun_mk (st := s__law_numbers) l46 c46 k46
  have F47 := fun_mk (st := s__law_taken) l47 c47 k47
  have F48 := fun_mk (st := s__law_read) l48 c48 k48
  have F49 := fun_mk (st := s__law_text_told) l49 c49 k49
  have F50 := fun_mk (st := s__law_tour_of) l50 c50 k50
  have F51 := fun_mk (st := s__law_bent_text) l51 c51 k51
  have F52 : FunC K "law" "law" s_law f_law (PySem.W.fnOf "law" "law" (defArgs s_law) (defBody s_law) (defScope s_law) .none kV52 dc52 pm52 an52 (.ref c_law) ct52) c_law := ⟨oc52, od52, kV52, dc52, pm52, an52, ct52, sl52, rfl, l52, c52⟩
  let T : Tx P K mg := {
    a_Program := a_Program,
    g_Program := PySem.W.mg_of X G A_Program,
    c_Program := ⟨pg_Program, hd_Program, po_Program, sa_Program⟩,
    n_Program_p_kinds := n_Program_p_kinds,
    n_Program_p_passes := n_Program_p_passes,
    n_Program_p_tells := n_Program_p_tells,
    i_Program := ⟨⟨pg_Program, hd_Program, po_Program, sa_Program⟩, ia_Program, ib_Program, ic_Program, id_Program⟩,
    self_Program := if_pos (beq_self_eq_true _),
    a_Reader := a_Reader,
    g_Reader := PySem.W.mg_of X G A_Reader,
    c_Reader := ⟨pg_Reader, hd_Reader, po_Reader, sa_Reader⟩,
    n_Reader_r_kinds := n_Reader_r_kinds,
    n_Reader_r_passes := n_Reader_r_passes,
    n_Reader_r_tells := n_Reader_r_tells,
    a_SeedError := a_SeedError,
    g_SeedError := PySem.W.mg_of X G A_SeedError,
    m_super := PySem.W.mg_none_of X G q_super,
    a_BadProgram := a_BadProgram,
    g_BadProgram := PySem.W.mg_of X G A_BadProgram,
    f_BadProgram_init := f_BadProgram,
    d_BadProgram_init := PySem.W.fnX "__init__" "BadProgram.__init__" (defArgs s_BadProgram_init) (defBody s_BadProgram_init) (defScope s_BadProgram_init) [("__class__", cc_BadProgram)] .none kV_BadProgram dc_BadProgram pm_BadProgram an_BadProgram (.ref cd_BadProgram) ct_BadProgram,
    I_BadProgram := iniF_mk hPF body_BadProgram i1_BadProgram i2_BadProgram i3_BadProgram i4_BadProgram i5_BadProgram EF_BadProgram.T e14_BadProgram hop i6_BadProgram i7_BadProgram i8_BadProgram rfl rfl rfl rfl rfl rfl (by decide +kernel) rfl rfl rfl (by decide) (by decide) (fun _ _ => rfl) (fun fd L e => swp_BadProgram fd L e),
    E_BadProgram := EF_BadProgram,
    b_BadProgram_init := .all (fun us hl => match us, hl with | [_, _], _ => rfl),
    a_BadText := a_BadText,
    g_BadText := PySem.W.mg_of X G A_BadText,
    f_BadText_init := f_BadText,
    d_BadText_init := PySem.W.fnX "__init__" "BadText.__init__" (defArgs s_BadText_init) (defBody s_BadText_init) (defScope s_BadText_init) [("__class__", cc_BadText)] .none kV_BadText dc_BadText pm_BadText an_BadText (.ref cd_BadText) ct_BadText,
    I_BadText := iniF_mk hPF body_BadText i1_BadText i2_BadText i3_BadText i4_BadText i5_BadText EF_BadText.T e14_BadText hop i6_BadText i7_BadText i8_BadText rfl rfl rfl rfl rfl rfl (by decide +kernel) rfl rfl rfl (by decide) (by decide) (fun _ _ => rfl) (fun fd L e => swp_BadText fd L e),
    E_BadText := EF_BadText,
    b_BadText_init := .all (fun us hl => match us, hl with | [_, _], _ => rfl),
    no_BadProgram_BadText := no_BadProgram_BadText,
    f_is_integer := f_is_integer,
    d_is_integer := PySem.W.fnOf "is_integer" "is_integer" (defArgs s_is_integer) (defBody s_is_integer) (defScope s_is_integer) .none kV2 dc2 pm2 an2 cd2 ct2,
    F_is_integer := F2,
    b_is_integer := F2.binds (ps := ["thing"]) fun _ _ _ _ _ _ us hl => match us, hl with | [_], _ => rfl,
    g_is_integer := PySem.W.mg_of X G x2,
    f_is_name := f_is_name,
    d_is_name := PySem.W.fnOf "is_name" "is_name" (defArgs s_is_name) (defBody s_is_name) (defScope s_is_name) .none kV3 dc3 pm3 an3 cd3 ct3,
    F_is_name := F3,
    b_is_name := F3.binds (ps := ["thing"]) fun _ _ _ _ _ _ us hl => match us, hl with | [_], _ => rfl,
    g_is_name := PySem.W.mg_of X G x3,
    f_are_kinds := f_are_kinds,
    d_are_kinds := PySem.W.fnOf "are_kinds" "are_kinds" (defArgs s_are_kinds) (defBody s_are_kinds) (defScope s_are_kinds) .none kV4 dc4 pm4 an4 cd4 ct4,
    F_are_kinds := F4,
    b_are_kinds := F4.binds (ps := ["thing"]) fun _ _ _ _ _ _ us hl => match us, hl with | [_], _ => rfl,
    g_are_kinds := PySem.W.mg_of X G x4,
    f_is_state := f_is_state,
    d_is_state := PySem.W.fnOf "is_state" "is_state" (defArgs s_is_state) (defBody s_is_state) (defScope s_is_state) .none kV5 dc5 pm5 an5 cd5 ct5,
    F_is_state := F5,
    b_is_state := F5.binds (ps := ["many", "thing"]) fun _ _ _ _ _ _ us hl => match us, hl with | [_, _], _ => rfl,
    g_is_state := PySem.W.mg_of X G x5,
    f_is_pair := f_is_pair,
    d_is_pair := PySem.W.fnOf "is_pair" "is_pair" (defArgs s_is_pair) (defBody s_is_pair) (defScope s_is_pair) .none kV6 dc6 pm6 an6 cd6 ct6,
    F_is_pair := F6,
    b_is_pair := F6.binds (ps := ["many", "thing"]) fun _ _ _ _ _ _ us hl => match us, hl with | [_, _], _ => rfl,
    g_is_pair := PySem.W.mg_of X G x6,
    f_are_rows := f_are_rows,
    d_are_rows := PySem.W.fnOf "are_rows" "are_rows" (defArgs s_are_rows) (defBody s_are_rows) (defScope s_are_rows) .none kV7 dc7 pm7 an7 cd7 ct7,
    F_are_rows := F7,
    b_are_rows := F7.binds (ps := ["size", "thing"]) fun _ _ _ _ _ _ us hl => match us, hl with | [_, _], _ => rfl,
    g_are_rows := PySem.W.mg_of X G x7,
    f_is_pass := f_is_pass,
    d_is_pass := PySem.W.fnOf "is_pass" "is_pass" (defArgs s_is_pass) (defBody s_is_pass) (defScope s_is_pass) .none kV8 dc8 pm8 an8 cd8 ct8,
    F_is_pass := F8,
    b_is_pass := F8.binds (ps := ["size", "begins", "thing"]) fun _ _ _ _ _ _ us hl => match us, hl with | [_, _, _], _ => rfl,
    g_is_pass := PySem.W.mg_of X G x8,
    f_are_passes := f_are_passes,
    d_are_passes := PySem.W.fnOf "are_passes" "are_passes" (defArgs s_are_passes) (defBody s_are_passes) (defScope s_are_passes) .none kV9 dc9 pm9 an9 cd9 ct9,
    F_are_passes := F9,
    b_are_passes := F9.binds (ps := ["size", "thing"]) fun _ _ _ _ _ _ us hl => match us, hl with | [_, _], _ => rfl,
    g_are_passes := PySem.W.mg_of X G x9,
    f_is_tell := f_is_tell,
    d_is_tell := PySem.W.fnOf "is_tell" "is_tell" (defArgs s_is_tell) (defBody s_is_tell) (defScope s_is_tell) .none kV10 dc10 pm10 an10 cd10 ct10,
    F_is_tell := F10,
    b_is_tell := F10.binds (ps := ["thing"]) fun _ _ _ _ _ _ us hl => match us, hl with | [_], _ => rfl,
    g_is_tell := PySem.W.mg_of X G x10,
    f_Program_init := f_Program_init,
    d_Program_init := PySem.W.fnOf "__init__" "Program.__init__" (defArgs s_Program_init) (defBody s_Program_init) (defScope s_Program_init) .none kV11 dc11 pm11 an11 cd11 ct11,
    F_Program_init := F11,
    b_Program_init := F11.binds (ps := ["self", "kinds", "passes", "tells"]) fun _ _ _ _ _ _ us hl => match us, hl with | [_, _, _, _], _ => rfl,
    K_Program := ⟨mk_Program, x11, y11, kc_Program⟩,
    f_Program_kinds := f_Program_kinds,
    d_Program_kinds := PySem.W.fnOf "kinds" "Program.kinds" (defArgs s_Program_kinds) (defBody s_Program_kinds) (defScope s_Program_kinds) .none kV12 dc12 pm12 an12 cd12 ct12,
    F_Program_kinds := F12,
    b_Program_kinds := F12.binds (ps := ["self"]) fun _ _ _ _ _ _ us hl => match us, hl with | [_], _ => rfl,
    p_Program_kinds := p_Program_kinds,
    P_Program_kinds := ⟨x12, y12, z12, rs12, w12⟩,
    f_Program_passes := f_Program_passes,
    d_Program_passes := PySem.W.fnOf "passes" "Program.passes" (defArgs s_Program_passes) (defBody s_Program_passes) (defScope s_Program_passes) .none kV13 dc13 pm13 an13 cd13 ct13,
    F_Program_passes := F13,
    b_Program_passes := F13.binds (ps := ["self"]) fun _ _ _ _ _ _ us hl => match us, hl with | [_], _ => rfl,
    p_Program_passes := p_Program_passes,
    P_Program_passes := ⟨x13, y13, z13, rs13, w13⟩,
    f_Program_tells := f_Program_tells,
    d_Program_tells := PySem.W.fnOf "tells" "Program.tells" (defArgs s_Program_tells) (defBody s_Program_tells) (defScope s_Program_tells) .none kV14 dc14 pm14 an14 cd14 ct14,
    F_Program_tells := F14,
    b_Program_tells := F14.binds (ps := ["self"]) fun _ _ _ _ _ _ us hl => match us, hl with | [_], _ => rfl,
    p_Program_tells := p_Program_tells,
    P_Program_tells := ⟨x14, y14, z14, rs14, w14⟩,
    f_Program_parts := f_Program_parts,
    d_Program_parts := PySem.W.fnOf "parts" "Program.parts" (defArgs s_Program_parts) (defBody s_Program_parts) (defScope s_Program_parts) .none kV15 dc15 pm15 an15 cd15 ct15,
    F_Program_parts := F15,
    b_Program_parts := F15.binds (ps := ["self"]) fun _ _ _ _ _ _ us hl => match us, hl with | [_], _ => rfl,
    M_Program_parts := ⟨x15, y15, k15⟩,
    f_Program_eq := f_Program_eq,
    d_Program_eq := PySem.W.fnOf "__eq__" "Program.__eq__" (defArgs s_Program_eq) (defBody s_Program_eq) (defScope s_Program_eq) .none kV16 dc16 pm16 an16 cd16 ct16,
    F_Program_eq := F16,
    b_Program_eq := F16.binds (ps := ["self", "other"]) fun _ _ _ _ _ _ us hl => match us, hl with | [_, _], _ => rfl,
    e_Program := ⟨x16, y16, ne_Program, mo_Program⟩,
    f_is_numeral := f_is_numeral,
    d_is_numeral := PySem.W.fnOf "is_numeral" "is_numeral" (defArgs s_is_numeral) (defBody s_is_numeral) (defScope s_is_numeral) .none kV17 dc17 pm17 an17 cd17 ct17,
    F_is_numeral := F17,
    b_is_numeral := F17.binds (ps := ["word"]) fun _ _ _ _ _ _ us hl => match us, hl with | [_], _ => rfl,
    g_is_numeral := PySem.W.mg_of X G x17,
    f_numbers_in := f_numbers_in,
    d_numbers_in := PySem.W.fnOf "numbers_in" "numbers_in" (defArgs s_numbers_in) (defBody s_numbers_in) (defScope s_numbers_in) .none kV18 dc18 pm18 an18 cd18 ct18,
    F_numbers_in := F18,
    b_numbers_in := F18.binds (ps := ["words"]) fun _ _ _ _ _ _ us hl => match us, hl with | [_], _ => rfl,
    g_numbers_in := PySem.W.mg_of X G x18,
    f_read_row := f_read_row,
    d_read_row := PySem.W.fnOf "read_row" "read_row" (defArgs s_read_row) (defBody s_read_row) (defScope s_read_row) .none kV19 dc19 pm19 an19 cd19 ct19,
    F_read_row := F19,
    b_read_row := F19.binds (ps := ["size", "line"]) fun _ _ _ _ _ _ us hl => match us, hl with | [_, _], _ => rfl,
    g_read_row := PySem.W.mg_of X G x19,
    f_Reader_init := f_Reader_init,
    d_Reader_init := PySem.W.fnOf "__init__" "Reader.__init__" (defArgs s_Reader_init) (defBody s_Reader_init) (defScope s_Reader_init) .none kV20 dc20 pm20 an20 cd20 ct20,
    F_Reader_init := F20,
    b_Reader_init := F20.binds (ps := ["self"]) fun _ _ _ _ _ _ us hl => match us, hl with | [_], _ => rfl,
    K_Reader := ⟨mk_Reader, x20, y20, kc_Reader⟩,
    f_Reader_takes_kinds := f_Reader_takes_kinds,
    d_Reader_takes_kinds := PySem.W.fnOf "takes_kinds" "Reader.takes_kinds" (defArgs s_Reader_takes_kinds) (defBody s_Reader_takes_kinds) (defScope s_Reader_takes_kinds) .none kV21 dc21 pm21 an21 cd21 ct21,
    F_Reader_takes_kinds := F21,
    b_Reader_takes_kinds := F21.binds (ps := ["self", "words"]) fun _ _ _ _ _ _ us hl => match us, hl with | [_, _], _ => rfl,
    M_Reader_takes_kinds := ⟨x21, y21, k21⟩,
    f_Reader_takes_pass := f_Reader_takes_pass,
    d_Reader_takes_pass := PySem.W.fnOf "takes_pass" "Reader.takes_pass" (defArgs s_Reader_takes_pass) (defBody s_Reader_takes_pass) (defScope s_Reader_takes_pass) .none kV22 dc22 pm22 an22 cd22 ct22,
    F_Reader_takes_pass := F22,
    b_Reader_takes_pass := F22.binds (ps := ["self", "words"]) fun _ _ _ _ _ _ us hl => match us, hl with | [_, _], _ => rfl,
    M_Reader_takes_pass := ⟨x22, y22, k22⟩,
    f_Reader_takes_row := f_Reader_takes_row,
    d_Reader_takes_row := PySem.W.fnOf "takes_row" "Reader.takes_row" (defArgs s_Reader_takes_row) (defBody s_Reader_takes_row) (defScope s_Reader_takes_row) .none kV23 dc23 pm23 an23 cd23 ct23,
    F_Reader_takes_row := F23,
    b_Reader_takes_row := F23.binds (ps := ["self", "line"]) fun _ _ _ _ _ _ us hl => match us, hl with | [_, _], _ => rfl,
    M_Reader_takes_row := ⟨x23, y23, k23⟩,
    f_Reader_takes_tell := f_Reader_takes_tell,
    d_Reader_takes_tell := PySem.W.fnOf "takes_tell" "Reader.takes_tell" (defArgs s_Reader_takes_tell) (defBody s_Reader_takes_tell) (defScope s_Reader_takes_tell) .none kV24 dc24 pm24 an24 cd24 ct24,
    F_Reader_takes_tell := F24,
    b_Reader_takes_tell := F24.binds (ps := ["self", "words"]) fun _ _ _ _ _ _ us hl => match us, hl with | [_, _], _ => rfl,
    M_Reader_takes_tell := ⟨x24, y24, k24⟩,
    f_Reader_takes := f_Reader_takes,
    d_Reader_takes := PySem.W.fnOf "takes" "Reader.takes" (defArgs s_Reader_takes) (defBody s_Reader_takes) (defScope s_Reader_takes) .none kV25 dc25 pm25 an25 cd25 ct25,
    F_Reader_takes := F25,
    b_Reader_takes := F25.binds (ps := ["self", "line"]) fun _ _ _ _ _ _ us hl => match us, hl with | [_, _], _ => rfl,
    M_Reader_takes := ⟨x25, y25, k25⟩,
    f_Reader_result := f_Reader_result,
    d_Reader_result := PySem.W.fnOf "result" "Reader.result" (defArgs s_Reader_result) (defBody s_Reader_result) (defScope s_Reader_result) .none kV26 dc26 pm26 an26 cd26 ct26,
    F_Reader_result := F26,
    b_Reader_result := F26.binds (ps := ["self"]) fun _ _ _ _ _ _ us hl => match us, hl with | [_], _ => rfl,
    M_Reader_result := ⟨x26, y26, k26⟩,
    f_read_program := f_read_program,
    d_read_program := PySem.W.fnOf "read_program" "read_program" (defArgs s_read_program) (defBody s_read_program) (defScope s_read_program) .none kV27 dc27 pm27 an27 cd27 ct27,
    F_read_program := F27,
    b_read_program := F27.binds (ps := ["text"]) fun _ _ _ _ _ _ us hl => match us, hl with | [_], _ => rfl,
    g_read_program := PySem.W.mg_of X G x27,
    f_read_order := f_read_order,
    d_read_order := PySem.W.fnOf "read_order" "read_order" (defArgs s_read_order) (defBody s_read_order) (defScope s_read_order) .none kV28 dc28 pm28 an28 cd28 ct28,
    F_read_order := F28,
    b_read_order := F28.binds (ps := ["program", "text"]) fun _ _ _ _ _ _ us hl => match us, hl with | [_, _], _ => rfl,
    g_read_order := PySem.W.mg_of X G x28,
    f__law_state := f__law_state,
    d__law_state := PySem.W.fnOf "_law_state" "_law_state" (defArgs s__law_state) (defBody s__law_state) (defScope s__law_state) .none kV29 dc29 pm29 an29 cd29 ct29,
    F__law_state := F29,
    b__law_state := F29.binds (ps := ["_law_script"]) fun _ _ _ _ _ _ us hl => match us, hl with | [_], _ => rfl,
    g__law_state := PySem.W.mg_of X G x29,
    f__law_draw := f__law_draw,
    d__law_draw := PySem.W.fnOf "_law_draw" "_law_draw" (defArgs s__law_draw) (defBody s__law_draw) (defScope s__law_draw) .none kV30 dc30 pm30 an30 cd30 ct30,
    F__law_draw := F30,
    b__law_draw := F30.binds (ps := ["_law_draws", "_law_many"]) fun _ _ _ _ _ _ us hl => match us, hl with | [_, _], _ => rfl,
    g__law_draw := PySem.W.mg_of X G x30,
    f__law_pick := f__law_pick,
    d__law_pick := PySem.W.fnOf "_law_pick" "_law_pick" (defArgs s__law_pick) (defBody s__law_pick) (defScope s__law_pick) .none kV31 dc31 pm31 an31 cd31 ct31,
    F__law_pick := F31,
    b__law_pick := F31.binds (ps := ["_law_draws", "_law_some"]) fun _ _ _ _ _ _ us hl => match us, hl with | [_, _], _ => rfl,
    g__law_pick := PySem.W.mg_of X G x31,
    f__law_labels := f__law_labels,
    d__law_labels := PySem.W.fnOf "_law_labels" "_law_labels" (defArgs s__law_labels) (defBody s__law_labels) (defScope s__law_labels) .none kV32 dc32 pm32 an32 cd32 ct32,
    F__law_labels := F32,
    b__law_labels := F32.binds (ps := ["_law_draws", "_law_many"]) fun _ _ _ _ _ _ us hl => match us, hl with | [_, _], _ => rfl,
    g__law_labels := PySem.W.mg_of X G x32,
    f__law_gain := f__law_gain,
    d__law_gain := PySem.W.fnOf "_law_gain" "_law_gain" (defArgs s__law_gain) (defBody s__law_gain) (defScope s__law_gain) .none kV33 dc33 pm33 an33 cd33 ct33,
    F__law_gain := F33,
    b__law_gain := F33.binds (ps := ["_law_draws"]) fun _ _ _ _ _ _ us hl => match us, hl with | [_], _ => rfl,
    g__law_gain := PySem.W.mg_of X G x33,
    f__law_lap := f__law_lap,
    d__law_lap := PySem.W.fnOf "_law_lap" "_law_lap" (defArgs s__law_lap) (defBody s__law_lap) (defScope s__law_lap) .none kV34 dc34 pm34 an34 cd34 ct34,
    F__law_lap := F34,
    b__law_lap := F34.binds (ps := ["_law_draws", "_law_size", "_law_starts", "_law_most"]) fun _ _ _ _ _ _ us hl => match us, hl with | [_, _, _, _], _ => rfl,
    g__law_lap := PySem.W.mg_of X G x34,
    f__law_parts := f__law_parts,
    d__law_parts := PySem.W.fnOf "_law_parts" "_law_parts" (defArgs s__law_parts) (defBody s__law_parts) (defScope s__law_parts) .none kV35 dc35 pm35 an35 cd35 ct35,
    F__law_parts := F35,
    b__law_parts := F35.binds (ps := ["_law_draws", "_law_many", "_law_most"]) fun _ _ _ _ _ _ us hl => match us, hl with | [_, _, _], _ => rfl,
    g__law_parts := PySem.W.mg_of X G x35,
    f__law_made := f__law_made,
    d__law_made := PySem.W.fnOf "_law_made" "_law_made" (defArgs s__law_made) (defBody s__law_made) (defScope s__law_made) .none kV36 dc36 pm36 an36 cd36 ct36,
    F__law_made := F36,
    b__law_made := F36.binds (ps := ["_law_parts_here"]) fun _ _ _ _ _ _ us hl => match us, hl with | [_], _ => rfl,
    g__law_made := PySem.W.mg_of X G x36,
    f__law_tour := f__law_tour,
    d__law_tour := PySem.W.fnOf "_law_tour" "_law_tour" (defArgs s__law_tour) (defBody s__law_tour) (defScope s__law_tour) .none kV37 dc37 pm37 an37 cd37 ct37,
    F__law_tour := F37,
    b__law_tour := F37.binds (ps := ["_law_draws", "_law_sorts", "_law_most"]) fun _ _ _ _ _ _ us hl => match us, hl with | [_, _, _], _ => rfl,
    g__law_tour := PySem.W.mg_of X G x37,
    f__law_is_name := f__law_is_name,
    d__law_is_name := PySem.W.fnOf "_law_is_name" "_law_is_name" (defArgs s__law_is_name) (defBody s__law_is_name) (defScope s__law_is_name) .none kV38 dc38 pm38 an38 cd38 ct38,
    F__law_is_name := F38,
    b__law_is_name := F38.binds (ps := ["_law_value"]) fun _ _ _ _ _ _ us hl => match us, hl with | [_], _ => rfl,
    g__law_is_name := PySem.W.mg_of X G x38,
    f__law_is_int := f__law_is_int,
    d__law_is_int := PySem.W.fnOf "_law_is_int" "_law_is_int" (defArgs s__law_is_int) (defBody s__law_is_int) (defScope s__law_is_int) .none kV39 dc39 pm39 an39 cd39 ct39,
    F__law_is_int := F39,
    b__law_is_int := F39.binds (ps := ["_law_value"]) fun _ _ _ _ _ _ us hl => match us, hl with | [_], _ => rfl,
    g__law_is_int := PySem.W.mg_of X G x39,
    f__law_is_state := f__law_is_state,
    d__law_is_state := PySem.W.fnOf "_law_is_state" "_law_is_state" (defArgs s__law_is_state) (defBody s__law_is_state) (defScope s__law_is_state) .none kV40 dc40 pm40 an40 cd40 ct40,
    F__law_is_state := F40,
    b__law_is_state := F40.binds (ps := ["_law_many", "_law_value"]) fun _ _ _ _ _ _ us hl => match us, hl with | [_, _], _ => rfl,
    g__law_is_state := PySem.W.mg_of X G x40,
    f__law_is_lap := f__law_is_lap,
    d__law_is_lap := PySem.W.fnOf "_law_is_lap" "_law_is_lap" (defArgs s__law_is_lap) (defBody s__law_is_lap) (defScope s__law_is_lap) .none kV41 dc41 pm41 an41 cd41 ct41,
    F__law_is_lap := F41,
    b__law_is_lap := F41.binds (ps := ["_law_size", "_law_starts", "_law_value"]) fun _ _ _ _ _ _ us hl => match us, hl with | [_, _, _], _ => rfl,
    g__law_is_lap := PySem.W.mg_of X G x41,
    f__law_wrong_part := f__law_wrong_part,
    d__law_wrong_part := PySem.W.fnOf "_law_wrong_part" "_law_wrong_part" (defArgs s__law_wrong_part) (defBody s__law_wrong_part) (defScope s__law_wrong_part) .none kV42 dc42 pm42 an42 cd42 ct42,
    F__law_wrong_part := F42,
    b__law_wrong_part := F42.binds (ps := ["_law_sorts", "_law_laps", "_law_says"]) fun _ _ _ _ _ _ us hl => match us, hl with | [_, _, _], _ => rfl,
    g__law_wrong_part := PySem.W.mg_of X G x42,
    f__law_lines := f__law_lines,
    d__law_lines := PySem.W.fnOf "_law_lines" "_law_lines" (defArgs s__law_lines) (defBody s__law_lines) (defScope s__law_lines) .none kV43 dc43 pm43 an43 cd43 ct43,
    F__law_lines := F43,
    b__law_lines := F43.binds (ps := ["_law_parts_here"]) fun _ _ _ _ _ _ us hl => match us, hl with | [_], _ => rfl,
    g__law_lines := PySem.W.mg_of X G x43,
    f__law_page := f__law_page,
    d__law_page := PySem.W.fnOf "_law_page" "_law_page" (defArgs s__law_page) (defBody s__law_page) (defScope s__law_page) .none kV44 dc44 pm44 an44 cd44 ct44,
    F__law_page := F44,
    b__law_page := F44.binds (ps := ["_law_lines_here"]) fun _ _ _ _ _ _ us hl => match us, hl with | [_], _ => rfl,
    g__law_page := PySem.W.mg_of X G x44,
    f__law_is_numeral := f__law_is_numeral,
    d__law_is_numeral := PySem.W.fnOf "_law_is_numeral" "_law_is_numeral" (defArgs s__law_is_numeral) (defBody s__law_is_numeral) (defScope s__law_is_numeral) .none kV45 dc45 pm45 an45 cd45 ct45,
    F__law_is_numeral := F45,
    b__law_is_numeral := F45.binds (ps := ["_law_word"]) fun _ _ _ _ _ _ us hl => match us, hl with | [_], _ => rfl,
    g__law_is_numeral := PySem.W.mg_of X G x45,
    f__law_numbers := f__law_numbers,
    d__law_numbers := PySem.W.fnOf "_law_numbers" "_law_numbers" (defArgs s__law_numbers) (defBody s__law_numbers) (defScope s__law_numbers) .none kV46 dc46 pm46 an46 cd46 ct46,
    F__law_numbers := F46,
    b__law_numbers := F46.binds (ps := ["_law_words"]) fun _ _ _ _ _ _ us hl => match us, hl with | [_], _ => rfl,
    g__law_numbers := PySem.W.mg_of X G x46,
    f__law_taken := f__law_taken,
    d__law_taken := PySem.W.fnOf "_law_taken" "_law_taken" (defArgs s__law_taken) (defBody s__law_taken) (defScope s__law_taken) .none kV47 dc47 pm47 an47 cd47 ct47,
    F__law_taken := F47,
    b__law_taken := F47.binds (ps := ["_law_state_here", "_law_line"]) fun _ _ _ _ _ _ us hl => match us, hl with | [_, _], _ => rfl,
    g__law_taken := PySem.W.mg_of X G x47,
    f__law_read := f__law_read,
    d__law_read := PySem.W.fnOf "_law_read" "_law_read" (defArgs s__law_read) (defBody s__law_read) (defScope s__law_read) .none kV48 dc48 pm48 an48 cd48 ct48,
    F__law_read := F48,
    b__law_read := F48.binds (ps := ["_law_text"]) fun _ _ _ _ _ _ us hl => match us, hl with | [_], _ => rfl,
    g__law_read := PySem.W.mg_of X G x48,
    f__law_text_told := f__law_text_told,
    d__law_text_told := PySem.W.fnOf "_law_text_told" "_law_text_told" (defArgs s__law_text_told) (defBody s__law_text_told) (defScope s__law_text_told) .none kV49 dc49 pm49 an49 cd49 ct49,
    F__law_text_told := F49,
    b__law_text_told := F49.binds (ps := ["_law_work"]) fun _ _ _ _ _ _ us hl => match us, hl with | [_], _ => rfl,
    g__law_text_told := PySem.W.mg_of X G x49,
    f__law_tour_of := f__law_tour_of,
    d__law_tour_of := PySem.W.fnOf "_law_tour_of" "_law_tour_of" (defArgs s__law_tour_of) (defBody s__law_tour_of) (defScope s__law_tour_of) .none kV50 dc50 pm50 an50 cd50 ct50,
    F__law_tour_of := F50,
    b__law_tour_of := F50.binds (ps := ["_law_sorts", "_law_text"]) fun _ _ _ _ _ _ us hl => match us, hl with | [_, _], _ => rfl,
    g__law_tour_of := PySem.W.mg_of X G x50,
    f__law_bent_text := f__law_bent_text,
    d__law_bent_text := PySem.W.fnOf "_law_bent_text" "_law_bent_text" (defArgs s__law_bent_text) (defBody s__law_bent_text) (defScope s__law_bent_text) .none kV51 dc51 pm51 an51 cd51 ct51,
    F__law_bent_text := F51,
    b__law_bent_text := F51.binds (ps := ["_law_draws", "_law_sorts"]) fun _ _ _ _ _ _ us hl => match us, hl with | [_, _], _ => rfl,
    g__law_bent_text := PySem.W.mg_of X G x51,
    f_law := f_law,
    d_law := PySem.W.fnOf "law" "law" (defArgs s_law) (defBody s_law) (defScope s_law) .none kV52 dc52 pm52 an52 (.ref c_law) ct52,
    c_law := c_law,
    t_law := t_law,
    F_law := F52,
    b_law := .all (fun us hl => match us, hl with | [_], _ => rfl),
    g_law := PySem.W.mg_of X G x52,
    m_isinstance := PySem.W.mg_none_of X G q_isinstance,
    m_len := PySem.W.mg_none_of X G q_len,
    m_all := PySem.W.mg_none_of X G q_all,
    m_abs := PySem.W.mg_none_of X G q_abs,
    m_min := PySem.W.mg_none_of X G q_min,
    m_int := PySem.W.mg_none_of X G q_int,
    m_str := PySem.W.mg_none_of X G q_str,
    m_bool := PySem.W.mg_none_of X G q_bool,
    m_tuple := PySem.W.mg_none_of X G q_tuple,
    m_list := PySem.W.mg_none_of X G q_list,
    m_sorted := PySem.W.mg_none_of X G q_sorted,
    m_repr := PySem.W.mg_none_of X G q_repr,
    m_range := PySem.W.mg_none_of X G q_range,
    m_enumerate := PySem.W.mg_none_of X G q_enumerate,
    m_zip := PySem.W.mg_none_of X G q_zip,
    m_LETTERS := ⟨t_LETTERS, PySem.W.mg_of X G q_LETTERS⟩,
    m_MOST_LETTERS := ⟨t_MOST_LETTERS, PySem.W.mg_of X G q_MOST_LETTERS⟩,
    m_MOST_KINDS := ⟨t_MOST_KINDS, PySem.W.mg_of X G q_MOST_KINDS⟩,
    m_MOST_PASSES := ⟨t_MOST_PASSES, PySem.W.mg_of X G q_MOST_PASSES⟩,
    m_DIGITS := ⟨t_DIGITS, PySem.W.mg_of X G q_DIGITS⟩,
    m_MOST_DIGITS := ⟨t_MOST_DIGITS, PySem.W.mg_of X G q_MOST_DIGITS⟩,
    m_MARGIN := ⟨t_MARGIN, PySem.W.mg_of X G q_MARGIN⟩,
    m_EMPTY := ⟨t_EMPTY, PySem.W.mg_of X G q_EMPTY⟩ }
  refine ⟨T.d_law, [(c_law, t_law)], spLawT K t_law, fun s v => .of_eq rfl, fun p hp => ?_, fun H a ns hl hT hS => ⟨a, ns, rfl, hS, hl, hT (c_law, t_law) (by simp), fun _ => rfl⟩, fun base _ _ hTB => ok_law T (hTB (c_law, t_law) (by simp))⟩
  obtain rfl : p = (c_law, t_law) := by simpa using hp
  exact ⟨own c_law t_law _ _ _ _ _ _ l52 rfl rfl la52 lb52, lc52, PySem.W.codeHd_of_K X le_52⟩
end Sd
set_option Elab.async false
set_option linter.all false
set_option maxRecDepth 100000
open PySem PySem.W PyProof.Rows in
set_option maxRecDepth 100000 in
set_option maxHeartbeats 0 in
theorem PySem.Challenge.cw_seedless_k82_what_is_no_text_holds : PySem.Challenge.rw_seedless_k82_what_is_no_text.Holds := by
  w_on; o_law; k_head; (case hw => w_witness2)
  k_fill
  refine Sd.walk_ofRT (l := PySem.Challenge.rw_seedless_k82_what_is_no_text) (n := 63) (k := 14) (x := "_law_script") rfl (by decide) rfl ⟨rfl, by decide, by decide⟩ (by first | rfl | decide +kernel) (fun w h Y => PySem.W.km_in_of Y) ?F
  case F =>
    intro w mg fa h Y KX G hmg own
    refine' Sd.all_mk KX G hmg ⟨by decide +kernel, by decide +kernel⟩ own ?A_Program ?pg_Program ?hd_Program ?po_Program ?sa_Program ?n_Program_p_kinds ?n_Program_p_passes ?n_Program_p_tells ?ia_Program ?ib_Program ?ic_Program ?id_Program ?A_Reader ?pg_Reader ?hd_Reader ?po_Reader ?sa_Reader ?n_Reader_r_kinds ?n_Reader_r_passes ?n_Reader_r_tells ?A_SeedError ?q_super ?S1 ?S2 ?S3 ?ib_E ?ic_E ?hop ?A_BadProgram ?e1_BadProgram ?e2_BadProgram ?e3_BadProgram ?e4_BadProgram ?e5_BadProgram ?e6_BadProgram ?e7_BadProgram ?e8_BadProgram ?e9_BadProgram ?e10_BadProgram ?e13_BadProgram ?e14_BadProgram ?e15_BadProgram ?e16_BadProgram ?e20_BadProgram ?i1_BadProgram ?i2_BadProgram ?i3_BadProgram ?i4_BadProgram ?i5_BadProgram ?i6_BadProgram ?i7_BadProgram ?i8_BadProgram ?A_BadText ?e1_BadText ?e2_BadText ?e3_BadText ?e4_BadText ?e5_BadText ?e6_BadText ?e7_BadText ?e8_BadText ?e9_BadText ?e10_BadText ?e13_BadText ?e14_BadText ?e15_BadText ?e16_BadText ?e20_BadText ?i1_BadText ?i2_BadText ?i3_BadText ?i4_BadText ?i5_BadText ?i6_BadText ?i7_BadText ?i8_BadText ?no_BadProgram_BadText ?x2 ?l2 ?c2 ?k2 ?x3 ?l3 ?c3 ?k3 ?x4 ?l4 ?c4 ?k4 ?x5 ?l5 ?c5 ?k5 ?x6 ?l6 ?c6 ?k6 ?x7 ?l7 ?c7 ?k7 ?x8 ?l8 ?c8 ?k8 ?x9 ?l9 ?c9 ?k9 ?x10 ?l10 ?c10 ?k10 ?x11 ?y11 ?l11 ?c11 ?k11 ?mk_Program ?kc_Program ?x12 ?y12 ?z12 ?w12 ?l12 ?c12 ?k12 ?x13 ?y13 ?z13 ?w13 ?l13 ?c13 ?k13 ?x14 ?y14 ?z14 ?w14 ?l14 ?c14 ?k14 ?x15 ?y15 ?l15 ?c15 ?k15 ?x16 ?y16 ?l16 ?c16 ?k16 ?ne_Program ?mo_Program ?x17 ?l17 ?c17 ?k17 ?x18 ?l18 ?c18 ?k18 ?x19 ?l19 ?c19 ?k19 ?x20 ?y20 ?l20 ?c20 ?k20 ?mk_Reader ?kc_Reader ?x21 ?y21 ?l21 ?c21 ?k21 ?x22 ?y22 ?l22 ?c22 ?k22 ?x23 ?y23 ?l23 ?c23 ?k23 ?x24 ?y24 ?l24 ?c24 ?k24 ?x25 ?y25 ?l25 ?c25 ?k25 ?x26 ?y26 ?l26 ?c26 ?k26 ?x27 ?l27 ?c27 ?k27 ?x28 ?l28 ?c28 ?k28 ?x29 ?l29 ?c29 ?k29 ?x30 ?l30 ?c30 ?k30 ?x31 ?l31 ?c31 ?k31 ?x32 ?l32 ?c32 ?k32 ?x33 ?l33 ?c33 ?k33 ?x34 ?l34 ?c34 ?k34 ?x35 ?l35 ?c35 ?k35 ?x36 ?l36 ?c36 ?k36 ?x37 ?l37 ?c37 ?k37 ?x38 ?l38 ?c38 ?k38 ?x39 ?l39 ?c39 ?k39 ?x40 ?l40 ?c40 ?k40 ?x41 ?l41 ?c41 ?k41 ?x42 ?l42 ?c42 ?k42 ?x43 ?l43 ?c43 ?k43 ?x44 ?l44 ?c44 ?k44 ?x45 ?l45 ?c45 ?k45 ?x46 ?l46 ?c46 ?k46 ?x47 ?l47 ?c47 ?k47 ?x48 ?l48 ?c48 ?k48 ?x49 ?l49 ?c49 ?k49 ?x50 ?l50 ?c50 ?k50 ?x51 ?l51 ?c51 ?k51 ?x52 ?l52 ?c52 ?k52 ?la52 ?lb52 ?lc52 ?le_52 ?q_isinstance ?q_len ?q_all ?q_abs ?q_min ?q_int ?q_str ?q_bool ?q_tuple ?q_list ?q_sorted ?q_repr ?q_range ?q_enumerate ?q_zip ?q_LETTERS ?q_MOST_LETTERS ?q_MOST_KINDS ?q_MOST_PASSES ?q_DIGITS ?q_MOST_DIGITS ?q_MARGIN ?q_EMPTY
    (case A_Program => k_is)
    (case pg_Program => k_is)
    (case hd_Program => k_is)
    (case po_Program => k_is)
    (case sa_Program => k_is)
    (case n_Program_p_kinds => k_is)
    (case n_Program_p_passes => k_is)
    (case n_Program_p_tells => k_is)
    (case ia_Program => k_is)
    (case ib_Program => k_is)
    (case ic_Program => k_is)
    (case id_Program => k_is)
    (case A_Reader => k_is)
    (case pg_Reader => k_is)
    (case hd_Reader => k_is)
    (case po_Reader => k_is)
    (case sa_Reader => k_is)
    (case n_Reader_r_kinds => k_is)
    (case n_Reader_r_passes => k_is)
    (case n_Reader_r_tells => k_is)
    (case A_SeedError => k_is)
    (case q_super => k_is)
    (case S1 => k_is)
    (case S2 => k_is)
    (case S3 => k_is)
    (case ib_E => k_is)
    (case ic_E => k_is)
    (case hop => k_is)
    (case A_BadProgram => k_is)
    (case e1_BadProgram => k_is)
    (case e2_BadProgram => exact rfl)
    (case e3_BadProgram => k_is)
    (case e4_BadProgram => k_is)
    (case e5_BadProgram => k_is)
    (case e6_BadProgram => k_is)
    (case e7_BadProgram => k_is)
    (case e8_BadProgram => k_is)
    (case e9_BadProgram => k_is)
    (case e10_BadProgram => k_is)
    (case e13_BadProgram => k_is)
    (case e14_BadProgram => k_is)
    (case e15_BadProgram => k_is)
    (case e16_BadProgram => k_is)
    (case e20_BadProgram => k_is)
    (case i1_BadProgram => k_is)
    (case i2_BadProgram => k_is)
    (case i3_BadProgram => k_is)
    (case i4_BadProgram => exact rfl)
    (case i5_BadProgram => k_is)
    (case i6_BadProgram => kernel_rfl)
    (case i7_BadProgram => k_is)
    (case i8_BadProgram => k_is)
    (case A_BadText => k_is)
    (case e1_BadText => k_is)
    (case e2_BadText => exact rfl)
    (case e3_BadText => k_is)
    (case e4_BadText => k_is)
    (case e5_BadText => k_is)
    (case e6_BadText => k_is)
    (case e7_BadText => k_is)
    (case e8_BadText => k_is)
    (case e9_BadText => k_is)
    (case e10_BadText => k_is)
    (case e13_BadText => k_is)
    (case e14_BadText => k_is)
    (case e15_BadText => k_is)
    (case e16_BadText => k_is)
    (case e20_BadText => k_is)
    (case i1_BadText => k_is)
    (case i2_BadText => k_is)
    (case i3_BadText => k_is)
    (case i4_BadText => exact rfl)
    (case i5_BadText => k_is)
    (case i6_BadText => kernel_rfl)
    (case i7_BadText => k_is)
    (case i8_BadText => k_is)
    (case no_BadProgram_BadText => kernel_rfl)
    (case x2 => k_is)
    (case l2 => k_is)
    (case c2 => k_is)
    (case k2 => k_is)
    (case x3 => k_is)
    (case l3 => k_is)
    (case c3 => k_is)
    (case k3 => k_is)
    (case x4 => k_is)
    (case l4 => k_is)
    (case c4 => k_is)
    (case k4 => k_is)
    (case x5 => k_is)
    (case l5 => k_is)
    (case c5 => k_is)
    (case k5 => k_is)
    (case x6 => k_is)
    (case l6 => k_is)
    (case c6 => k_is)
    (case k6 => k_is)
    (case x7 => k_is)
    (case l7 => k_is)
    (case c7 => k_is)
    (case k7 => k_is)
    (case x8 => k_is)
    (case l8 => k_is)
    (case c8 => k_is)
    (case k8 => k_is)
    (case x9 => k_is)
    (case l9 => k_is)
    (case c9 => k_is)
    (case k9 => k_is)
    (case x10 => k_is)
    (case l10 => k_is)
    (case c10 => k_is)
    (case k10 => k_is)
    (case x11 => k_is)
    (case y11 => k_is)
    (case l11 => k_is)
    (case c11 => k_is)
    (case k11 => k_is)
    (case mk_Program => k_is)
    (case kc_Program => k_is)
    (case x12 => k_is)
    (case y12 => k_is)
    (case z12 => k_is)
    (case w12 => k_is)
    (case l12 => k_is)
    (case c12 => k_is)
    (case k12 => k_is)
    (case x13 => k_is)
    (case y13 => k_is)
    (case z13 => k_is)
    (case w13 => k_is)
    (case l13 => k_is)
    (case c13 => k_is)
    (case k13 => k_is)
    (case x14 => k_is)
    (case y14 => k_is)
    (case z14 => k_is)
    (case w14 => k_is)
    (case l14 => k_is)
    (case c14 => k_is)
    (case k14 => k_is)
    (case x15 => k_is)
    (case y15 => k_is)
    (case l15 => k_is)
    (case c15 => k_is)
    (case k15 => k_is)
    (case x16 => k_is)
    (case y16 => k_is)
    (case l16 => k_is)
    (case c16 => k_is)
    (case k16 => k_is)
    (case ne_Program => k_is)
    (case mo_Program => k_is)
    (case x17 => k_is)
    (case l17 => k_is)
    (case c17 => k_is)
    (case k17 => k_is)
    (case x18 => k_is)
    (case l18 => k_is)
    (case c18 => k_is)
    (case k18 => k_is)
    (case x19 => k_is)
    (case l19 => k_is)
    (case c19 => k_is)
    (case k19 => k_is)
    (case x20 => k_is)
    (case y20 => k_is)
    (case l20 => k_is)
    (case c20 => k_is)
    (case k20 => k_is)
    (case mk_Reader => k_is)
    (case kc_Reader => k_is)
    (case x21 => k_is)
    (case y21 => k_is)
    (case l21 => k_is)
    (case c21 => k_is)
    (case k21 => k_is)
    (case x22 => k_is)
    (case y22 => k_is)
    (case l22 => k_is)
    (case c22 => k_is)
    (case k22 => k_is)
    (case x23 => k_is)
    (case y23 => k_is)
    (case l23 => k_is)
    (case c23 => k_is)
    (case k23 => k_is)
    (case x24 => k_is)
    (case y24 => k_is)
    (case l24 => k_is)
    (case c24 => k_is)
    (case k24 => k_is)
    (case x25 => k_is)
    (case y25 => k_is)
    (case l25 => k_is)
    (case c25 => k_is)
    (case k25 => k_is)
    (case x26 => k_is)
    (case y26 => k_is)
    (case l26 => k_is)
    (case c26 => k_is)
    (case k26 => k_is)
    (case x27 => k_is)
    (case l27 => k_is)
    (case c27 => k_is)
    (case k27 => k_is)
    (case x28 => k_is)
    (case l28 => k_is)
    (case c28 => k_is)
    (case k28 => k_is)
    (case x29 => k_is)
    (case l29 => k_is)
    (case c29 => k_is)
    (case k29 => k_is)
    (case x30 => k_is)
    (case l30 => k_is)
    (case c30 => k_is)
    (case k30 => k_is)
    (case x31 => k_is)
    (case l31 => k_is)
    (case c31 => k_is)
    (case k31 => k_is)
    (case x32 => k_is)
    (case l32 => k_is)
    (case c32 => k_is)
    (case k32 => k_is)
    (case x33 => k_is)
    (case l33 => k_is)
    (case c33 => k_is)
    (case k33 => k_is)
    (case x34 => k_is)
    (case l34 => k_is)
    (case c34 => k_is)
    (case k34 => k_is)
    (case x35 => k_is)
    (case l35 => k_is)
    (case c35 => k_is)
    (case k35 => k_is)
    (case x36 => k_is)
    (case l36 => k_is)
    (case c36 => k_is)
    (case k36 => k_is)
    (case x37 => k_is)
    (case l37 => k_is)
    (case c37 => k_is)
    (case k37 => k_is)
    (case x38 => k_is)
    (case l38 => k_is)
    (case c38 => k_is)
    (case k38 => k_is)
    (case x39 => k_is)
    (case l39 => k_is)
    (case c39 => k_is)
    (case k39 => k_is)
    (case x40 => k_is)
    (case l40 => k_is)
    (case c40 => k_is)
    (case k40 => k_is)
    (case x41 => k_is)
    (case l41 => k_is)
    (case c41 => k_is)
    (case k41 => k_is)
    (case x42 => k_is)
    (case l42 => k_is)
    (case c42 => k_is)
    (case k42 => k_is)
    (case x43 => k_is)
    (case l43 => k_is)
    (case c43 => k_is)
    (case k43 => k_is)
    (case x44 => k_is)
    (case l44 => k_is)
    (case c44 => k_is)
    (case k44 => k_is)
    (case x45 => k_is)
    (case l45 => k_is)
    (case c45 => k_is)
    (case k45 => k_is)
    (case x46 => k_is)
    (case l46 => k_is)
    (case c46 => k_is)
    (case k46 => k_is)
    (case x47 => k_is)
    (case l47 => k_is)
    (case c47 => k_is)
    (case k47 => k_is)
    (case x48 => k_is)
    (case l48 => k_is)
    (case c48 => k_is)
    (case k48 => k_is)
    (case x49 => k_is)
    (case l49 => k_is)
    (case c49 => k_is)
    (case k49 => k_is)
    (case x50 => k_is)
    (case l50 => k_is)
    (case c50 => k_is)
    (case k50 => k_is)
    (case x51 => k_is)
    (case l51 => k_is)
    (case c51 => k_is)
    (case k51 => k_is)
    (case x52 => k_is)
    (case l52 => k_is)
    (case c52 => k_is)
    (case k52 => k_is)
    (case la52 => k_is)
    (case lb52 => exact rfl)
    (case lc52 => kernel_rfl)
    (case le_52 => kernel_rfl)
    (case q_isinstance => k_is)
    (case q_len => k_is)
    (case q_all => k_is)
    (case q_abs => k_is)
    (case q_min => k_is)
    (case q_int => k_is)
    (case q_str => k_is)
    (case q_bool => k_is)
    (case q_tuple => k_is)
    (case q_list => k_is)
    (case q_sorted => k_is)
    (case q_repr => k_is)
    (case q_range => k_is)
    (case q_enumerate => k_is)
    (case q_zip => k_is)
    (case q_LETTERS => k_is)
    (case q_MOST_LETTERS => k_is)
    (case q_MOST_KINDS => k_is)
    (case q_MOST_PASSES => k_is)
    (case q_DIGITS => k_is)
    (case q_MOST_DIGITS => k_is)
    (case q_MARGIN => k_is)
    (case q_EMPTY => k_is)
#print axioms PySem.Challenge.cw_seedless_k82_what_is_no_text_holds
