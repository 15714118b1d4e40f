import PyProof.Rows.All
import Wide.All
import OpenK.AllK
import Wide.FinOn
import HandS.ForMost
import HandS.IsInst
import HandS.Star
import HandS.FStr
import HandS.Wide
import HandS.TupAny
import HandS.Flow
import HandS.Zip
import HandS.Property
import HandS.Codes
import HandS.FStrTup
import PySem.Challenge.RW_seedless_k80_texts_of_programs
set_option Elab.async false
set_option linter.all false
set_option maxRecDepth 100000
set_option maxHeartbeats 4000000
/-! Sd0: data over the hand layer: what a value stands for, slots that hold data, readings that are told by data alone. -/
namespace Sd
open PySem PySem.Spec L2

/-- data: what a value stands for -/
inductive D where
  | non | bl (b : Bool) | int (i : Int) | str (s : Str) | tup (xs : List D) | lst (xs : List D) | obj (C : Addr) (ns : List Str) (ds : List D)

mutual
inductive Rp (K : PySem.W.Frag) (F : Hp) : V → D → Prop
  | non : Rp K F .non .non
  | bl (b : Bool) : Rp K F (.bl b) (.bl b)
  | int (i : Int) : Rp K F (.int i) (.int i)
  | str (x : Str) : Rp K F (.str x) (.str x)
  | tup {a : Addr} {xs : List V} {ds : List D} : F a = some (.tup xs) → RpL K F xs ds → Rp K F (.ref a) (.tup ds)
  | lst {a : Addr} {xs : List V} {ds : List D} : F a = some (.lst xs) → RpL K F xs ds → Rp K F (.ref a) (.lst ds)
  | obj {a C dx : Addr} {ns : List Str} {vs : List V} {ds : List D} : F a = some (.ins C dx (ns.zip vs)) → ns.length = vs.length → RpL K F vs ds → Rp K F (.ref a) (.obj C ns ds)
inductive RpL (K : PySem.W.Frag) (F : Hp) : List V → List D → Prop
  | nil : RpL K F [] []
  | cons {v : V} {vs : List V} {d : D} {ds : List D} : Rp K F v d → RpL K F vs ds → RpL K F (v :: vs) (d :: ds)
end

theorem seqL_of {K : PySem.W.Frag} {F F' : Hp} {a : Addr} {xs : List V} (e : Same F F') (h : SqL K F a xs) : SqL K F' a xs := e.seq h
theorem seqT_of {K : PySem.W.Frag} {F F' : Hp} {a : Addr} {xs : List V} (e : Same F F') (h : SqT K F a xs) : SqT K F' a xs := by
  rcases h with (h | ⟨o, h⟩) | h
  · exact .inl (.inl (e _ _ h))
  · exact .inl (.inr ⟨o, e _ _ h⟩)
  · exact .inr h

mutual
theorem Rp.mono {K : PySem.W.Frag} {F F' : Hp} (e : Same F F') : ∀ {v : V} {d : D}, Rp K F v d → Rp K F' v d
  | _, _, .non => .non
  | _, _, .bl b => .bl b
  | _, _, .int i => .int i
  | _, _, .str x => .str x
  | _, _, .tup h r => .tup (e _ _ h) (RpL.mono e r)
  | _, _, .lst h r => .lst (e _ _ h) (RpL.mono e r)
  | _, _, .obj h l r => .obj (e _ _ h) l (RpL.mono e r)
theorem RpL.mono {K : PySem.W.Frag} {F F' : Hp} (e : Same F F') : ∀ {v : List V} {d : List D}, RpL K F v d → RpL K F' v d
  | _, _, .nil => .nil
  | _, _, .cons h r => .cons (Rp.mono e h) (RpL.mono e r)
end

section
variable {K : PySem.W.Frag} {F F' H H' : Hp}
theorem RpL.length : ∀ {vs : List V} {ds : List D}, RpL K F vs ds → vs.length = ds.length
  | _, _, .nil => rfl
  | _, _, .cons _ r => congrArg (· + 1) (RpL.length r)
theorem RpL.get : ∀ {vs : List V} {ds : List D} {i : Nat} {v : V}, RpL K F vs ds → vs[i]? = some v → ∃ d, ds[i]? = some d ∧ Rp K F v d
  | _, _, _, _, .nil, h => by simp at h
  | _, _, 0, _, .cons r _, h => by
    simp only [List.getElem?_cons_zero, Option.some.injEq] at h
    subst h
    exact ⟨_, rfl, r⟩
  | _, _, i + 1, _, .cons _ r, h => by
    simp only [List.getElem?_cons_succ] at h ⊢
    exact RpL.get r h
theorem RpL.getD : ∀ {vs : List V} {ds : List D} {i : Nat} {d : D}, RpL K F vs ds → ds[i]? = some d → ∃ v, vs[i]? = some v ∧ Rp K F v d
  | _, _, _, _, .nil, h => by simp at h
  | _, _, 0, _, .cons r _, h => by
    simp only [List.getElem?_cons_zero, Option.some.injEq] at h
    subst h
    exact ⟨_, rfl, r⟩
  | _, _, i + 1, _, .cons _ r, h => by
    simp only [List.getElem?_cons_succ] at h ⊢
    exact RpL.getD r h
theorem RpL.append : ∀ {vs ws : List V} {ds es : List D}, RpL K F vs ds → RpL K F ws es → RpL K F (vs ++ ws) (ds ++ es)
  | _, _, _, _, .nil, s => s
  | _, _, _, _, .cons r t, s => .cons r (RpL.append t s)
theorem RpL.one {v : V} {d : D} (h : Rp K F v d) : RpL K F [v] [d] := .cons h .nil
theorem RpL.take : ∀ {vs : List V} {ds : List D} (n : Nat), RpL K F vs ds → RpL K F (vs.take n) (ds.take n)
  | _, _, 0, _ => .nil
  | _, _, _ + 1, .nil => .nil
  | _, _, n + 1, .cons r t => .cons r (RpL.take n t)
theorem RpL.drop : ∀ {vs : List V} {ds : List D} (n : Nat), RpL K F vs ds → RpL K F (vs.drop n) (ds.drop n)
  | _, _, 0, r => r
  | _, _, _ + 1, .nil => .nil
  | _, _, n + 1, .cons _ t => RpL.drop n t
theorem RpL.set {v : V} {d : D} (r : Rp K F v d) : ∀ {vs : List V} {ds : List D} (i : Nat), RpL K F vs ds → RpL K F (vs.set i v) (ds.set i d)
  | _, _, _, .nil => .nil
  | _, _, 0, .cons _ t => .cons r t
  | _, _, i + 1, .cons q t => .cons q (RpL.set r i t)
theorem RpL.eraseIdx : ∀ {vs : List V} {ds : List D} (i : Nat), RpL K F vs ds → RpL K F (vs.eraseIdx i) (ds.eraseIdx i)
  | _, _, _, .nil => .nil
  | _, _, 0, .cons _ t => t
  | _, _, i + 1, .cons q t => .cons q (RpL.eraseIdx i t)
theorem RpL.ints : ∀ {ns : List Int}, RpL K F (ns.map V.int) (ns.map D.int)
  | [] => .nil
  | n :: ns => .cons (.int n) RpL.ints
theorem RpL.of_ints : ∀ {ns : List Int} {vs : List V}, RpL K F vs (ns.map D.int) → vs = ns.map V.int
  | [], _, .nil => rfl
  | n :: ns, _, .cons h r => by
    cases h
    rw [RpL.of_ints r]
    rfl
theorem RpL.of_strs : ∀ {ns : List Str} {vs : List V}, RpL K F vs (ns.map D.str) → vs = ns.map V.str
  | [], _, .nil => rfl
  | n :: ns, _, .cons h r => by
    cases h
    rw [RpL.of_strs r]
    rfl
theorem RpL.strs : ∀ {ns : List Str}, RpL K F (ns.map V.str) (ns.map D.str)
  | [] => .nil
  | n :: ns => .cons (.str n) RpL.strs
theorem RpL.of_bls : ∀ {ns : List Bool} {vs : List V}, RpL K F vs (ns.map D.bl) → vs = ns.map V.bl
  | [], _, .nil => rfl
  | n :: ns, _, .cons h r => by
    cases h
    rw [RpL.of_bls r]
    rfl

/-! ### what is new -/
/-- F, and all that H' has new against H -/
def ext (F H H' : Hp) : Hp := fun b => match H b with
  | none => H' b
  | some _ => F b
theorem ext_none {b : Addr} (h : H b = none) : ext F H H' b = H' b := by unfold ext; rw [h]
theorem ext_some {b : Addr} {o : HO} (h : H b = some o) : ext F H H' b = F b := by unfold ext; rw [h]
theorem ext_same (fh : Same F H) : Same F (ext F H H') := fun b o h => by rw [ext_some (fh b o h)]; exact h
theorem ext_sub (fh : Same F H) (s : Same H H') : Same (ext F H H') H' := fun b o h => by
  cases e : H b with
  | none => rwa [ext_none e] at h
  | some u =>
    rw [ext_some e] at h
    exact s b o (fh b o h)
theorem ext_upd {a : Addr} {o : HO} (h : H a = none) (f : F a = none) (fh : Same F H) : ext F H (upd H a o) = upd F a o := by
  funext b
  by_cases e : b = a
  · subst e
    rw [ext_none h, upd_same, upd_same]
  · rw [upd_ne e]
    cases q : H b with
    | none =>
      rw [ext_none q, upd_ne e, q]
      cases z : F b with
      | none => rfl
      | some u => rw [fh b u z] at q; cases q
    | some u => rw [ext_some q]
end

/-- a world: the written part, what stood at the entry (known, all), which of it may be changed, what is being made -/
structure Wd where
  K : PySem.W.Frag
  F0 : Hp
  H0 : Hp
  O : List Addr
  P : List (Addr × HO)
abbrev Wd.push (w : Wd) (a : Addr) (o : HO) : Wd := { w with P := (a, o) :: w.P }

/-- the law's source of draws: a list [cells, place, mixed] -/
def Dr (H : Hp) (p c : Addr) : Prop := p ≠ c ∧ ∃ (i m : Int) (ns : List Int), H p = some (.lst [.ref c, .int i, .int m]) ∧ H c = some (.lst (ns.map V.int)) ∧ ns ≠ [] ∧ ns.length ≤ 63 ∧ (∀ n ∈ ns, 0 ≤ n) ∧ 0 ≤ i ∧ 0 ≤ m ∧ m < 2147483647

/-- something of its own: what is known, all, its value, its addresses -/
structure OwnP where
  ok : Hp → Hp → V → List Addr → Prop
  step : ∀ {F F' H H' : Hp} {v : V} {qs : List Addr}, Same F F' → (∀ a o, a ∈ qs → H a = some o → H' a = some o) → ok F H v qs → ok F' H' v qs
/-- what a slot holds -/
inductive Ent where
  | no | d (x : D) | v (x : V) | l (xs : List D) | dr (p c : Addr) | o (x : OwnP)
def EntOk (w : Wd) (F H : Hp) : Ent → Option (Option V) → List Addr → Prop
  | .no, _, qs => qs = []
  | .d x, s, qs => qs = [] ∧ ∃ v, s = some (some v) ∧ Rp w.K F v x
  | .v x, s, qs => qs = [] ∧ s = some (some x)
  | .l xs, s, qs => ∃ a vs, qs = [a] ∧ a ∉ w.O ∧ s = some (some (.ref a)) ∧ H a = some (.lst vs) ∧ RpL w.K F vs xs
  | .dr p c, s, qs => qs = [p, c] ∧ s = some (some (.ref p)) ∧ Dr H p c
  | .o x, s, qs => ∃ v, s = some (some v) ∧ x.ok F H v qs

structure Bok (w : Wd) (F H : Hp) : Prop where
  f0 : Same w.F0 F
  fh : Same F H
  src : ∀ a o, F a = some o → w.F0 a = some o ∨ w.H0 a = none
  keep : ∀ a o, a ∉ w.O → w.H0 a = some o → H a = some o
  own : ∀ a, a ∈ w.O → F a = none ∧ H a ≠ none
  pend : ∀ a o, (a, o) ∈ w.P → F a = none ∧ H a = some o ∧ w.H0 a = none ∧ a ∉ w.O
structure As (w : Wd) (G : List Ent) (σ : L2.St) (F H : Hp) : Prop where
  len : σ.length = G.length
  base : Bok w F H
  own : ∃ q : Nat → List Addr, (∀ i e, G[i]? = some e → EntOk w F H e (σ[i]?) (q i)) ∧ (∀ i a, i < G.length → a ∈ q i → F a = none ∧ H a ≠ none ∧ (a ∈ w.O ∨ w.H0 a = none)) ∧ (∀ i j a, i < G.length → j < G.length → a ∈ q i → a ∈ q j → i = j) ∧ (∀ i a, i < G.length → a ∈ q i → ∀ o, (a, o) ∉ w.P)

section
variable {w : Wd} {G : List Ent} {σ : L2.St} {F F' H H' : Hp}
theorem EntOk.step {w : Wd} {e : Ent} {s : Option (Option V)} {qs : List Addr} (f : Same F F') (h : ∀ a o, a ∈ qs → H a = some o → H' a = some o) (x : EntOk w F H e s qs) : EntOk w F' H' e s qs := by
  cases e with
  | no => exact x
  | d d =>
    obtain ⟨e, v, h1, h2⟩ := x
    exact ⟨e, v, h1, h2.mono f⟩
  | v v => exact x
  | l xs =>
    obtain ⟨a, vs, rfl, h0, h1, h2, h3⟩ := x
    exact ⟨a, vs, rfl, h0, h1, h _ _ (by simp) h2, h3.mono f⟩
  | dr p c =>
    obtain ⟨rfl, h1, n, i, m, ns, h2, h3, r⟩ := x
    exact ⟨rfl, h1, n, i, m, ns, h _ _ (by simp) h2, h _ _ (by simp) h3, r⟩
  | o x' =>
    obtain ⟨v, h1, h2⟩ := x
    exact ⟨v, h1, x'.step f h h2⟩
theorem Bok.step (B : Bok w F H) (s : Same H H') : Bok w (ext F H H') H' where
  f0 := B.f0.trans (ext_same B.fh)
  fh := ext_sub B.fh s
  src := fun a o h => by
    cases e : H a with
    | none =>
      rw [ext_none e] at h
      by_cases ho : a ∈ w.O
      · exact absurd e (B.own a ho).2
      · cases q : w.H0 a with
        | none => exact .inr rfl
        | some u => rw [B.keep a u ho q] at e; cases e
    | some u =>
      rw [ext_some e] at h
      exact B.src a o h
  keep := fun a o ho h => s _ _ (B.keep a o ho h)
  own := fun a ho => by
    obtain ⟨h1, h2⟩ := B.own a ho
    cases e : H a with
    | none => exact absurd e h2
    | some u => exact ⟨by rw [ext_some e]; exact h1, by rw [s _ _ e]; exact fun z => nomatch z⟩
  pend := fun a o hp => by
    obtain ⟨h1, h2, h3⟩ := B.pend a o hp
    exact ⟨by rw [ext_some h2]; exact h1, s _ _ h2, h3⟩
/-- the heap has grown: what is new is known -/
theorem As.step (A : As w G σ F H) (s : Same H H') : As w G σ (ext F H H') H' := by
  obtain ⟨q, h1, h2, h3, h4⟩ := A.own
  refine ⟨A.len, A.base.step s, q, fun i e h => (h1 i e h).step (ext_same A.base.fh) fun a o _ e => s _ _ e, fun i a hi ha => ?_, h3, h4⟩
  obtain ⟨f, n, r⟩ := h2 i a hi ha
  cases e : H a with
  | none => exact absurd e n
  | some u => exact ⟨by rw [ext_some e]; exact f, by rw [s _ _ e]; exact (fun z => nomatch z), r⟩
theorem As.fh (A : As w G σ F H) : Same F H := A.base.fh
theorem As.same (A : As w G σ F H) : Same F (ext F H H') := ext_same A.base.fh
/-- a new object -/
theorem As.new {a : Addr} {o : HO} (A : As w G σ F H) (h : H a = none) : As w G σ (upd F a o) (upd H a o) := by
  have f : F a = none := A.fh.free h
  have s : Same H (upd H a o) := fun b u e => by rw [upd_ne (ne_of_none e h)]; exact e
  have q := A.step s
  rw [ext_upd h f A.fh] at q
  exact q
theorem same_new {a : Addr} {o : HO} (h : F a = none) : Same F (upd F a o) := fun b u e => by rw [upd_ne (ne_of_none e h)]; exact e
/-- two slots' objects -/
structure Own (w : Wd) (G : List Ent) (σ : L2.St) (F H : Hp) (q : Nat → List Addr) : Prop where
  ok : ∀ i e, G[i]? = some e → EntOk w F H e (σ[i]?) (q i)
  at_ : ∀ i a, i < G.length → a ∈ q i → F a = none ∧ H a ≠ none ∧ (a ∈ w.O ∨ w.H0 a = none)
  dis : ∀ i j a, i < G.length → j < G.length → a ∈ q i → a ∈ q j → i = j
  pd : ∀ i a, i < G.length → a ∈ q i → ∀ o, (a, o) ∉ w.P
theorem As.get (A : As w G σ F H) : ∃ q, Own w G σ F H q := by
  obtain ⟨q, h1, h2, h3, h4⟩ := A.own
  exact ⟨q, h1, h2, h3, h4⟩
theorem As.mk' {q : Nat → List Addr} (len : σ.length = G.length) (base : Bok w F H) (o : Own w G σ F H q) : As w G σ F H := ⟨len, base, q, o.ok, o.at_, o.dis, o.pd⟩
def qput (q : Nat → List Addr) (i : Nat) (l : List Addr) : Nat → List Addr := fun j => if j = i then l else q j
theorem qput_same {q : Nat → List Addr} {i : Nat} {l : List Addr} : qput q i l i = l := if_pos rfl
theorem qput_ne {q : Nat → List Addr} {i j : Nat} {l : List Addr} (h : j ≠ i) : qput q i l j = q j := if_neg h
/-- a slot's entry is exchanged: what else is kept -/
theorem Own.put {q : Nat → List Addr} (O : Own w G σ F H q) (hl : σ.length = G.length) (hi : i < G.length) {e : Ent} {s : Option V} {l : List Addr} {F' H' : Hp} (he : EntOk w F' H' e (some s) l)
    (f : Same F F') (k : ∀ j a o, j < G.length → j ≠ i → a ∈ q j → H a = some o → H' a = some o) (kf : ∀ j a, j < G.length → j ≠ i → a ∈ q j → F' a = none)
    (hl' : ∀ a, a ∈ l → F' a = none ∧ H' a ≠ none ∧ (a ∈ w.O ∨ w.H0 a = none)) (hd : ∀ j a, j < G.length → j ≠ i → a ∈ q j → a ∉ l) (hp : ∀ a, a ∈ l → ∀ o, (a, o) ∉ w.P) : Own w (G.set i e) (σ.set i s) F' H' (qput q i l) where
  ok := fun j u h => by
    by_cases z : j = i
    · subst z
      rw [List.getElem?_set_self hi] at h
      cases h
      rw [List.getElem?_set_self (by rw [hl]; exact hi), qput_same]
      exact he
    · rw [List.getElem?_set_ne (Ne.symm z)] at h ⊢
      rw [qput_ne z]
      exact (O.ok j u h).step f fun a o ha e => k j a o (List.getElem?_eq_some_iff.mp h).1 z ha e
  at_ := fun j a hj ha => by
    rw [List.length_set] at hj
    by_cases z : j = i
    · subst z
      rw [qput_same] at ha
      exact hl' a ha
    · rw [qput_ne z] at ha
      obtain ⟨h1, h2, h3⟩ := O.at_ j a hj ha
      refine ⟨kf j a hj z ha, ?_, h3⟩
      cases e : H a with
      | none => exact absurd e h2
      | some o => rw [k j a o hj z ha e]; exact fun z => nomatch z
  dis := fun j m a hj hm ha hb => by
    rw [List.length_set] at hj hm
    by_cases z : j = i
    · subst z
      rw [qput_same] at ha
      by_cases y : m = j
      · exact y.symm
      · rw [qput_ne y] at hb
        exact absurd ha (hd m a hm y hb)
    · rw [qput_ne z] at ha
      by_cases y : m = i
      · subst y
        rw [qput_same] at hb
        exact absurd hb (hd j a hj z ha)
      · rw [qput_ne y] at hb
        exact O.dis j m a hj hm ha hb
  pd := fun j a hj ha => by
    rw [List.length_set] at hj
    by_cases z : j = i
    · subst z
      rw [qput_same] at ha
      exact hp a ha
    · rw [qput_ne z] at ha
      exact O.pd j a hj ha
theorem set_far {α : Type} {l : List α} {i : Nat} {x : α} (h : ¬ i < l.length) : l.set i x = l := List.set_eq_of_length_le (by omega)
theorem As.dat (A : As w G σ F H) {i : Nat} {d : D} (h : G[i]? = some (.d d)) : ∃ v, σ[i]? = some (some v) ∧ Rp w.K F v d := by
  obtain ⟨q, O⟩ := A.get
  exact (O.ok i _ h).2
theorem As.val (A : As w G σ F H) {i : Nat} {v : V} (h : G[i]? = some (.v v)) : σ[i]? = some (some v) := by
  obtain ⟨q, O⟩ := A.get
  exact (O.ok i _ h).2
theorem As.lst (A : As w G σ F H) {i : Nat} {xs : List D} (h : G[i]? = some (.l xs)) : ∃ a vs, σ[i]? = some (some (.ref a)) ∧ H a = some (.lst vs) ∧ RpL w.K F vs xs ∧ F a = none := by
  obtain ⟨q, O⟩ := A.get
  obtain ⟨a, vs, e, r0, r1, r2, r3⟩ := O.ok i _ h
  exact ⟨a, vs, r1, r2, r3, (O.at_ i a (List.getElem?_eq_some_iff.mp h).1 (by rw [e]; simp)).1⟩
theorem As.drw (A : As w G σ F H) {i : Nat} {p c : Addr} (h : G[i]? = some (.dr p c)) : σ[i]? = some (some (.ref p)) ∧ Dr H p c ∧ F p = none ∧ F c = none := by
  obtain ⟨q, O⟩ := A.get
  obtain ⟨e, r1, r2⟩ := O.ok i _ h
  have hi := (List.getElem?_eq_some_iff.mp h).1
  exact ⟨r1, r2, (O.at_ i p hi (by rw [e]; simp)).1, (O.at_ i c hi (by rw [e]; simp)).1⟩
/-- a slot gets data, an exact value, or nothing -/
theorem As.put (A : As w G σ F H) (i : Nat) {s : Option V} {e : Ent} (he : EntOk w F H e (some s) []) : As w (G.set i e) (σ.set i s) F H := by
  obtain ⟨q, O⟩ := A.get
  by_cases hi : i < G.length
  · exact .mk' (by simp [A.len]) A.base (O.put A.len hi he (Same.refl _) (fun _ _ _ _ _ _ e => e) (fun j a hj _ ha => (O.at_ j a hj ha).1) (fun _ h => nomatch h) (fun _ _ _ _ _ h => nomatch h) fun _ h => nomatch h)
  · rw [set_far hi, set_far (by rw [A.len]; exact hi)]
    exact A
theorem As.putD (A : As w G σ F H) (i : Nat) {v : V} {d : D} (r : Rp w.K F v d) : As w (G.set i (.d d)) (σ.set i (some v)) F H := A.put i ⟨rfl, v, rfl, r⟩
/-- a new object that is being made -/
theorem As.pend (A : As w G σ F H) {a : Addr} {o : HO} (n : H a = none) : As (w.push a o) G σ F (upd H a o) := by
  obtain ⟨q, O⟩ := A.get
  have fa : F a = none := A.fh.free n
  have ha0 : w.H0 a = none := by
    cases e : w.H0 a with
    | none => rfl
    | some o =>
      by_cases ho : a ∈ w.O
      · exact absurd n (A.base.own a ho).2
      · rw [A.base.keep a o ho e] at n; cases n
  have nO : a ∉ w.O := fun ho => (A.base.own a ho).2 n
  have s : Same H (upd H a o) := same_new n
  refine .mk' (q := q) A.len ⟨A.base.f0, A.base.fh.trans s, A.base.src, fun b u hb e => s _ _ (A.base.keep b u hb e), fun b hb => ?_, fun b u hb => ?_⟩
    ⟨fun i e h => (O.ok i e h).step (Same.refl _) fun b u hb e => s _ _ e, fun i b hi hb => ?_, O.dis, fun i b hi hb u hu => ?_⟩
  · obtain ⟨h1, h2⟩ := A.base.own b hb
    exact ⟨h1, by rw [upd_ne (fun z => h2 (by rw [z]; exact n))]; exact h2⟩
  · rcases List.mem_cons.mp hb with e | hb
    · cases e
      exact ⟨fa, upd_same, ha0, nO⟩
    · obtain ⟨h1, h2, h3⟩ := A.base.pend b u hb
      exact ⟨h1, s _ _ h2, h3⟩
  · obtain ⟨h1, h2, h3⟩ := O.at_ i b hi hb
    exact ⟨h1, by rw [upd_ne (fun z => h2 (by rw [z]; exact n))]; exact h2, h3⟩
  · rcases List.mem_cons.mp hu with e | hu
    · cases e
      exact (O.at_ i _ hi hb).2.1 n
    · exact O.pd i b hi hb u hu
theorem As.fresh (A : As w G σ F H) {a : Addr} (n : H a = none) : ∀ o, (a, o) ∉ w.P := fun o h => by
  have := (A.base.pend a o h).2.1
  rw [n] at this; cases this
/-- forgotten -/
theorem As.drop {a : Addr} {o : HO} (A : As (w.push a o) G σ F H) : As w G σ F H := by
  obtain ⟨q, O⟩ := A.get
  exact .mk' (q := q) A.len ⟨A.base.f0, A.base.fh, A.base.src, A.base.keep, A.base.own, fun b u hb => A.base.pend b u (List.mem_cons_of_mem _ hb)⟩ ⟨O.ok, O.at_, O.dis, fun i b hi hb u hu => O.pd i b hi hb u (List.mem_cons_of_mem _ hu)⟩
theorem As.top {a : Addr} {o : HO} (A : As (w.push a o) G σ F H) : F a = none ∧ H a = some o ∧ w.H0 a = none ∧ a ∉ w.O := A.base.pend a o List.mem_cons_self
/-- changed -/
theorem As.repend {a : Addr} {o o' : HO} (A : As (w.push a o) G σ F H) (hn : ∀ u, (a, u) ∉ w.P) : As (w.push a o') G σ F (upd H a o') := by
  obtain ⟨q, O⟩ := A.get
  obtain ⟨fa, ha, ha0, nO⟩ := A.top
  have k : ∀ b u, b ≠ a → H b = some u → upd H a o' b = some u := fun b u z e => by rw [upd_ne z]; exact e
  have own : ∀ {i b}, i < G.length → b ∈ q i → b ≠ a := fun hi hb z => O.pd _ _ hi hb o (by rw [z]; exact List.mem_cons_self)
  refine .mk' (q := q) A.len ⟨A.base.f0, fun b u e => k b u (ne_of_none e fa) (A.base.fh b u e), A.base.src, fun b u hb e => k b u (ne_of_none e ha0) (A.base.keep b u hb e), fun b hb => ?_, fun b u hb => ?_⟩
    ⟨fun i e h => (O.ok i e h).step (Same.refl _) fun b u hb e => k b u (own (List.getElem?_eq_some_iff.mp h).1 hb) e, fun i b hi hb => ?_, O.dis, fun i b hi hb u hu => ?_⟩
  · obtain ⟨h1, h2⟩ := A.base.own b hb
    exact ⟨h1, by rw [upd_ne (fun z => nO (by rw [← z]; exact hb))]; exact h2⟩
  · rcases List.mem_cons.mp hb with e | hb
    · cases e
      exact ⟨fa, upd_same, ha0, nO⟩
    · obtain ⟨h1, h2, h3⟩ := A.base.pend b u (List.mem_cons_of_mem _ hb)
      exact ⟨h1, k b u (fun z => hn u (by rw [← z]; exact hb)) h2, h3⟩
  · obtain ⟨h1, h2, h3⟩ := O.at_ i b hi hb
    exact ⟨h1, by rw [upd_ne (own hi hb)]; exact h2, h3⟩
  · rcases List.mem_cons.mp hu with e | hu
    · cases e
      exact own hi hb rfl
    · exact O.pd i b hi hb u (List.mem_cons_of_mem _ hu)
/-- known from now on -/
theorem As.known {a : Addr} {o : HO} (A : As (w.push a o) G σ F H) (hn : ∀ u, (a, u) ∉ w.P) : As w G σ (upd F a o) H ∧ Same F (upd F a o) := by
  obtain ⟨q, O⟩ := A.get
  obtain ⟨fa, ha, ha0, nO⟩ := A.top
  have s : Same F (upd F a o) := same_new fa
  have own : ∀ {i b}, i < G.length → b ∈ q i → b ≠ a := fun hi hb z => O.pd _ _ hi hb o (by rw [z]; exact List.mem_cons_self)
  refine ⟨.mk' (q := q) A.len ⟨A.base.f0.trans s, fun b u e => ?_, fun b u e => ?_, A.base.keep, fun b hb => ?_, fun b u hb => ?_⟩
    ⟨fun i e h => (O.ok i e h).step s fun b u hb e => e, fun i b hi hb => ?_, O.dis, fun i b hi hb u hu => O.pd i b hi hb u (List.mem_cons_of_mem _ hu)⟩, s⟩
  · by_cases z : b = a
    · subst z
      rw [upd_same] at e
      rw [← e]; exact ha
    · rw [upd_ne z] at e
      exact A.base.fh b u e
  · by_cases z : b = a
    · subst z
      exact .inr ha0
    · rw [upd_ne z] at e
      exact A.base.src b u e
  · obtain ⟨h1, h2⟩ := A.base.own b hb
    exact ⟨by rw [upd_ne (fun z => nO (by rw [← z]; exact hb))]; exact h1, h2⟩
  · obtain ⟨h1, h2, h3⟩ := A.base.pend b u (List.mem_cons_of_mem _ hb)
    exact ⟨by rw [upd_ne (fun z => hn u (by rw [← z]; exact hb))]; exact h1, h2, h3⟩
  · obtain ⟨h1, h2, h3⟩ := O.at_ i b hi hb
    exact ⟨by rw [upd_ne (own hi hb)]; exact h1, h2, h3⟩
/-- a slot gets the new list as its own -/
theorem As.putL (i : Nat) {a : Addr} {vs : List V} {ds : List D} (A : As (w.push a (.lst vs)) G σ F H) (hn : ∀ u, (a, u) ∉ w.P) (r : RpL w.K F vs ds) : As w (G.set i (.l ds)) (σ.set i (some (.ref a))) F H := by
  obtain ⟨fa, ha, ha0, nO⟩ := A.top
  obtain ⟨q0, O0⟩ := A.get
  have own : ∀ {i b}, i < G.length → b ∈ q0 i → b ≠ a := fun hi hb z => O0.pd _ _ hi hb (.lst vs) (by rw [z]; exact List.mem_cons_self)
  have B := A.drop
  have O : Own w G σ F H q0 := ⟨O0.ok, O0.at_, O0.dis, fun i b hi hb u hu => O0.pd i b hi hb u (List.mem_cons_of_mem _ hu)⟩
  by_cases hi : i < G.length
  · refine .mk' (by simp [A.len]) B.base (O.put A.len hi (l := [a]) ⟨a, vs, rfl, nO, rfl, ha, r⟩ (Same.refl _) (fun _ _ _ _ _ _ e => e) (fun j a hj _ ha => (O.at_ j a hj ha).1) (fun b hb => ?_) (fun j b hj _ hb hc => ?_) fun b hb u hu => ?_)
    · obtain rfl : b = a := by simpa using hb
      exact ⟨fa, by rw [ha]; exact (fun z => nomatch z), .inr ha0⟩
    · obtain rfl : b = a := by simpa using hc
      exact own hj hb rfl
    · obtain rfl : b = a := by simpa using hb
      exact hn u hu
  · rw [set_far hi, set_far (by rw [A.len]; exact hi)]
    exact B
/-- a slot's own list is changed -/
theorem As.mutL (A : As w G σ F H) {i : Nat} {xs ys : List D} (h : G[i]? = some (.l xs)) {a : Addr} {vs : List V} (hs : σ[i]? = some (some (.ref a))) (r : RpL w.K F vs ys) : As w (G.set i (.l ys)) σ F (upd H a (.lst vs)) := by
  obtain ⟨q, O⟩ := A.get
  have hi := (List.getElem?_eq_some_iff.mp h).1
  obtain ⟨a', ws, eq, nO, r1, r2, r3⟩ := O.ok i _ h
  rw [hs] at r1
  cases r1
  obtain ⟨fa, ha, ho⟩ := O.at_ i a hi (by rw [eq]; simp)
  have h0 : w.H0 a = none := ho.elim (fun z => absurd z nO) id
  have np := O.pd i a hi (by rw [eq]; simp)
  have k : ∀ b u, b ≠ a → H b = some u → upd H a (.lst vs) b = some u := fun b u z e => by rw [upd_ne z]; exact e
  have other : ∀ {j b}, j < G.length → j ≠ i → b ∈ q j → b ≠ a := fun hj hn hb z => hn (O.dis _ i a hj hi (z ▸ hb) (by rw [eq]; simp))
  have es : σ = σ.set i (some (.ref a)) := by
    refine List.ext_getElem? fun j => ?_
    by_cases z : j = i
    · subst z
      rw [List.getElem?_set_self (by rw [A.len]; exact hi)]
      exact hs
    · rw [List.getElem?_set_ne (Ne.symm z)]
  rw [es]
  refine .mk' (by simp [A.len]) ⟨A.base.f0, fun b u e => k b u (ne_of_none e fa) (A.base.fh b u e), A.base.src, fun b u hb e => k b u (ne_of_none e h0) (A.base.keep b u hb e), fun b hb => ?_, fun b u hb => ?_⟩
    (O.put A.len hi (l := [a]) ⟨a, vs, rfl, nO, rfl, upd_same, r⟩ (Same.refl _) (fun j b u hj z hb e => k b u (other hj z hb) e) (fun j b hj _ hb => (O.at_ j b hj hb).1) (fun b hb => ?_) (fun j b hj z hb hc => ?_) fun b hb => ?_)
  · obtain ⟨h1, h2⟩ := A.base.own b hb
    exact ⟨h1, by rw [upd_ne (fun z => nO (by rw [← z]; exact hb))]; exact h2⟩
  · obtain ⟨h1, h2, h3⟩ := A.base.pend b u hb
    exact ⟨h1, k b u (fun z => np u (by rw [← z]; exact hb)) h2, h3⟩
  · obtain rfl : b = a := by simpa using hb
    exact ⟨fa, by rw [upd_same]; exact (fun z => nomatch z), ho⟩
  · obtain rfl : b = a := by simpa using hc
    exact other hj z hb rfl
  · obtain rfl : b = a := by simpa using hb
    exact np
/-- a slot's own list is known from now on -/
theorem As.freeze (A : As w G σ F H) {i : Nat} {xs : List D} (h : G[i]? = some (.l xs)) : ∃ a vs, σ[i]? = some (some (.ref a)) ∧ H a = some (.lst vs) ∧ RpL w.K F vs xs ∧ Same F (upd F a (.lst vs)) ∧ As w (G.set i (.d (.lst xs))) σ (upd F a (.lst vs)) H := by
  obtain ⟨q, O⟩ := A.get
  have hi := (List.getElem?_eq_some_iff.mp h).1
  obtain ⟨a, vs, eq, nO, r1, r2, r3⟩ := O.ok i _ h
  obtain ⟨fa, ha, ho⟩ := O.at_ i a hi (by rw [eq]; simp)
  have h0 : w.H0 a = none := ho.elim (fun z => absurd z nO) id
  have np := O.pd i a hi (by rw [eq]; simp)
  have s : Same F (upd F a (.lst vs)) := same_new fa
  have other : ∀ {j b}, j < G.length → j ≠ i → b ∈ q j → b ≠ a := fun hj hn hb z => hn (O.dis _ i a hj hi (z ▸ hb) (by rw [eq]; simp))
  have es : σ = σ.set i (some (.ref a)) := by
    refine List.ext_getElem? fun j => ?_
    by_cases z : j = i
    · subst z
      rw [List.getElem?_set_self (by rw [A.len]; exact hi)]
      exact r1
    · rw [List.getElem?_set_ne (Ne.symm z)]
  refine ⟨a, vs, r1, r2, r3, s, ?_⟩
  rw [es]
  refine .mk' (by simp [A.len]) ⟨A.base.f0.trans s, fun b u e => ?_, fun b u e => ?_, A.base.keep, fun b hb => ?_, fun b u hb => ?_⟩
    (O.put A.len hi (l := []) ⟨rfl, .ref a, rfl, .lst upd_same (r3.mono s)⟩ s (fun _ _ _ _ _ _ e => e) (fun j b hj z hb => by rw [upd_ne (other hj z hb)]; exact (O.at_ j b hj hb).1) (fun _ h => nomatch h) (fun _ _ _ _ _ h => nomatch h) fun _ h => nomatch h)
  · by_cases z : b = a
    · subst z
      rw [upd_same] at e
      rw [← e]; exact r2
    · rw [upd_ne z] at e
      exact A.base.fh b u e
  · by_cases z : b = a
    · subst z
      exact .inr h0
    · rw [upd_ne z] at e
      exact A.base.src b u e
  · obtain ⟨h1, h2⟩ := A.base.own b hb
    exact ⟨by rw [upd_ne (fun z => nO (by rw [← z]; exact hb))]; exact h1, h2⟩
  · obtain ⟨h1, h2, h3⟩ := A.base.pend b u hb
    exact ⟨by rw [upd_ne (fun z => np u (by rw [← z]; exact hb))]; exact h1, h2, h3⟩
/-- the source of draws is used -/
theorem As.drawn {i : Nat} {p c : Addr} (A : As w G σ F H) (h : G[i]? = some (.dr p c)) (k : ∀ b o, b ≠ p → b ≠ c → H b = some o → H' b = some o) (hd : Dr H' p c) : As w G σ (ext F H H') H' ∧ Same F (ext F H H') := by
  obtain ⟨q, O⟩ := A.get
  have hi := (List.getElem?_eq_some_iff.mp h).1
  obtain ⟨eq, r1, r2⟩ := O.ok i _ h
  have mp : p ∈ q i := by rw [eq]; simp
  have mc : c ∈ q i := by rw [eq]; simp
  obtain ⟨fp, hp, op⟩ := O.at_ i p hi mp
  obtain ⟨fc, hc, oc⟩ := O.at_ i c hi mc
  have s : Same F (ext F H H') := ext_same A.base.fh
  have Hp' : H' p ≠ none := by
    obtain ⟨_, _, _, _, e, _⟩ := hd
    rw [e]; exact fun z => nomatch z
  have Hc' : H' c ≠ none := by
    obtain ⟨_, _, _, _, _, e, _⟩ := hd
    rw [e]; exact fun z => nomatch z
  have kn : ∀ b, H b ≠ none → H' b ≠ none := fun b hb => by
    by_cases e1 : b = p
    · rw [e1]; exact Hp'
    · by_cases e2 : b = c
      · rw [e2]; exact Hc'
      · cases e : H b with
        | none => exact absurd e hb
        | some o => rw [k b o e1 e2 e]; exact fun z => nomatch z
  have f0 : ∀ b, H b ≠ none → ext F H H' b = F b := fun b hb => by
    cases e : H b with
    | none => exact absurd e hb
    | some o => exact ext_some e
  have other : ∀ {j b}, j < G.length → j ≠ i → b ∈ q j → b ≠ p ∧ b ≠ c := fun hj hn hb => ⟨fun z => hn (O.dis _ i p hj hi (z ▸ hb) mp), fun z => hn (O.dis _ i c hj hi (z ▸ hb) mc)⟩
  have sub : Same (ext F H H') H' := fun b o e => by
    cases e' : H b with
    | none => rwa [ext_none e'] at e
    | some u =>
      rw [ext_some e'] at e
      exact k b o (ne_of_none e fp) (ne_of_none e fc) (A.base.fh b o e)
  refine ⟨.mk' (q := q) A.len ⟨A.base.f0.trans s, sub, fun b o e => ?_, fun b o hb e => ?_, fun b hb => ?_, fun b o hb => ?_⟩ ⟨fun j u hj => ?_, fun j b hj hb => ?_, O.dis, O.pd⟩, s⟩
  · cases e' : H b with
    | none =>
      by_cases ho : b ∈ w.O
      · exact absurd e' (A.base.own b ho).2
      · cases q0 : w.H0 b with
        | none => exact .inr rfl
        | some u => rw [A.base.keep b u ho q0] at e'; cases e'
    | some u =>
      rw [ext_some e'] at e
      exact A.base.src b o e
  · have e' := A.base.keep b o hb e
    by_cases e1 : b = p
    · subst e1
      rcases op with op | op
      · exact absurd op hb
      · rw [op] at e; cases e
    · by_cases e2 : b = c
      · subst e2
        rcases oc with oc | oc
        · exact absurd oc hb
        · rw [oc] at e; cases e
      · exact k b o e1 e2 e'
  · obtain ⟨f, hn⟩ := A.base.own b hb
    exact ⟨by rw [f0 b hn]; exact f, kn b hn⟩
  · obtain ⟨h1, h2, h3⟩ := A.base.pend b o hb
    exact ⟨by rw [ext_some h2]; exact h1, k b o (fun z => O.pd i p hi mp o (by rw [← z]; exact hb)) (fun z => O.pd i c hi mc o (by rw [← z]; exact hb)) h2, h3⟩
  · by_cases e : j = i
    · subst e
      rw [h] at hj
      cases hj
      exact ⟨eq, r1, hd⟩
    · refine (O.ok j u hj).step s fun b o hb e' => ?_
      obtain ⟨n1, n2⟩ := other (List.getElem?_eq_some_iff.mp hj).1 e hb
      exact k b o n1 n2 e'
  · obtain ⟨f, hn, z⟩ := O.at_ j b hj hb
    exact ⟨by rw [f0 b hn]; exact f, kn b hn, z⟩
/-- what is new, but for some -/
def extBut (F H H' : Hp) (qs : List Addr) : Hp := fun b => if b ∈ qs then none else ext F H H' b
/-- a slot's own thing is changed -/
theorem As.own1 (A : As w G σ F H) {i : Nat} {x : OwnP} (h : G[i]? = some (.o x)) : ∃ v qs, σ[i]? = some (some v) ∧ x.ok F H v qs ∧ (∀ a, a ∈ qs → F a = none ∧ H a ≠ none) ∧
    ∀ (x' : OwnP) (H' : Hp) (qs' : List Addr), (∀ b u, b ∉ qs → H b = some u → H' b = some u) → (∀ b, b ∈ qs → H' b ≠ none) → (∀ a, a ∈ qs' → (a ∈ qs ∨ H a = none) ∧ H' a ≠ none) → x'.ok (extBut F H H' qs') H' v qs' → As w (G.set i (.o x')) σ (extBut F H H' qs') H' ∧ Same F (extBut F H H' qs') := by
  obtain ⟨q, O⟩ := A.get
  have hi := (List.getElem?_eq_some_iff.mp h).1
  obtain ⟨v, r1, r2⟩ := O.ok i _ h
  refine ⟨v, q i, r1, r2, fun a ha => ⟨(O.at_ i a hi ha).1, (O.at_ i a hi ha).2.1⟩, fun x' H' qs' k kq hq' hx' => ?_⟩
  have Fq : ∀ b, b ∈ q i → F b = none := fun b hb => (O.at_ i b hi hb).1
  have noO : ∀ b u, F b = some u → b ∉ qs' := fun b u e hb => by
    rcases (hq' b hb).1 with z | z
    · rw [Fq b z] at e; cases e
    · rw [A.base.fh b u e] at z; cases z
  have s : Same F (extBut F H H' qs') := fun b u e => by
    unfold extBut
    rw [if_neg (noO b u e)]
    exact ext_same A.base.fh b u e
  have es : σ = σ.set i (some v) := by
    refine List.ext_getElem? fun j => ?_
    by_cases z : j = i
    · subst z
      rw [List.getElem?_set_self (by rw [A.len]; exact hi)]
      exact r1
    · rw [List.getElem?_set_ne (Ne.symm z)]
  have other : ∀ {j b}, j < G.length → j ≠ i → b ∈ q j → b ∉ q i := fun hj hn hb z => hn (O.dis _ i _ hj hi hb z)
  have new : ∀ {b u}, H b = some u → b ∉ q i → b ∉ qs' := fun {b u} e hn hb => by
    rcases (hq' b hb).1 with z | z
    · exact hn z
    · rw [e] at z; cases z
  have val : ∀ {b u}, H b = some u → extBut F H H' qs' b = if b ∈ qs' then none else F b := fun {b u} e => by
    unfold extBut
    rw [ext_some e]
  have sub : Same (extBut F H H' qs') H' := fun b o e => by
    unfold extBut at e
    split at e
    · cases e
    · cases e' : H b with
      | none => rwa [ext_none e'] at e
      | some u =>
        rw [ext_some e'] at e
        exact k b o (fun z => by rw [Fq b z] at e; cases e) (A.base.fh b o e)
  refine ⟨?_, s⟩
  rw [es]
  refine .mk' (by simp [A.len]) ⟨A.base.f0.trans s, sub, fun b o e => ?_, fun b o hb e => ?_, fun b hb => ?_, fun b o hb => ?_⟩
    (O.put A.len hi (l := qs') ⟨v, rfl, hx'⟩ s (fun j b u hj z hb e => k b u (other hj z hb) e) (fun j b hj z hb => ?_) (fun b hb => ?_) (fun j b hj z hb hc => ?_) fun b hb u hu => ?_)
  · unfold extBut at e
    split at e
    · cases e
    · cases e' : H b with
      | none =>
        by_cases ho : b ∈ w.O
        · exact absurd e' (A.base.own b ho).2
        · cases q0 : w.H0 b with
          | none => exact .inr rfl
          | some u => rw [A.base.keep b u ho q0] at e'; cases e'
      | some u =>
        rw [ext_some e'] at e
        exact A.base.src b o e
  · have e' := A.base.keep b o hb e
    exact k b o (fun z => by
      rcases (O.at_ i b hi z).2.2 with y | y
      · exact hb y
      · rw [y] at e; cases e) e'
  · obtain ⟨f, hn⟩ := A.base.own b hb
    cases e : H b with
    | none => exact absurd e hn
    | some u =>
      refine ⟨by rw [val e]; split; rfl; exact f, ?_⟩
      by_cases z : b ∈ q i
      · exact kq b z
      · rw [k b u z e]; exact fun z => nomatch z
  · obtain ⟨h1, h2, h3⟩ := A.base.pend b o hb
    have nq : b ∉ q i := fun z => O.pd i b hi z o hb
    exact ⟨by rw [val h2, if_neg (new h2 nq)]; exact h1, k b o nq h2, h3⟩
  · obtain ⟨f, hn, _⟩ := O.at_ j b hj hb
    cases e : H b with
    | none => exact absurd e hn
    | some u => rw [val e]; split; rfl; exact f
  · refine ⟨by unfold extBut; rw [if_pos hb], (hq' b hb).2, ?_⟩
    rcases (hq' b hb).1 with z | z
    · exact (O.at_ i b hi z).2.2
    · cases e : w.H0 b with
      | none => exact .inr rfl
      | some u =>
        by_cases ho : b ∈ w.O
        · exact .inl ho
        · rw [A.base.keep b u ho e] at z; cases z
  · obtain ⟨_, hn, _⟩ := O.at_ j b hj hb
    rcases (hq' b hc).1 with y | y
    · exact other hj z hb y
    · exact hn y
  · rcases (hq' b hb).1 with y | y
    · exact O.pd i b hi y u hu
    · have := (A.base.pend b u hu).2.1
      rw [y] at this; cases this
/-- slots that tell nothing may hold anything -/
theorem As.slots {σ' : L2.St} (A : As w G σ F H) (hl : σ'.length = σ.length) (h : ∀ i : Nat, G[i]? = some Ent.no ∨ σ'[i]? = σ[i]?) : As w G σ' F H := by
  obtain ⟨q, O⟩ := A.get
  refine .mk' (q := q) (hl.trans A.len) A.base ⟨fun i e he => ?_, O.at_, O.dis, O.pd⟩
  rcases h i with z | z
  · rw [he] at z
    cases z
    exact O.ok i _ he
  · rw [z]
    exact O.ok i e he
/-- forgetting -/
theorem As.forget (A : As w G σ F H) (i : Nat) : As w (G.set i .no) σ F H := by
  by_cases hi : i < G.length
  · refine (A.put i (s := none) (e := .no) rfl).slots (by simp) fun j => ?_
    by_cases z : j = i
    · subst z
      exact .inl (List.getElem?_set_self hi)
    · exact .inr (by rw [List.getElem?_set_ne (Ne.symm z)])
  · rw [set_far hi]
    exact A
end
end Sd
set_option Elab.async false
set_option linter.all false
set_option maxRecDepth 100000
set_option maxHeartbeats 4000000
/-! Sd1: readings told by data: expressions, tests, arguments. -/
namespace Sd
open PySem PySem.Spec L2

theorem line_ok {n : Nat} (h : n ≤ 1000000) : n ≤ sizeLine := by rw [sizeLine_eq]; omega
theorem line_lt {n : Nat} (h : n ≤ 1000000) : n < sizeLine := by rw [sizeLine_eq]; omega

/-- an expression gives data of which Q holds -/
def wp (w : Wd) (te : TE) (G : List Ent) (Q : D → Prop) : Prop := ∀ σ F H, As w G σ F H → ∀ k : VK, (∀ v d F' H', Same F F' → As w G σ F' H' → Rp w.K F' v d → Q d → k v H') → te σ H k
def wpt (w : Wd) (tt : TT) (G : List Ent) (Q : Bool → Prop) : Prop := ∀ σ F H, As w G σ F H → ∀ k : Bool → Hp → Prop, (∀ b F' H', Same F F' → As w G σ F' H' → Q b → k b H') → tt σ H k
def wpa (w : Wd) (ta : TA) (G : List Ent) (Q : List D → Prop) : Prop := ∀ σ F H, As w G σ F H → ∀ k : List V → Hp → Prop, (∀ vs ds F' H', Same F F' → As w G σ F' H' → RpL w.K F' vs ds → Q ds → k vs H') → ta σ H k
/-- an expression gives a new list -/
def wpl (w : Wd) (te : TE) (G : List Ent) (Q : List D → Prop) : Prop := ∀ σ F H, As w G σ F H → ∀ k : VK, (∀ a vs ds F' H', Same F F' → As (w.push a (.lst vs)) G σ F' H' → (∀ u, (a, u) ∉ w.P) → RpL w.K F' vs ds → Q ds → k (.ref a) H') → te σ H k
def wpo (w : Wd) (to : TO) (G : List Ent) (Q : Option Int → Prop) : Prop := ∀ σ F H, As w G σ F H → ∀ k : Option Int → Hp → Prop, (∀ o F' H', Same F F' → As w G σ F' H' → Q o → k o H') → to σ H k
/-- an operation on values -/
def R2D (K : PySem.W.Frag) (r : R2) (x y : D) (Q : D → Prop) : Prop := ∀ F H v u, Same F H → Rp K F v x → Rp K F u y → ∀ k : VK, (∀ z d H', Same H H' → Rp K (ext F H H') z d → Q d → k z H') → r v u H k
def RCD (K : PySem.W.Frag) (r : List V → Hp → VK → Prop) (xs : List D) (Q : D → Prop) : Prop := ∀ F H vs, Same F H → RpL K F vs xs → ∀ k : VK, (∀ z d H', Same H H' → Rp K (ext F H H') z d → Q d → k z H') → r vs H k
def RMD (K : PySem.W.Frag) (r : V → List V → Hp → VK → Prop) (x : D) (xs : List D) (Q : D → Prop) : Prop := ∀ F H v vs, Same F H → Rp K F v x → RpL K F vs xs → ∀ k : VK, (∀ z d H', Same H H' → Rp K (ext F H H') z d → Q d → k z H') → r v vs H k
def RSD (K : PySem.W.Frag) (r : V → Option Int → Option Int → Hp → VK → Prop) (x : D) (lo hi : Option Int) (Q : D → Prop) : Prop := ∀ F H v, Same F H → Rp K F v x → ∀ k : VK, (∀ z d H', Same H H' → Rp K (ext F H H') z d → Q d → k z H') → r v lo hi H k
/-- a new list by such -/
def RCL (K : PySem.W.Frag) (r : List V → Hp → VK → Prop) (xs : List D) (Q : List D → Prop) : Prop := ∀ F H vs, Same F H → RpL K F vs xs → ∀ k : VK, (∀ a vs ds H', Same H H' → H' a = none → RpL K (ext F H H') vs ds → Q ds → k (.ref a) (upd H' a (.lst vs))) → r vs H k
def RML (K : PySem.W.Frag) (r : V → List V → Hp → VK → Prop) (x : D) (xs : List D) (Q : List D → Prop) : Prop := ∀ F H v vs, Same F H → Rp K F v x → RpL K F vs xs → ∀ k : VK, (∀ a vs ds H', Same H H' → H' a = none → RpL K (ext F H H') vs ds → Q ds → k (.ref a) (upd H' a (.lst vs))) → r v vs H k
def R2L (K : PySem.W.Frag) (r : R2) (x y : D) (Q : List D → Prop) : Prop := ∀ F H v u, Same F H → Rp K F v x → Rp K F u y → ∀ k : VK, (∀ a vs ds H', Same H H' → H' a = none → RpL K (ext F H H') vs ds → Q ds → k (.ref a) (upd H' a (.lst vs))) → r v u H k
def RSL (K : PySem.W.Frag) (r : V → Option Int → Option Int → Hp → VK → Prop) (x : D) (lo hi : Option Int) (Q : List D → Prop) : Prop := ∀ F H v, Same F H → Rp K F v x → ∀ k : VK, (∀ a vs ds H', Same H H' → H' a = none → RpL K (ext F H H') vs ds → Q ds → k (.ref a) (upd H' a (.lst vs))) → r v lo hi H k

section
variable {w : Wd} {G : List Ent} {Q : D → Prop} {te ta tb : TE} {tt tu : TT} {tas : TA}
theorem ext_self {F H : Hp} (s : Same F H) : ext F H H = F := by
  funext b
  cases e : H b with
  | none =>
    rw [ext_none e, e]
    cases q : F b with
    | none => rfl
    | some o => rw [s b o q] at e; cases e
  | some o => rw [ext_some e]
theorem wp.imp {Q' : D → Prop} (h : wp w te G Q) (i : ∀ d, Q d → Q' d) : wp w te G Q' := fun σ F H A k q => h σ F H A k fun v d F' H' s A' r z => q v d F' H' s A' r (i d z)
theorem wpt.imp {Q Q' : Bool → Prop} (h : wpt w tt G Q) (i : ∀ d, Q d → Q' d) : wpt w tt G Q' := fun σ F H A k q => h σ F H A k fun b F' H' s A' z => q b F' H' s A' (i b z)
theorem wpa.imp {Q Q' : List D → Prop} (h : wpa w tas G Q) (i : ∀ d, Q d → Q' d) : wpa w tas G Q' := fun σ F H A k q => h σ F H A k fun v d F' H' s A' r z => q v d F' H' s A' r (i d z)
theorem wpl.imp {Q Q' : List D → Prop} (h : wpl w te G Q) (i : ∀ d, Q d → Q' d) : wpl w te G Q' := fun σ F H A k q => h σ F H A k fun a v d F' H' s A' n r z => q a v d F' H' s A' n r (i d z)

/-! ### names, constants -/
theorem wp_var {i : Nat} {d : D} (h : G[i]? = some (.d d)) (q : Q d) : wp w (tVar i) G Q := fun σ F H A k z => by
  obtain ⟨v, e, r⟩ := A.dat h
  exact ⟨v, e, z v d F H (Same.refl _) A r q⟩
theorem wp_int {i : Int} (q : Q (.int i)) : wp w (tC (.int i)) G Q := fun σ F H A k z => z _ _ F H (Same.refl _) A (.int i) q
theorem wp_bl {b : Bool} (q : Q (.bl b)) : wp w (tC (.bl b)) G Q := fun σ F H A k z => z _ _ F H (Same.refl _) A (.bl b) q
theorem wp_str {x : Str} (q : Q (.str x)) : wp w (tC (.str x)) G Q := fun σ F H A k z => z _ _ F H (Same.refl _) A (.str x) q
theorem wp_non (q : Q .non) : wp w (tC .non) G Q := fun σ F H A k z => z _ _ F H (Same.refl _) A .non q

/-! ### arguments, displays -/
theorem wpa_nil {Q : List D → Prop} (q : Q []) : wpa w tNil G Q := fun σ F H A k z => z _ _ F H (Same.refl _) A .nil q
theorem wpa_cons {Q : List D → Prop} {tr : TA} (h : wp w te G fun d => wpa w tr G fun ds => Q (d :: ds)) : wpa w (tCons te tr) G Q := fun σ F H A k z =>
  h σ F H A _ fun v d F1 H1 s1 A1 r1 h1 => h1 σ F1 H1 A1 _ fun vs ds F2 H2 s2 A2 r2 q => z _ _ F2 H2 (s1.trans s2) A2 (.cons (r1.mono s2) r2) q
theorem wp_tup (h : wpa w tas G fun ds => ds.length ≤ 1000000 ∧ Q (.tup ds)) : wp w (tTup tas) G Q := fun σ F H A k z =>
  h σ F H A _ fun vs ds F1 H1 s1 A1 r1 q => ⟨line_ok (r1.length ▸ q.1), fun p hp =>
    have hf := A1.fh.free hp
    z _ _ (upd F1 p (.tup vs)) (upd H1 p (.tup vs)) (s1.trans (same_new hf)) (A1.new hp) (.tup upd_same (r1.mono (same_new hf))) q.2⟩
theorem wpl_lst {Q : List D → Prop} (h : wpa w tas G fun ds => ds.length ≤ 1000000 ∧ Q ds) : wpl w (tLst tas) G Q := fun σ F H A k z =>
  h σ F H A _ fun vs ds F1 H1 s1 A1 r1 q => ⟨line_ok (r1.length ▸ q.1), fun p hp => z p vs ds F1 _ s1 (A1.pend hp) (A1.fresh hp) r1 q.2⟩
/-- a new list as data -/
theorem wp_l (h : wpl w te G fun ds => Q (.lst ds)) : wp w te G Q := fun σ F H A k z =>
  h σ F H A _ fun a vs ds F1 H1 s1 A1 n r q =>
    have B := A1.known n
    z _ _ (upd F1 a (.lst vs)) _ (s1.trans B.2) B.1 (.lst upd_same (r.mono B.2)) q

/-! ### operations -/
theorem wp_op {r : R2} (h : wp w ta G fun x => wp w tb G fun y => R2D w.K r x y Q) : wp w (tOp r ta tb) G Q := fun σ F H A k z =>
  h σ F H A _ fun v x F1 H1 s1 A1 r1 h1 => h1 σ F1 H1 A1 _ fun u y F2 H2 s2 A2 r2 q =>
    q F2 H2 v u A2.fh (r1.mono s2) r2 _ fun z0 d H3 s3 r3 qd => z _ _ _ H3 ((s1.trans s2).trans A2.same) (A2.step s3) r3 qd
theorem wp_un {r : V → Hp → VK → Prop} (h : wp w ta G fun x => RCD w.K (fun vs H k => ∃ v, vs = [v] ∧ r v H k) [x] Q) : wp w (tUn r ta) G Q := fun σ F H A k z =>
  h σ F H A _ fun v x F1 H1 s1 A1 r1 q => by
    obtain ⟨v', e, h2⟩ := q F1 H1 [v] A1.fh (.cons r1 .nil) k fun z0 d H3 s3 r3 qd => z _ _ _ H3 (s1.trans A1.same) (A1.step s3) r3 qd
    cases e
    exact h2
theorem wp_cb {r : List V → Hp → VK → Prop} (h : wpa w tas G fun xs => RCD w.K r xs Q) : wp w (tCB r tas) G Q := fun σ F H A k z =>
  h σ F H A _ fun vs ds F1 H1 s1 A1 r1 q => q F1 H1 vs A1.fh r1 _ fun z0 d H3 s3 r3 qd => z _ _ _ H3 (s1.trans A1.same) (A1.step s3) r3 qd
theorem wpl_cb {Q : List D → Prop} {r : List V → Hp → VK → Prop} (h : wpa w tas G fun xs => RCL w.K r xs Q) : wpl w (tCB r tas) G Q := fun σ F H A k z =>
  h σ F H A _ fun vs ds F1 H1 s1 A1 r1 q => q F1 H1 vs A1.fh r1 _ fun a vs2 ds2 H3 s3 n r3 qd => z _ _ _ _ _ (s1.trans A1.same) ((A1.step s3).pend n) ((A1.step s3).fresh n) r3 qd
theorem wpl_op {Q : List D → Prop} {r : R2} (h : wp w ta G fun x => wp w tb G fun y => R2L w.K r x y Q) : wpl w (tOp r ta tb) G Q := fun σ F H A k z =>
  h σ F H A _ fun v x F1 H1 s1 A1 r1 h1 => h1 σ F1 H1 A1 _ fun u y F2 H2 s2 A2 r2 q =>
    q F2 H2 v u A2.fh (r1.mono s2) r2 _ fun a vs2 ds2 H3 s3 n r3 qd => z _ _ _ _ _ ((s1.trans s2).trans A2.same) ((A2.step s3).pend n) ((A2.step s3).fresh n) r3 qd
theorem wp_m0 {r : V → List V → Hp → VK → Prop} (h : wp w te G fun x => (∃ a, x = .str a) ∧ RMD w.K r x [] Q) : wp w (tM0 r te) G Q := fun σ F H A k z =>
  h σ F H A _ fun v x F1 H1 s1 A1 r1 q => by
    obtain ⟨⟨a, rfl⟩, q⟩ := q
    cases r1
    exact ⟨⟨a, rfl⟩, q F1 H1 _ [] A1.fh (.str a) .nil _ fun z0 d H3 s3 r3 qd => z _ _ _ H3 (s1.trans A1.same) (A1.step s3) r3 qd⟩
theorem wp_m1 {r : V → List V → Hp → VK → Prop} (h : wp w ta G fun x => (∃ a, x = .str a) ∧ wp w tb G fun y => RMD w.K r x [y] Q) : wp w (tM1 r ta tb) G Q := fun σ F H A k z =>
  h σ F H A _ fun v x F1 H1 s1 A1 r1 q => by
    obtain ⟨⟨a, rfl⟩, q⟩ := q
    cases r1
    exact ⟨⟨a, rfl⟩, q σ F1 H1 A1 _ fun u y F2 H2 s2 A2 r2 q => q F2 H2 _ [u] A2.fh (.str a) (.cons r2 .nil) _ fun z0 d H3 s3 r3 qd => z _ _ _ H3 ((s1.trans s2).trans A2.same) (A2.step s3) r3 qd⟩
theorem wpl_m1 {Q : List D → Prop} {r : V → List V → Hp → VK → Prop} (h : wp w ta G fun x => (∃ a, x = .str a) ∧ wp w tb G fun y => RML w.K r x [y] Q) : wpl w (tM1 r ta tb) G Q := fun σ F H A k z =>
  h σ F H A _ fun v x F1 H1 s1 A1 r1 q => by
    obtain ⟨⟨a, rfl⟩, q⟩ := q
    cases r1
    exact ⟨⟨a, rfl⟩, q σ F1 H1 A1 _ fun u y F2 H2 s2 A2 r2 q => q F2 H2 _ [u] A2.fh (.str a) (.cons r2 .nil) _ fun a vs2 ds2 H3 s3 n r3 qd => z _ _ _ _ _ ((s1.trans s2).trans A2.same) ((A2.step s3).pend n) ((A2.step s3).fresh n) r3 qd⟩
theorem wpo_none {Q : Option Int → Prop} (q : Q none) : wpo w tNoPart G Q := fun σ F H A k z => z _ F H (Same.refl _) A q
theorem wpo_some {Q : Option Int → Prop} (h : wp w te G fun x => ∃ i, x = .int i ∧ Q (some i)) : wpo w (tPart te) G Q := fun σ F H A k z =>
  h σ F H A _ fun v x F1 H1 s1 A1 r1 q => by
    obtain ⟨i, rfl, q⟩ := q
    cases r1
    exact ⟨i, rfl, z _ F1 H1 s1 A1 q⟩
theorem wp_sl {r : V → Option Int → Option Int → Hp → VK → Prop} {tl th : TO} (h : wp w te G fun x => wpo w tl G fun lo => wpo w th G fun hi => RSD w.K r x lo hi Q) : wp w (tSl r te tl th) G Q := fun σ F H A k z =>
  h σ F H A _ fun v x F1 H1 s1 A1 r1 h1 => h1 σ F1 H1 A1 _ fun lo F2 H2 s2 A2 h2 => h2 σ F2 H2 A2 _ fun hi F3 H3 s3 A3 q =>
    q F3 H3 v A3.fh (r1.mono (s2.trans s3)) _ fun z0 d H4 s4 r4 qd => z _ _ _ H4 (((s1.trans s2).trans s3).trans A3.same) (A3.step s4) r4 qd
theorem wpl_sl {Q : List D → Prop} {r : V → Option Int → Option Int → Hp → VK → Prop} {tl th : TO} (h : wp w te G fun x => wpo w tl G fun lo => wpo w th G fun hi => RSL w.K r x lo hi Q) : wpl w (tSl r te tl th) G Q := fun σ F H A k z =>
  h σ F H A _ fun v x F1 H1 s1 A1 r1 h1 => h1 σ F1 H1 A1 _ fun lo F2 H2 s2 A2 h2 => h2 σ F2 H2 A2 _ fun hi F3 H3 s3 A3 q =>
    q F3 H3 v A3.fh (r1.mono (s2.trans s3)) _ fun a vs2 ds2 H4 s4 n r4 qd => z _ _ _ _ _ (((s1.trans s2).trans s3).trans A3.same) ((A3.step s4).pend n) ((A3.step s4).fresh n) r4 qd

/-! ### tests -/
theorem wpt_test {Q : Bool → Prop} (h : wp w te G fun x => ∃ b, x = .bl b ∧ Q b) : wpt w (tTest te) G Q := fun σ F H A k z =>
  h σ F H A _ fun v x F1 H1 s1 A1 r1 q => by
    obtain ⟨b, rfl, q⟩ := q
    cases r1
    exact ⟨b, rfl, z _ F1 H1 s1 A1 q⟩
theorem wpt_B {Q : Bool → Prop} (h : wp w te G fun x => ∃ b, x = .bl b ∧ Q b) : wpt w (tB te) G Q := fun σ F H A k z =>
  h σ F H A _ fun v x F1 H1 s1 A1 r1 q => by
    obtain ⟨b, rfl, q⟩ := q
    cases r1
    exact ⟨b, rfl, z _ F1 H1 s1 A1 q⟩
theorem wpt_and {Q : Bool → Prop} (h : wpt w tt G fun a => if a = true then wpt w tu G Q else Q false) : wpt w (tAnd tt tu) G Q := fun σ F H A k z =>
  h σ F H A _ fun a F1 H1 s1 A1 q => by
    cases a with
    | true => exact iteT (q σ F1 H1 A1 _ fun b F2 H2 s2 A2 q2 => z b F2 H2 (s1.trans s2) A2 q2)
    | false => exact iteF (z _ F1 H1 s1 A1 q)
theorem wpt_or {Q : Bool → Prop} (h : wpt w tt G fun a => if a = true then Q true else wpt w tu G Q) : wpt w (tOr tt tu) G Q := fun σ F H A k z =>
  h σ F H A _ fun a F1 H1 s1 A1 q => by
    cases a with
    | true => exact iteT (z _ F1 H1 s1 A1 q)
    | false => exact iteF (q σ F1 H1 A1 _ fun b F2 H2 s2 A2 q2 => z b F2 H2 (s1.trans s2) A2 q2)
theorem wpt_not {Q : Bool → Prop} (h : wpt w tt G fun a => Q (!a)) : wpt w (tNot tt) G Q := fun σ F H A k z =>
  h σ F H A _ fun a F1 H1 s1 A1 q => z _ F1 H1 s1 A1 q
theorem wp_if (h : wpt w tt G fun b => if b = true then wp w ta G Q else wp w tb G Q) : wp w (tIf tt ta tb) G Q := fun σ F H A k z =>
  h σ F H A _ fun a F1 H1 s1 A1 q => by
    cases a with
    | true => exact iteT (q σ F1 H1 A1 _ fun v b F2 H2 s2 A2 q2 => z v b F2 H2 (s1.trans s2) A2 q2)
    | false => exact iteF (q σ F1 H1 A1 _ fun v b F2 H2 s2 A2 q2 => z v b F2 H2 (s1.trans s2) A2 q2)
theorem wpl_if {Q : List D → Prop} (h : wpt w tt G fun b => if b = true then wpl w ta G Q else wpl w tb G Q) : wpl w (tIf tt ta tb) G Q := fun σ F H A k z =>
  h σ F H A _ fun a F1 H1 s1 A1 q => by
    cases a with
    | true => exact iteT (q σ F1 H1 A1 _ fun a v b F2 H2 s2 A2 q2 => z a v b F2 H2 (s1.trans s2) A2 q2)
    | false => exact iteF (q σ F1 H1 A1 _ fun a v b F2 H2 s2 A2 q2 => z a v b F2 H2 (s1.trans s2) A2 q2)
theorem wp_andV (h : wp w ta G fun x => ∃ b, x = .bl b ∧ if b = true then wp w tb G Q else Q (.bl false)) : wp w (tAndV ta tb) G Q := fun σ F H A k z =>
  h σ F H A _ fun v x F1 H1 s1 A1 r1 q => by
    obtain ⟨b, rfl, q⟩ := q
    cases r1
    refine ⟨b, rfl, ?_⟩
    cases b with
    | true => exact iteT (q σ F1 H1 A1 _ fun v b F2 H2 s2 A2 q2 => z v b F2 H2 (s1.trans s2) A2 q2)
    | false => exact iteF (z _ _ F1 H1 s1 A1 (.bl false) q)
theorem wp_orV (h : wp w ta G fun x => ∃ b, x = .bl b ∧ if b = true then Q (.bl true) else wp w tb G Q) : wp w (tOrV ta tb) G Q := fun σ F H A k z =>
  h σ F H A _ fun v x F1 H1 s1 A1 r1 q => by
    obtain ⟨b, rfl, q⟩ := q
    cases r1
    refine ⟨b, rfl, ?_⟩
    cases b with
    | true => exact iteT (z _ _ F1 H1 s1 A1 (.bl true) q)
    | false => exact iteF (q σ F1 H1 A1 _ fun v b F2 H2 s2 A2 q2 => z v b F2 H2 (s1.trans s2) A2 q2)
theorem wp_notV (h : wp w ta G fun x => ∃ b, x = .bl b ∧ Q (.bl (!b))) : wp w (tNotV ta) G Q := fun σ F H A k z =>
  h σ F H A _ fun v x F1 H1 s1 A1 r1 q => by
    obtain ⟨b, rfl, q⟩ := q
    cases r1
    exact ⟨b, rfl, z _ _ F1 H1 s1 A1 (.bl _) q⟩
/-- truth of data -/
def truD : D → Option Bool
  | .non => some false
  | .bl b => some b
  | .int i => some (i != 0)
  | .str x => if x.length ≤ 1000000 then some (x.length != 0) else none
  | .tup xs => some (!xs.isEmpty)
  | .lst xs => some (!xs.isEmpty)
  | .obj .. => none
end
end Sd
set_option Elab.async false
set_option linter.all false
set_option maxRecDepth 100000
set_option maxHeartbeats 4000000
/-! Sd2: operations, built-ins and methods by data. -/
namespace Sd
open PySem PySem.Spec L2
open PyProof.Rows (sortedS)

section
variable {K : PySem.W.Frag} {Q : D → Prop}
theorem ext0 {F H : Hp} {z : V} {d : D} (s : Same F H) (r : Rp K F z d) : Rp K (ext F H H) z d := by rw [ext_self s]; exact r
theorem ext0L {F H : Hp} {z : List V} {d : List D} (s : Same F H) (r : RpL K F z d) : RpL K (ext F H H) z d := by rw [ext_self s]; exact r
/-! ### ints -/
theorem r2_ii {g : Int → Int → Int} {i j : Int} (q : Q (.int (g i j))) : R2D K (rI0 fun i j => .int (g i j)) (.int i) (.int j) Q := fun F H v u s r1 r2 k z => by
  cases r1; cases r2
  exact ⟨i, j, rfl, rfl, z _ _ H (Same.refl _) (.int _) q⟩
theorem r2_ib {g : Int → Int → Bool} {i j : Int} (q : Q (.bl (g i j))) : R2D K (rI0 fun i j => .bl (g i j)) (.int i) (.int j) Q := fun F H v u s r1 r2 k z => by
  cases r1; cases r2
  exact ⟨i, j, rfl, rfl, z _ _ H (Same.refl _) (.bl _) q⟩
theorem r2_ic {C : Int → Int → Prop} {g : Int → Int → Int} {i j : Int} (c : C i j) (q : Q (.int (g i j))) : R2D K (rI C fun i j => .int (g i j)) (.int i) (.int j) Q := fun F H v u s r1 r2 k z => by
  cases r1; cases r2
  exact ⟨i, j, rfl, rfl, c, z _ _ H (Same.refl _) (.int _) q⟩
theorem ru_ii {g : Int → Int} {i : Int} (q : Q (.int (g i))) : RCD K (fun vs H k => ∃ v, vs = [v] ∧ rU (fun i => .int (g i)) v H k) [.int i] Q := fun F H vs s r k z => by
  cases r with
  | cons r rr =>
    cases rr
    cases r
    exact ⟨_, rfl, i, rfl, z _ _ H (Same.refl _) (.int _) q⟩

/-! ### == and != of flat data -/
theorem r2_eqI {i j : Int} (q : Q (.bl (decide (i = j)))) : R2D K rEq (.int i) (.int j) Q := fun F H v u s r1 r2 k z => by
  cases r1; cases r2
  have e : decide (V.int i = V.int j) = decide (i = j) := by rw [dec_int, Bool.beq_eq_decide_eq]
  exact ⟨rfl, by rw [e]; exact z _ _ H (Same.refl _) (.bl _) q⟩
theorem r2_neI {i j : Int} (q : Q (.bl (!decide (i = j)))) : R2D K rNe (.int i) (.int j) Q := fun F H v u s r1 r2 k z => by
  cases r1; cases r2
  have e : decide (V.int i = V.int j) = decide (i = j) := by rw [dec_int, Bool.beq_eq_decide_eq]
  exact ⟨rfl, by rw [e]; exact z _ _ H (Same.refl _) (.bl _) q⟩
theorem r2_eqS {i j : Str} (q : Q (.bl (decide (i = j)))) : R2D K rEq (.str i) (.str j) Q := fun F H v u s r1 r2 k z => by
  cases r1; cases r2
  have e : decide (V.str i = V.str j) = decide (i = j) := by rw [dec_str, Bool.beq_eq_decide_eq]
  exact ⟨rfl, by rw [e]; exact z _ _ H (Same.refl _) (.bl _) q⟩
theorem r2_neS {i j : Str} (q : Q (.bl (!decide (i = j)))) : R2D K rNe (.str i) (.str j) Q := fun F H v u s r1 r2 k z => by
  cases r1; cases r2
  have e : decide (V.str i = V.str j) = decide (i = j) := by rw [dec_str, Bool.beq_eq_decide_eq]
  exact ⟨rfl, by rw [e]; exact z _ _ H (Same.refl _) (.bl _) q⟩
theorem r2_eqB {i j : Bool} (q : Q (.bl (decide (i = j)))) : R2D K rEq (.bl i) (.bl j) Q := fun F H v u s r1 r2 k z => by
  cases r1; cases r2
  have e : decide (V.bl i = V.bl j) = decide (i = j) := by rw [dec_bl, Bool.beq_eq_decide_eq]
  exact ⟨rfl, by rw [e]; exact z _ _ H (Same.refl _) (.bl _) q⟩
theorem r2_neB {i j : Bool} (q : Q (.bl (!decide (i = j)))) : R2D K rNe (.bl i) (.bl j) Q := fun F H v u s r1 r2 k z => by
  cases r1; cases r2
  have e : decide (V.bl i = V.bl j) = decide (i = j) := by rw [dec_bl, Bool.beq_eq_decide_eq]
  exact ⟨rfl, by rw [e]; exact z _ _ H (Same.refl _) (.bl _) q⟩
/-- None? -/
def isN : D → Bool
  | .non => true
  | _ => false
theorem isN_of {F : Hp} {v : V} {d : D} (r : Rp K F v d) : decide (v = .non) = isN d := by
  cases r <;> rfl
theorem r2_isN {x : D} (q : Q (.bl (isN x))) : R2D K (fun x y H Q => y = .non ∧ Q (.bl (decide (x = .non))) H) x .non Q := fun F H v u s r1 r2 k z => by
  cases r2
  exact ⟨rfl, by rw [isN_of r1]; exact z _ _ H (Same.refl _) (.bl _) q⟩
theorem r2_notN {x : D} (q : Q (.bl (!isN x))) : R2D K (fun x y H Q => y = .non ∧ Q (.bl (!decide (x = .non))) H) x .non Q := fun F H v u s r1 r2 k z => by
  cases r2
  exact ⟨rfl, by rw [isN_of r1]; exact z _ _ H (Same.refl _) (.bl _) q⟩

/-! ### data as the library has it -/
mutual
def toPy : D → PyData
  | .non => .none
  | .bl b => .bool b
  | .int i => .int i
  | .str s => .str s
  | .tup xs => .tuple (toPyL xs)
  | .lst xs => .list (toPyL xs)
  | .obj .. => .none
def toPyL : List D → List PyData
  | [] => []
  | x :: xs => toPy x :: toPyL xs
end
mutual
/-- no objects within -/
def pl : D → Bool
  | .tup xs => plL xs
  | .lst xs => plL xs
  | .obj .. => false
  | _ => true
def plL : List D → Bool
  | [] => true
  | x :: xs => pl x && plL xs
end
theorem toPyL_map : ∀ xs : List D, toPyL xs = xs.map toPy
  | [] => rfl
  | x :: xs => by rw [toPyL, toPyL_map xs]; rfl
theorem plL_all : ∀ xs : List D, plL xs = xs.all pl
  | [] => rfl
  | x :: xs => by rw [plL, plL_all xs]; rfl
mutual
theorem rp_dp {F : Hp} : ∀ (d : D) {v : V}, Rp K F v d → pl d = true → Dp K F v (toPy d)
  | .non, _, r, _ => by cases r; exact .non
  | .bl b, _, r, _ => by cases r; exact .bl b
  | .int i, _, r, _ => by cases r; exact .int i
  | .str x, _, r, _ => by cases r; exact .str x
  | .tup xs, _, r, h => by
    cases r with
    | tup e r =>
      have h' : plL xs = true := by simpa [pl] using h
      simp only [toPy]
      exact .tup (.inl (.inl e)) (rpl_dp xs r h')
  | .lst xs, _, r, h => by
    cases r with
    | lst e r =>
      have h' : plL xs = true := by simpa [pl] using h
      simp only [toPy]
      exact .lst (.inl (.inl e)) (rpl_dp xs r h')
  | .obj .., _, _, h => by simp [pl] at h
theorem rpl_dp {F : Hp} : ∀ (d : List D) {v : List V}, RpL K F v d → plL d = true → DpAll K F v (toPyL d)
  | [], _, r, _ => by cases r; simp only [toPyL]; exact .nil
  | x :: xs, _, r, h => by
    cases r with
    | cons r t =>
      have h' : pl x = true ∧ plL xs = true := by simpa [plL] using h
      simp only [toPyL]
      exact .cons (rp_dp x r h'.1) (rpl_dp xs t h'.2)
end
/-- data that may be compared -/
def cmpOk (d : D) : Bool := pl d && SeqAt.shaped (toPy d)
def eqvD (x y : D) : Bool := PyData.eqv (toPy x) (toPy y)
theorem r2_eqD {x y : D} (h1 : cmpOk x = true) (h2 : cmpOk y = true) (q : Q (.bl (eqvD x y))) : R2D K (rEqD K) x y Q := fun F H v u s r1 r2 k z => by
  have e1 := Bool.and_eq_true_iff.mp h1
  have e2 := Bool.and_eq_true_iff.mp h2
  exact ⟨_, _, rp_dp x (r1.mono s) e1.1, rp_dp y (r2.mono s) e2.1, e1.2, e2.2, z _ _ H (Same.refl _) (.bl _) q⟩
theorem r2_neD {x y : D} (h1 : cmpOk x = true) (h2 : cmpOk y = true) (q : Q (.bl (!eqvD x y))) : R2D K (rNeD K) x y Q := fun F H v u s r1 r2 k z => by
  have e1 := Bool.and_eq_true_iff.mp h1
  have e2 := Bool.and_eq_true_iff.mp h2
  exact ⟨_, _, rp_dp x (r1.mono s) e1.1, rp_dp y (r2.mono s) e2.1, e1.2, e2.2, z _ _ H (Same.refl _) (.bl _) q⟩

/-! ### texts -/
theorem r2_lts {i j : Str} (q : Q (.bl (decide (i.cps.toList < j.cps.toList)))) : R2D K (fun x y H Q => ∃ i j, x = .str i ∧ y = .str j ∧ Q (.bl (decide (i.cps.toList < j.cps.toList))) H) (.str i) (.str j) Q := fun F H v u s r1 r2 k z => by
  cases r1; cases r2
  exact ⟨i, j, rfl, rfl, z _ _ H (Same.refl _) (.bl _) q⟩
theorem r2_addS {i j : Str} (hl : i.length + j.length ≤ 1000000) (q : Q (.str (i ++ j))) : R2D K (fun x y H Q => ∃ i j, x = .str i ∧ y = .str j ∧ i.length + j.length ≤ sizeLine ∧ Q (.str (i ++ j)) H) (.str i) (.str j) Q := fun F H v u s r1 r2 k z => by
  cases r1; cases r2
  exact ⟨i, j, rfl, rfl, line_ok hl, z _ _ H (Same.refl _) (.str _) q⟩
theorem r2_inS {c : Nat} {x : Str} (q : Q (.bl (decide (c ∈ x.cps.toList)))) : R2D K (fun x y H Q => ∃ (c : Nat) (z : Str), x = .str ⟨#[c]⟩ ∧ y = .str z ∧ Q (.bl (decide (c ∈ z.cps.toList))) H) (.str ⟨#[c]⟩) (.str x) Q := fun F H v u s r1 r2 k z => by
  cases r1; cases r2
  exact ⟨c, x, rfl, rfl, z _ _ H (Same.refl _) (.bl _) q⟩
theorem r2_ninS {c : Nat} {x : Str} (q : Q (.bl (!decide (c ∈ x.cps.toList)))) : R2D K (fun x y H Q => ∃ (c : Nat) (z : Str), x = .str ⟨#[c]⟩ ∧ y = .str z ∧ Q (.bl (!decide (c ∈ z.cps.toList))) H) (.str ⟨#[c]⟩) (.str x) Q := fun F H v u s r1 r2 k z => by
  cases r1; cases r2
  exact ⟨c, x, rfl, rfl, z _ _ H (Same.refl _) (.bl _) q⟩

/-! ### lists and tuples -/
theorem r2_cat {xs ys : List D} {Q : List D → Prop} (hl : xs.length + ys.length ≤ 1000000) (q : Q (xs ++ ys)) : R2L K rCat (.lst xs) (.lst ys) Q := fun F H v u s r1 r2 k z => by
  cases r1 with
  | lst e1 r1 =>
    cases r2 with
    | lst e2 r2 =>
      exact ⟨_, _, _, _, rfl, rfl, s _ _ e1, s _ _ e2, line_ok (by rw [r1.length, r2.length]; exact hl), fun p hp => z p _ _ H (Same.refl _) hp (ext0L s (r1.append r2)) q⟩
theorem r2_catT {xs ys : List D} (hl : xs.length + ys.length ≤ 1000000) (q : Q (.tup (xs ++ ys))) : R2D K (rCatA K) (.tup xs) (.tup ys) Q := fun F H v u s r1 r2 k z => by
  cases r1 with
  | tup e1 r1 =>
    cases r2 with
    | tup e2 r2 =>
      rename_i a1 vs1 a2 vs2
      refine ⟨_, _, _, _, rfl, rfl, .inl (.inl (s _ _ e1)), .inl (.inl (s _ _ e2)), line_ok (by rw [r1.length, r2.length]; exact hl), fun h => ?_, fun h1 h => ?_, fun h1 h2 p hp => ?_⟩
      · subst h
        cases r1
        exact z _ _ H (Same.refl _) (ext0 s (.tup e2 r2)) q
      · subst h
        cases r2
        rw [List.append_nil] at q
        exact z _ _ H (Same.refl _) (ext0 s (.tup e1 r1)) q
      · have hf := s.free hp
        refine z _ _ _ (fun b o e => by rw [upd_ne (ne_of_none e hp)]; exact e) ?_ q
        rw [ext_upd hp hf s]
        exact .tup upd_same ((r1.append r2).mono (same_new hf))
theorem RpL.atI {F : Hp} {vs : List V} {ds : List D} {i : Int} {d : D} (r : RpL K F vs ds) (h : atI ds i = some d) : ∃ v, L2.atI vs i = some v ∧ Rp K F v d := by
  unfold L2.atI at h ⊢
  rw [r.length]
  cases e : ixN ds.length i with
  | none => rw [e] at h; cases h
  | some j =>
    rw [e] at h
    exact r.getD h
theorem r2_ixT {xs : List D} {i : Int} {d : D} (h : atI xs i = some d) (q : Q d) : R2D K (rIxT K) (.tup xs) (.int i) Q := fun F H v u s r1 r2 k z => by
  cases r1 with
  | tup e1 r1 =>
    cases r2
    obtain ⟨v, hv, rv⟩ := r1.atI h
    exact ⟨_, _, i, v, rfl, rfl, .inl (.inl (s _ _ e1)), hv, z _ _ H (Same.refl _) (ext0 s rv) q⟩
theorem r2_ixL {xs : List D} {i : Int} {d : D} (h : atI xs i = some d) (q : Q d) : R2D K (rIxL K) (.lst xs) (.int i) Q := fun F H v u s r1 r2 k z => by
  cases r1 with
  | lst e1 r1 =>
    cases r2
    obtain ⟨v, hv, rv⟩ := r1.atI h
    exact ⟨_, _, i, v, rfl, rfl, .inl (.inl (s _ _ e1)), hv, z _ _ H (Same.refl _) (ext0 s rv) q⟩
theorem r2_ixS {x : Str} {i : Int} {c : Nat} (hl : x.length ≤ 1000000) (h : atI x.cps.toList i = some c) (q : Q (.str ⟨#[c]⟩)) : R2D K rIxS (.str x) (.int i) Q := fun F H v u s r1 r2 k z => by
  cases r1
  cases r2
  exact ⟨x, i, c, rfl, rfl, line_ok hl, h, z _ _ H (Same.refl _) (.str _) q⟩
/-- in, over flat items -/
def flatD : D → Bool
  | .non => true
  | .bl _ => true
  | .int _ => true
  | .str _ => true
  | _ => false
def eqF : D → D → Bool
  | .non, .non => true
  | .bl a, .bl b => a == b
  | .bl a, .int b => (if a then 1 else 0) == b
  | .int a, .bl b => a == (if b then 1 else 0)
  | .int a, .int b => a == b
  | .str a, .str b => a == b
  | _, _ => false
def inD (x : D) (xs : List D) : Bool := xs.any fun y => eqF y x
theorem flat_of {F : Hp} {v : V} {d : D} (r : Rp K F v d) (h : flatD d = true) : flatV v = true := by
  cases r <;> first | rfl | cases h
theorem eqF_of {F : Hp} {v u : V} {d e : D} (r : Rp K F v d) (t : Rp K F u e) (h1 : flatD d = true) (h2 : flatD e = true) : eqV v u = eqF d e := by
  cases r <;> first | (exact Bool.noConfusion h1) | (cases t <;> first | (exact Bool.noConfusion h2) | rfl)
theorem all_flat {F : Hp} : ∀ {vs : List V} {ds : List D}, RpL K F vs ds → ds.all flatD = true → vs.all flatV = true
  | _, _, .nil, _ => rfl
  | _, _, .cons r t, h => by
    rw [List.all_cons, Bool.and_eq_true] at h ⊢
    exact ⟨flat_of r h.1, all_flat t h.2⟩
theorem any_eqF {F : Hp} {u : V} {e : D} (t : Rp K F u e) (h2 : flatD e = true) : ∀ {vs : List V} {ds : List D}, RpL K F vs ds → ds.all flatD = true → inV u vs = inD e ds
  | _, _, .nil, _ => rfl
  | _, _, .cons r rr, h => by
    rw [List.all_cons, Bool.and_eq_true] at h
    unfold inV inD at *
    rw [List.any_cons, List.any_cons, eqF_of r t h.1 h2]
    have := any_eqF t h2 rr h.2
    unfold inV inD at this
    rw [this]
theorem r2_inT {x : D} {xs : List D} {neg : Bool} (h1 : flatD x = true) (h2 : xs.all flatD = true) (q : Q (.bl (if neg then !inD x xs else inD x xs))) : R2D K (rIn K neg) x (.tup xs) Q := fun F H v u s r1 r2 k z => by
  cases r2 with
  | tup e2 r2 =>
    refine ⟨_, _, rfl, .inr (.inl (.inl (s _ _ e2))), flat_of r1 h1, all_flat r2 h2, ?_⟩
    rw [any_eqF r1 h1 r2 h2]
    exact z _ _ H (Same.refl _) (.bl _) q
theorem r2_inL {x : D} {xs : List D} {neg : Bool} (h1 : flatD x = true) (h2 : xs.all flatD = true) (q : Q (.bl (if neg then !inD x xs else inD x xs))) : R2D K (rIn K neg) x (.lst xs) Q := fun F H v u s r1 r2 k z => by
  cases r2 with
  | lst e2 r2 =>
    refine ⟨_, _, rfl, .inl (.inl (.inl (s _ _ e2))), flat_of r1 h1, all_flat r2 h2, ?_⟩
    rw [any_eqF r1 h1 r2 h2]
    exact z _ _ H (Same.refl _) (.bl _) q
theorem inD_strs {x : Str} : ∀ {xs : List Str}, inD (.str x) (xs.map .str) = decide (x ∈ xs)
  | [] => by rw [decide_eq_false (by simp)]; rfl
  | y :: ys => by
    have ih := inD_strs (x := x) (xs := ys)
    unfold inD at ih ⊢
    rw [List.map_cons, List.any_cons, ih]
    show (y == x || _) = _
    by_cases e : x = y
    · subst e
      rw [decide_eq_true (p := x ∈ x :: ys) (by simp)]
      simp
    · have : (y == x) = false := beq_eq_false_iff_ne.mpr (Ne.symm e)
      rw [this, Bool.false_or]
      congr 1
      simp [e]
theorem flat_strs (xs : List Str) : (xs.map D.str).all flatD = true := by
  rw [List.all_eq_true]
  intro x hx
  obtain ⟨s, _, rfl⟩ := List.mem_map.mp hx
  rfl

/-! ### built-ins -/
theorem rc_lenS {r : List V → Hp → VK → Prop} {xs : List D} (hr : r = fun xs H Q => ∃ p ys, xs = [.ref p] ∧ (SqL K H p ys ∨ SqT K H p ys) ∧ Q (.int ys.length) H) (q : Q (.int xs.length)) : RCD K r [.lst xs] Q := fun F H vs s r1 k z => by
  subst hr
  cases r1 with
  | cons r1 rr =>
    cases rr
    cases r1 with
    | lst e r =>
      refine ⟨_, _, rfl, .inl (.inl (.inl (s _ _ e))), ?_⟩
      rw [r.length]
      exact z _ _ H (Same.refl _) (.int _) q
theorem rc_lenT {r : List V → Hp → VK → Prop} {xs : List D} (hr : r = fun xs H Q => ∃ p ys, xs = [.ref p] ∧ (SqL K H p ys ∨ SqT K H p ys) ∧ Q (.int ys.length) H) (q : Q (.int xs.length)) : RCD K r [.tup xs] Q := fun F H vs s r1 k z => by
  subst hr
  cases r1 with
  | cons r1 rr =>
    cases rr
    cases r1 with
    | tup e r =>
      refine ⟨_, _, rfl, .inr (.inl (.inl (s _ _ e))), ?_⟩
      rw [r.length]
      exact z _ _ H (Same.refl _) (.int _) q
/-- len of anything that has one -/
def lenD : D → Option Nat
  | .str x => if x.length ≤ 1000000 then some x.length else none
  | .tup xs => some xs.length
  | .lst xs => some xs.length
  | _ => none
theorem rc_len {d : D} {n : Nat} (h : lenD d = some n) (q : Q (.int n)) : RCD K (fun xs H Q => ∃ x n, xs = [x] ∧ LenV K x H n ∧ Q (.int n) H) [d] Q := fun F H vs s r1 k z => by
  cases r1 with
  | cons r1 rr =>
    cases rr
    cases r1 with
    | tup e r =>
      cases h
      exact ⟨_, _, rfl, .inr ⟨_, .inl (.inl (s _ _ e)), r.length.symm⟩, z _ _ H (Same.refl _) (.int _) q⟩
    | lst e r =>
      cases h
      exact ⟨_, _, rfl, .inl ⟨_, .inl (.inl (s _ _ e)), r.length.symm⟩, z _ _ H (Same.refl _) (.int _) q⟩
    | str x =>
      change (if x.length ≤ 1000000 then some x.length else none) = some n at h
      split at h
      · cases h
        rename_i hx
        exact ⟨_, _, rfl, ⟨line_ok hx, rfl⟩, z _ _ H (Same.refl _) (.int _) q⟩
      · cases h
    | _ => cases h
theorem rc_all {bs : List Bool} (q : Q (.bl (bs.all id))) : RCD K (rAll K) [.lst (bs.map .bl)] Q := fun F H vs s r1 k z => by
  cases r1 with
  | cons r1 rr =>
    cases rr
    cases r1 with
    | lst e r =>
      have e2 := r.of_bls
      subst e2
      exact ⟨_, bs, rfl, .inl (.inl (s _ _ e)), z _ _ H (Same.refl _) (.bl _) q⟩
theorem rc_any {bs : List Bool} (q : Q (.bl (bs.any id))) : RCD K (rAny K) [.lst (bs.map .bl)] Q := fun F H vs s r1 k z => by
  cases r1 with
  | cons r1 rr =>
    cases rr
    cases r1 with
    | lst e r =>
      have e2 := r.of_bls
      subst e2
      exact ⟨_, bs, rfl, .inl (.inl (s _ _ e)), z _ _ H (Same.refl _) (.bl _) q⟩
theorem rc_sum {ns : List Int} (q : Q (.int ns.sum)) : RCD K (rSum K) [.lst (ns.map .int)] Q := fun F H vs s r1 k z => by
  cases r1 with
  | cons r1 rr =>
    cases rr
    cases r1 with
    | lst e r =>
      have e2 := r.of_ints
      subst e2
      exact ⟨_, ns, rfl, .inl (.inl (s _ _ e)), z _ _ H (Same.refl _) (.int _) q⟩
theorem rc_abs {i : Int} (q : Q (.int (if i < 0 then -i else i))) : RCD K (fun xs H Q => ∃ i, xs = [.int i] ∧ Q (.int (if i < 0 then -i else i)) H) [.int i] Q := fun F H vs s r1 k z => by
  cases r1 with
  | cons r1 rr =>
    cases rr
    cases r1
    exact ⟨i, rfl, z _ _ H (Same.refl _) (.int _) q⟩
theorem rc_int {i : Int} (q : Q (.int i)) : RCD K (fun xs H Q => (∃ i, xs = [.int i] ∧ Q (.int i) H) ∨ ∃ k, xs = [.bl k] ∧ Q (.int (if k then 1 else 0)) H) [.int i] Q := fun F H vs s r1 k z => by
  cases r1 with
  | cons r1 rr =>
    cases rr
    cases r1
    exact .inl ⟨i, rfl, z _ _ H (Same.refl _) (.int _) q⟩
theorem rc_intB {b : Bool} (q : Q (.int (if b then 1 else 0))) : RCD K (fun xs H Q => (∃ i, xs = [.int i] ∧ Q (.int i) H) ∨ ∃ k, xs = [.bl k] ∧ Q (.int (if k then 1 else 0)) H) [.bl b] Q := fun F H vs s r1 k z => by
  cases r1 with
  | cons r1 rr =>
    cases rr
    cases r1
    exact .inr ⟨b, rfl, z _ _ H (Same.refl _) (.int _) q⟩
theorem rc_intS {x : Str} {n : Int} (h : PySem.intText? x = some n) (hl : x.length ≤ 640) (q : Q (.int n)) : RCD K (fun xs H Q => ∃ a n, xs = [.str a] ∧ PySem.intText? a = some n ∧ a.length ≤ 640 ∧ Q (.int n) H) [.str x] Q := fun F H vs s r1 k z => by
  cases r1 with
  | cons r1 rr =>
    cases rr
    cases r1
    exact ⟨x, n, rfl, h, hl, z _ _ H (Same.refl _) (.int _) q⟩
theorem rc_strI {i : Int} (h : i.natAbs.log2 < 1920) (q : Q (.str (toString i))) : RCD K (fun xs H Q => ∃ i, xs = [.int i] ∧ i.natAbs.log2 < 1920 ∧ Q (.str (toString i)) H) [.int i] Q := fun F H vs s r1 k z => by
  cases r1 with
  | cons r1 rr =>
    cases rr
    cases r1
    exact ⟨i, rfl, h, z _ _ H (Same.refl _) (.str _) q⟩
theorem rc_min2 {i j : Int} (q : Q (.int (if j < i then j else i))) : RCD K (fun xs H Q => ∃ i j, xs = [.int i, .int j] ∧ Q (.int (if j < i then j else i)) H) [.int i, .int j] Q := fun F H vs s r1 k z => by
  cases r1 with
  | cons r1 rr =>
    cases rr with
    | cons r2 rr =>
      cases rr
      cases r1
      cases r2
      exact ⟨i, j, rfl, z _ _ H (Same.refl _) (.int _) q⟩
theorem rc_max2 {i j : Int} (q : Q (.int (if j > i then j else i))) : RCD K (fun xs H Q => ∃ i j, xs = [.int i, .int j] ∧ Q (.int (if j > i then j else i)) H) [.int i, .int j] Q := fun F H vs s r1 k z => by
  cases r1 with
  | cons r1 rr =>
    cases rr with
    | cons r2 rr =>
      cases rr
      cases r1
      cases r2
      exact ⟨i, j, rfl, z _ _ H (Same.refl _) (.int _) q⟩
theorem rc_tupL {xs : List D} (q : Q (.tup xs)) : RCD K (fun xs H Q => ∃ p ys, xs = [.ref p] ∧ ((SqL K H p ys ∧ ∀ l, H l = none → Q (.ref l) (upd H l (.tup ys))) ∨ (SqT K H p ys ∧ Q (.ref p) H))) [.lst xs] Q := fun F H vs s r1 k z => by
  cases r1 with
  | cons r1 rr =>
    cases rr
    cases r1 with
    | lst e r =>
      refine ⟨_, _, rfl, .inl ⟨.inl (.inl (s _ _ e)), fun p hp => ?_⟩⟩
      have hf := s.free hp
      refine z _ _ _ (fun b o e => by rw [upd_ne (ne_of_none e hp)]; exact e) ?_ q
      rw [ext_upd hp hf s]
      exact .tup upd_same (r.mono (same_new hf))
theorem rc_tupT {xs : List D} (q : Q (.tup xs)) : RCD K (fun xs H Q => ∃ p ys, xs = [.ref p] ∧ ((SqL K H p ys ∧ ∀ l, H l = none → Q (.ref l) (upd H l (.tup ys))) ∨ (SqT K H p ys ∧ Q (.ref p) H))) [.tup xs] Q := fun F H vs s r1 k z => by
  cases r1 with
  | cons r1 rr =>
    cases rr
    cases r1 with
    | tup e r => exact ⟨_, _, rfl, .inr ⟨.inl (.inl (s _ _ e)), z _ _ H (Same.refl _) (ext0 s (.tup e r)) q⟩⟩
/-- the items of a list or a tuple -/
def itemsD : D → Option (List D)
  | .tup xs => some xs
  | .lst xs => some xs
  | _ => none
theorem rc_list {d : D} {xs : List D} {Q : List D → Prop} (h : itemsD d = some xs) (q : Q xs) : RCL K (fun xs H Q => ∃ p ys, xs = [.ref p] ∧ (SqL K H p ys ∨ SqT K H p ys) ∧ ∀ l, H l = none → Q (.ref l) (upd H l (.lst ys))) [d] Q := fun F H vs s r1 k z => by
  cases r1 with
  | cons r1 rr =>
    cases rr
    cases r1 with
    | tup e r =>
      cases h
      exact ⟨_, _, rfl, .inr (.inl (.inl (s _ _ e))), fun l hl => z l _ _ H (Same.refl _) hl (ext0L s r) q⟩
    | lst e r =>
      cases h
      exact ⟨_, _, rfl, .inl (.inl (.inl (s _ _ e))), fun l hl => z l _ _ H (Same.refl _) hl (ext0L s r) q⟩
    | _ => cases h
theorem rc_sortS {xs : List Str} {Q : List D → Prop} (hl : xs.length < 64) (q : ∀ ys : List Str, ys.Perm xs → sortedS ys = true → Q (ys.map .str)) : RCL K (rSortedS K) [.lst (xs.map .str)] Q := fun F H vs s r1 k z => by
  cases r1 with
  | cons r1 rr =>
    cases rr
    cases r1 with
    | lst e r =>
      have e2 := r.of_strs
      subst e2
      exact ⟨_, xs, rfl, .inl (.inl (s _ _ e)), hl, fun ys p hp hs hn => z p _ _ H (Same.refl _) hn RpL.strs (q ys hp hs)⟩

/-! ### methods of texts -/
theorem rm_join {x : Str} {ys : List Str} (hl : (ys.map (·.length)).sum + ys.length * x.length ≤ 16777216) (q : Q (.str (Txt.join x ys))) :
    RMD K (fun x xs H Q => ∃ a p, ∃ ys : List Str, x = .str a ∧ xs = [.ref p] ∧ (SqL K H p (ys.map V.str) ∨ SqT K H p (ys.map V.str)) ∧ (ys.map (·.length)).sum + ys.length * a.length ≤ 16777216 ∧ Q (.str (Txt.join a ys)) H) (.str x) [.lst (ys.map .str)] Q := fun F H v vs s r0 r1 k z => by
  cases r0
  cases r1 with
  | cons r1 rr =>
    cases rr
    cases r1 with
    | lst e r =>
      have e2 := r.of_strs
      subst e2
      exact ⟨x, _, ys, rfl, rfl, .inl (.inl (.inl (s _ _ e))), hl, z _ _ H (Same.refl _) (.str _) q⟩
theorem rm_joinT {x : Str} {ys : List Str} (hl : (ys.map (·.length)).sum + ys.length * x.length ≤ 16777216) (q : Q (.str (Txt.join x ys))) :
    RMD K (fun x xs H Q => ∃ a p, ∃ ys : List Str, x = .str a ∧ xs = [.ref p] ∧ (SqL K H p (ys.map V.str) ∨ SqT K H p (ys.map V.str)) ∧ (ys.map (·.length)).sum + ys.length * a.length ≤ 16777216 ∧ Q (.str (Txt.join a ys)) H) (.str x) [.tup (ys.map .str)] Q := fun F H v vs s r0 r1 k z => by
  cases r0
  cases r1 with
  | cons r1 rr =>
    cases rr
    cases r1 with
    | tup e r =>
      have e2 := r.of_strs
      subst e2
      exact ⟨x, _, ys, rfl, rfl, .inr (.inl (.inl (s _ _ e))), hl, z _ _ H (Same.refl _) (.str _) q⟩
theorem rm_split {x b : Str} {Q : List D → Prop} (hb : (b.length == 0) = false) (hl : x.length + 2 ≤ 1000000) (q : Q ((Txt.split x b).map .str)) :
    RML K (fun x xs H Q => ∃ a b, x = .str a ∧ xs = [.str b] ∧ (b.length == 0) = false ∧ a.length + 2 ≤ sizeLine ∧ rNewStrs (Txt.split a b) H Q) (.str x) [.str b] Q := fun F H v vs s r0 r1 k z => by
  cases r0
  cases r1 with
  | cons r1 rr =>
    cases rr
    cases r1
    exact ⟨x, b, rfl, rfl, hb, line_ok hl, fun p hp => z p _ _ H (Same.refl _) hp RpL.strs q⟩

/-! ### slices -/
def cutD (xs : List D) (lo hi : Option Int) : List D := (xs.drop (HT.sIx xs.length 0 lo)).take (HT.sIx xs.length xs.length hi - HT.sIx xs.length 0 lo)
theorem RpL.cut {F : Hp} {vs : List V} {ds : List D} (r : RpL K F vs ds) (lo hi : Option Int) : RpL K F (cutV vs lo hi) (cutD ds lo hi) := by
  unfold cutV cutD
  rw [r.length]
  exact (r.drop _).take _
theorem rs_str {x : Str} {lo hi : Option Int} (hl : x.length ≤ 1000000) (q : Q (.str (cutS x lo hi))) : RSD K rSlS (.str x) lo hi Q := fun F H v s r k z => by
  cases r
  exact ⟨x, rfl, line_ok hl, z _ _ H (Same.refl _) (.str _) q⟩
theorem rs_list {xs : List D} {lo hi : Option Int} {Q : List D → Prop} (q : Q (cutD xs lo hi)) : RSL K (rSlL K) (.lst xs) lo hi Q := fun F H v s r k z => by
  cases r with
  | lst e r => exact ⟨_, _, rfl, .inl (.inl (s _ _ e)), fun p hp => z p _ _ H (Same.refl _) hp (ext0L s (r.cut lo hi)) q⟩
theorem rs_tup {xs : List D} {lo hi : Option Int} (q : Q (.tup (cutD xs lo hi))) : RSD K (rSlA K) (.tup xs) lo hi Q := fun F H v s r k z => by
  cases r with
  | tup e r =>
    refine ⟨_, _, rfl, .inl (.inl (s _ _ e)), fun h => ?_, fun h p hp => ?_⟩
    · have e2 : cutD xs lo hi = xs := by
        rw [r.length] at h
        unfold cutD
        rw [h.1, h.2]
        simp
      rw [e2] at q
      exact z _ _ H (Same.refl _) (ext0 s (.tup e r)) q
    · have hf := s.free hp
      refine z _ _ _ (fun b o e => by rw [upd_ne (ne_of_none e hp)]; exact e) ?_ q
      rw [ext_upd hp hf s]
      exact .tup upd_same ((r.cut lo hi).mono (same_new hf))
end

section
variable {w : Wd} {G : List Ent} {Q : D → Prop} {te ta tb : TE}
/-! ### truth -/
theorem tru_of {K : PySem.W.Frag} {F H : Hp} {v : V} {d : D} {b : Bool} (s : Same F H) (r : Rp K F v d) (h : truD d = some b) : TruV K v H b := by
  cases r with
  | non => cases h; rfl
  | bl b => cases h; rfl
  | int i => cases h; rfl
  | str x =>
    change (if x.length ≤ 1000000 then some (x.length != 0) else none) = some b at h
    split at h
    · cases h
      rename_i hx
      refine ⟨line_ok hx, ?_⟩
      rw [Bool.eq_iff_iff]
      simp
    · cases h
  | tup e r =>
    cases h
    refine .inr (.inl ⟨_, .inl (.inl (s _ _ e)), ?_⟩)
    cases r <;> rfl
  | lst e r =>
    cases h
    refine .inl ⟨_, .inl (.inl (s _ _ e)), ?_⟩
    cases r <;> rfl
  | obj => cases h
theorem wpt_tru {Q : Bool → Prop} (h : wp w te G fun x => ∃ b, truD x = some b ∧ Q b) : wpt w (fun σ H Q => te σ H fun x H' => ∃ k, TruV w.K x H' k ∧ Q k H') G Q := fun σ F H A k z =>
  h σ F H A _ fun v x F1 H1 s1 A1 r1 q => by
    obtain ⟨b, e, q⟩ := q
    exact ⟨b, tru_of A1.fh r1 e, z _ F1 H1 s1 A1 q⟩
theorem wp_orT (h : wp w ta G fun x => ∃ b, truD x = some b ∧ if b = true then Q x else wp w tb G Q) : wp w (tOrT w.K ta tb) G Q := fun σ F H A k z =>
  h σ F H A _ fun v x F1 H1 s1 A1 r1 q => by
    obtain ⟨b, e, q⟩ := q
    refine ⟨b, tru_of A1.fh r1 e, ?_⟩
    cases b with
    | true => exact iteT (z _ _ F1 H1 s1 A1 r1 q)
    | false => exact iteF (q σ F1 H1 A1 _ fun v b F2 H2 s2 A2 q2 => z v b F2 H2 (s1.trans s2) A2 q2)

/-! ### f-strings -/
def txtD : D → Option Str
  | .str x => if x.length ≤ 1000000 then some x else none
  | .int i => if i.natAbs.log2 < 1920 then some (Str.ofString (toString i)) else none
  | _ => none
theorem wp_fmt (h : wp w te G fun x => ∃ t, txtD x = some t ∧ Q (.str t)) : wp w (tFmt te) G Q := fun σ F H A k z =>
  h σ F H A _ fun v x F1 H1 s1 A1 r1 q => by
    obtain ⟨t, e, q⟩ := q
    cases r1 with
    | str y =>
      change (if y.length ≤ 1000000 then some y else none) = some t at e
      split at e
      · cases e
        rename_i hl
        exact .inl ⟨_, rfl, line_ok hl, z _ _ F1 H1 s1 A1 (.str _) q⟩
      · cases e
    | int i =>
      change (if i.natAbs.log2 < 1920 then some (Str.ofString (toString i)) else none) = some t at e
      split at e
      · cases e
        rename_i hl
        exact .inr ⟨i, rfl, hl, z _ _ F1 H1 s1 A1 (.str _) q⟩
      · cases e
    | _ => cases e
/-- the parts of an f-string -/
def wpj (w : Wd) : List TE → Str → List Ent → (Str → Prop) → Prop
  | [], acc, _, Q => Q acc
  | t :: ts, acc, G, Q => wp w t G fun x => ∃ y, x = .str y ∧ acc.length + y.length ≤ 1000000 ∧ wpj w ts (acc ++ y) G Q
theorem tJs_of : ∀ (ts : List TE) (acc : Str) {σ : L2.St} {F H : Hp} (A : As w G σ F H) {Q : Str → Prop} (h : wpj w ts acc G Q) {k : Str → Hp → Prop} (z : ∀ out F' H', Same F F' → As w G σ F' H' → Q out → k out H'), tJs ts acc σ H k
  | [], acc, σ, F, H, A, Q, h, k, z => z acc F H (Same.refl _) A h
  | t :: ts, acc, σ, F, H, A, Q, h, k, z => h σ F H A _ fun v x F1 H1 s1 A1 r1 q => by
    obtain ⟨y, rfl, hl, q⟩ := q
    cases r1
    refine ⟨y, rfl, line_ok ?_, tJs_of ts _ A1 q fun out F' H' s' A' q' => z out F' H' (s1.trans s') A' q'⟩
    show (acc.cps ++ y.cps).size ≤ 1000000
    rw [Array.size_append]
    exact hl
theorem wp_js {ts : List TE} (h : wpj w ts Str.empty G fun out => Q (.str out)) : wp w (fun σ H Q => tJs ts Str.empty σ H fun out H1 => Q (.str out) H1) G Q := fun σ F H A k z =>
  tJs_of ts _ A h fun out F' H' s' A' q' => z _ _ F' H' s' A' (.str _) q'
/-- f(*xs): the items -/
theorem wpa_star {Q : List D → Prop} {tr : TA} (h : wp w te G fun x => ∃ xs, itemsD x = some xs ∧ wpa w tr G fun ds => Q (xs ++ ds)) : wpa w (StX.tStar w.K te tr) G Q := fun σ F H A k z =>
  h σ F H A _ fun v x F1 H1 s1 A1 r1 q => by
    obtain ⟨xs, e, q⟩ := q
    cases r1 with
    | tup e1 r =>
      cases e
      exact ⟨_, _, rfl, .inl (.inl (.inl (A1.fh _ _ e1))), q σ F1 H1 A1 _ fun vs ds F2 H2 s2 A2 r2 q2 => z _ _ F2 H2 (s1.trans s2) A2 ((r.mono s2).append r2) q2⟩
    | lst e1 r =>
      cases e
      exact ⟨_, _, rfl, .inr (.inl (.inl (A1.fh _ _ e1))), q σ F1 H1 A1 _ fun vs ds F2 H2 s2 A2 r2 q2 => z _ _ F2 H2 (s1.trans s2) A2 ((r.mono s2).append r2) q2⟩
    | _ => cases e
end
end Sd
set_option Elab.async false
set_option linter.all false
set_option maxRecDepth 100000
set_option maxHeartbeats 4000000
/-! Sd3: statements, loops, comprehensions by data. -/
namespace Sd
open PySem PySem.Spec L2

/-- a block: what holds of the slots behind it, of the slots and the data where it returns -/
def wps (w : Wd) (ts : TS) (G : List Ent) (N : List Ent → Prop) (R : List Ent → D → Prop) : Prop := ∀ σ F H (E : Ends), As w G σ F H →
  (∀ G' σ' F' H', Same F F' → As w G' σ' F' H' → N G' → E.nx σ' H') → (∀ G' σ' v d F' H', Same F F' → As w G' σ' F' H' → Rp w.K F' v d → R G' d → E.rt v H') → ts E σ H
/-- slots but for some are as they were -/
def Off (ts : List Nat) (σ σ' : L2.St) : Prop := σ'.length = σ.length ∧ ∀ i, i ∉ ts → σ'[i]? = σ[i]?
/-- a target gets data -/
def wpg (w : Wd) (g : TG) (ts : List Nat) (d : D) (G : List Ent) (N : List Ent → Prop) : Prop := ∀ σ F H v, As w G σ F H → Rp w.K F v d → ∀ k : L2.St → Hp → Prop,
  (∀ G' σ' F' H', Same F F' → As w G' σ' F' H' → Off ts σ σ' → N G' → k σ' H') → g v σ H k
def wpgs (w : Wd) (g : TGs) (ts : List Nat) (ds : List D) (G : List Ent) (N : List Ent → Prop) : Prop := ∀ σ F H vs, As w G σ F H → RpL w.K F vs ds → ∀ k : L2.St → Hp → Prop,
  (∀ G' σ' F' H', Same F F' → As w G' σ' F' H' → Off ts σ σ' → N G' → k σ' H') → g vs σ H k
/-- J walks the data -/
def Wk (K : PySem.W.Frag) (J : It) (ds : List D) (F : Hp) : Prop := ∀ F2 H2, Same F F2 → Same F2 H2 → J.stop ds.length H2 ∧ ∀ i d, ds[i]? = some d → J.go i H2 ∧ ∀ x H3, J.yld i H2 x H3 → Same H2 H3 ∧ Rp K (ext F2 H2 H3) x d
def wpi (w : Wd) (wi : TI) (G : List Ent) (Q : List D → Prop) : Prop := ∀ σ F H, As w G σ F H → ∀ R : It → Hp → Prop, (∀ J ds F' H', Same F F' → As w G σ F' H' → Wk w.K J ds F' → Q ds → R J H') → wi σ H R
theorem Off.refl (ts : List Nat) (σ : L2.St) : Off ts σ σ := ⟨rfl, fun _ _ => rfl⟩
theorem Off.set {ts : List Nat} {σ : L2.St} {i : Nat} {x : Option V} (h : i ∈ ts) : Off ts σ (σ.set i x) := ⟨List.length_set, fun j hj => List.getElem?_set_ne (fun e => hj (by rw [← e]; exact h))⟩
theorem Off.trans {ts : List Nat} {σ σ1 σ2 : L2.St} (a : Off ts σ σ1) (b : Off ts σ1 σ2) : Off ts σ σ2 := ⟨b.1.trans a.1, fun i h => (b.2 i h).trans (a.2 i h)⟩
theorem wipe_in : ∀ {vs : List Nat} {σ : L2.St} {i : Nat}, i ∈ vs → i < σ.length → (wipe σ vs)[i]? = some none
  | [], _, _, h, _ => nomatch h
  | v :: vs, σ, i, h, hi => by
    unfold wipe
    by_cases e : v = i
    · subst e
      exact List.getElem?_set_self (by rw [wipe_length]; exact hi)
    · rw [List.getElem?_set_ne e]
      rcases List.mem_cons.mp h with z | z
      · exact absurd z.symm e
      · exact wipe_in z hi
theorem Off.wipe {ts vs : List Nat} {σ σ' : L2.St} (h : Off ts σ σ') (s : ∀ i ∈ ts, i ∈ vs) : wipe σ' vs = wipe σ vs := by
  refine List.ext_getElem? fun i => ?_
  by_cases hi : i ∈ vs
  · by_cases hl : i < σ.length
    · rw [wipe_in hi hl, wipe_in hi (by rw [h.1]; exact hl)]
    · rw [List.getElem?_eq_none (by rw [wipe_length, h.1]; omega), List.getElem?_eq_none (by rw [wipe_length]; omega)]
  · rw [wipe_out hi, wipe_out hi]
    exact h.2 i (fun z => hi (s i z))

section
variable {w : Wd} {G : List Ent} {N : List Ent → Prop} {R : List Ent → D → Prop} {te ta tb : TE} {tt : TT} {tas : TA} {t u : TS} {g : TG} {i j : Nat}
theorem wps.imp {N' : List Ent → Prop} {R' : List Ent → D → Prop} (h : wps w t G N R) (a : ∀ G, N G → N' G) (b : ∀ G d, R G d → R' G d) : wps w t G N' R' := fun σ F H E A n r =>
  h σ F H E A (fun G' σ' F' H' s A' z => n G' σ' F' H' s A' (a G' z)) fun G' σ' v d F' H' s A' rp z => r G' σ' v d F' H' s A' rp (b G' d z)
theorem wps_seq (h : wps w t G (fun G' => wps w u G' N R) R) : wps w (tSeq t u) G N R := fun σ F H E A n r =>
  h σ F H _ A (fun G1 σ1 F1 H1 s1 A1 h1 => h1 σ1 F1 H1 E A1 (fun G' σ' F' H' s A' => n G' σ' F' H' (s1.trans s) A') fun G' σ' v d F' H' s A' => r G' σ' v d F' H' (s1.trans s) A') r
theorem wps_next (h : N G) : wps w tNext G N R := fun σ F H E A n r => n G σ F H (Same.refl _) A h
theorem wps_ret (h : wp w te G fun d => R G d) : wps w (tRet te) G N R := fun σ F H E A n r => h σ F H A _ fun v d F' H' s A' rp q => r G σ v d F' H' s A' rp q
theorem wps_retN (h : R G .non) : wps w tRetN G N R := fun σ F H E A n r => r G σ .non .non F H (Same.refl _) A .non h
theorem wps_retO {xs : List D} (e : G[i]? = some (.l xs)) (h : R (G.set i (.d (.lst xs))) (.lst xs)) : wps w (tRet (tVar i)) G N R := fun σ F H E A n r => by
  obtain ⟨a, vs, h1, h2, h3, s, A'⟩ := A.freeze e
  exact ⟨_, h1, r _ σ _ _ _ H s A' (.lst upd_same (h3.mono s)) h⟩
theorem wps_if (h : wpt w tt G fun b => if b = true then wps w t G N R else wps w u G N R) : wps w (tIfS tt t u) G N R := fun σ F H E A n r =>
  h σ F H A _ fun b F1 H1 s1 A1 q => by
    cases b with
    | true => exact iteT (q σ F1 H1 E A1 (fun G' σ' F' H' s A' => n G' σ' F' H' (s1.trans s) A') fun G' σ' v d F' H' s A' => r G' σ' v d F' H' (s1.trans s) A')
    | false => exact iteF (q σ F1 H1 E A1 (fun G' σ' F' H' s A' => n G' σ' F' H' (s1.trans s) A') fun G' σ' v d F' H' s A' => r G' σ' v d F' H' (s1.trans s) A')
theorem wps_drop (h : wp w te G fun _ => N G) : wps w (tDrop te) G N R := fun σ F H E A n r => h σ F H A _ fun v d F' H' s A' rp q => n G σ F' H' s A' q
theorem wps_asg (h : wp w te G fun d => N (G.set i (.d d))) : wps w (tAsg te (gName i)) G N R := fun σ F H E A n r => h σ F H A _ fun v d F' H' s A' rp q => n _ _ F' H' s (A'.putD i rp) q
theorem wps_asgL (h : wpl w te G fun ds => N (G.set i (.l ds))) : wps w (tAsg te (gName i)) G N R := fun σ F H E A n r => h σ F H A _ fun a vs ds F' H' s A' hn rp q => n _ _ F' H' s (A'.putL i hn rp) q
theorem wps_asgG {ts : List Nat} (h : wp w te G fun d => wpg w g ts d G N) : wps w (tAsg te g) G N R := fun σ F H E A n r => h σ F H A _ fun v d F' H' s A' rp q =>
  q σ F' H' v A' rp _ fun G2 σ2 F2 H2 s2 A2 _ q2 => n G2 σ2 F2 H2 (s.trans s2) A2 q2
theorem wpg_name {ts : List Nat} {d : D} (m : i ∈ ts) (h : N (G.set i (.d d))) : wpg w (gName i) ts d G N := fun σ F H v A rp k z => z _ _ F H (Same.refl _) (A.putD i rp) (Off.set m) h
theorem wpg_tup {ts : List Nat} {d : D} {n : Nat} {gs : TGs} {ds : List D} (e : d = .tup ds) (hl : ds.length = n) (h : wpgs w gs ts ds G N) : wpg w (gTup w.K n gs) ts d G N := fun σ F H v A rp k z => by
  subst e
  cases rp with
  | tup e r => exact ⟨_, _, rfl, .inl (.inl (A.fh _ _ e)), r.length.trans hl, h σ F H _ A r k z⟩
theorem wpgs_nil {ts : List Nat} (h : N G) : wpgs w gNil ts [] G N := fun σ F H vs A rp k z => by
  cases rp
  exact ⟨rfl, z G σ F H (Same.refl _) A (Off.refl _ _) h⟩
theorem wpgs_cons {ts : List Nat} {gs : TGs} {d : D} {ds : List D} (h : wpg w g ts d G fun G' => wpgs w gs ts ds G' N) : wpgs w (gCons g gs) ts (d :: ds) G N := fun σ F H vs A rp k z => by
  cases rp with
  | cons r rr => exact ⟨_, _, rfl, h σ F H _ A r _ fun G1 σ1 F1 H1 s1 A1 o1 q => q σ1 F1 H1 _ A1 (rr.mono s1) k fun G2 σ2 F2 H2 s2 A2 o2 q2 => z G2 σ2 F2 H2 (s1.trans s2) A2 (o1.trans o2) q2⟩
theorem wps_aug {f : Int → Int → Int} {a : Int} (e : G[i]? = some (.d (.int a))) (h : wp w te G fun d => ∃ b, d = .int b ∧ N (G.set i (.d (.int (f a b))))) : wps w (tAug i te (ipI f)) G N R := fun σ F H E A n r => by
  obtain ⟨v, hv, rv⟩ := A.dat e
  cases rv
  refine ⟨_, hv, h σ F H A _ fun v d F' H' s A' rp q => ?_⟩
  obtain ⟨b, rfl, q⟩ := q
  cases rp
  exact ⟨a, b, rfl, rfl, n _ _ F' H' s (A'.putD i (.int _)) q⟩
theorem wps_par (h : wpa w tas G fun ds => ∃ x y, ds = [x, y] ∧ N ((G.set i (.d x)).set j (.d y))) : wps w (tPar i j tas) G N R := fun σ F H E A n r =>
  h σ F H A _ fun vs ds F' H' s A' rp q => by
    obtain ⟨x, y, rfl, q⟩ := q
    cases rp with
    | cons r1 rr =>
      cases rr with
      | cons r2 rr =>
        cases rr
        exact ⟨_, _, rfl, n _ _ F' H' s ((A'.putD i r1).putD j r2) q⟩
/-- a, b = data, a new list -/
theorem wps_parDL (h : wp w ta G fun d => wpl w tb G fun ds => N ((G.set i (.d d)).set j (.l ds))) : wps w (tPar i j (tCons ta (tCons tb tNil))) G N R := fun σ F H E A n r =>
  h σ F H A _ fun v d F1 H1 s1 A1 r1 h1 => h1 σ F1 H1 A1 _ fun a vs ds F2 H2 s2 A2 hn r2 q =>
    ⟨_, _, rfl, n _ _ F2 H2 (s1.trans s2) ((A2.putD i (r1.mono s2)).putL j hn r2) q⟩
/-- a, b = a new list, [] -/
theorem wps_parL0 (h : wpl w ta G fun ds => N ((G.set i (.l ds)).set j (.l []))) : wps w (tPar i j (tCons ta (tCons (tLst tNil) tNil))) G N R := fun σ F H E A n r =>
  h σ F H A _ fun a vs ds F1 H1 s1 A1 hn r1 q => ⟨Nat.zero_le _, fun p hp =>
    have A2 := (A1.putL i hn r1).pend (o := .lst []) hp
    ⟨_, _, rfl, n _ _ F1 _ s1 (A2.putL j ((A1.drop).fresh hp) .nil) q⟩⟩
theorem wps_append {xs : List D} (e : G[i]? = some (.l xs)) (h : wp w te G fun d => xs.length < 1000000 ∧ N (G.set i (.l (xs ++ [d])))) : wps w (tDrop (tBM w.K "list" rAppend (tVar i) (tCons te tNil))) G N R := fun σ F H E A n r => by
  obtain ⟨a, vs, h1, h2, h3, h4⟩ := A.lst e
  refine ⟨_, h1, .inl ⟨rfl, vs, .inl (.inl h2)⟩, h σ F H A _ fun v d F' H' s A' rp q => ?_⟩
  obtain ⟨a', vs', g1, g2, g3, g4⟩ := A'.lst e
  rw [h1] at g1
  cases g1
  exact ⟨a, vs', v, rfl, rfl, g2, line_lt (by rw [g3.length]; omega), n _ _ F' _ s (A'.mutL e h1 (g3.append (.one rp))) q.2⟩
theorem wps_extend {xs : List D} (e : G[i]? = some (.l xs)) (h : wp w te G fun d => ∃ ys, d = .lst ys ∧ xs.length + ys.length ≤ 1000000 ∧ N (G.set i (.l (xs ++ ys)))) : wps w (tDrop (tBM w.K "list" rExtend (tVar i) (tCons te tNil))) G N R := fun σ F H E A n r => by
  obtain ⟨a, vs, h1, h2, h3, h4⟩ := A.lst e
  refine ⟨_, h1, .inl ⟨rfl, vs, .inl (.inl h2)⟩, h σ F H A _ fun v d F' H' s A' rp q => ?_⟩
  obtain ⟨ys, rfl, hl, q⟩ := q
  cases rp with
  | lst eb rb =>
    obtain ⟨a', vs', g1, g2, g3, g4⟩ := A'.lst e
    rw [h1] at g1
    cases g1
    exact ⟨a, _, vs', _, rfl, rfl, g2, A'.fh _ _ eb, line_ok (by rw [g3.length, rb.length]; exact hl), n _ _ F' _ s (A'.mutL e h1 (g3.append rb)) q⟩
theorem wps_pop {xs : List D} {y : D} (e : G[i]? = some (.l (xs ++ [y]))) (h : N ((G.set i (.l xs)).set j (.d y))) : wps w (tAsg (tBM0 w.K "list" rPop (tVar i)) (gName j)) G N R := fun σ F H E A n r => by
  obtain ⟨a, vs, h1, h2, h3, h4⟩ := A.lst e
  have hl : vs.length = xs.length + 1 := by rw [h3.length]; simp
  obtain ⟨v, hv, rv⟩ := h3.getD (i := xs.length) (d := y) (by simp)
  have hd : RpL w.K F vs.dropLast xs := by
    have := h3.take xs.length
    rw [List.take_left] at this
    rw [List.dropLast_eq_take, hl]
    exact this
  exact ⟨_, h1, .inl ⟨rfl, vs, .inl (.inl h2)⟩, a, vs, v, rfl, rfl, h2, by rw [hl]; exact hv, n _ _ F _ (Same.refl _) ((A.mutL e h1 hd).putD j rv) h⟩
/-- a list of its own told as known from now on -/
theorem wps_know {xs : List D} (i : Nat) (e : G[i]? = some (.l xs)) (h : wps w t (G.set i (.d (.lst xs))) N R) : wps w t G N R := fun σ F H E A n r => by
  obtain ⟨a, vs, _, _, _, s, A'⟩ := A.freeze e
  exact h σ _ H E A' (fun G' σ' F' H' s' => n G' σ' F' H' (s.trans s')) fun G' σ' v d F' H' s' => r G' σ' v d F' H' (s.trans s')
theorem wps_forget (i : Nat) (h : wps w t (G.set i .no) N R) : wps w t G N R := fun σ F H E A n r => h σ F H E (A.forget i) n r

/-! ### what is walked -/
theorem wpi_tup {Q : List D → Prop} (h : wp w te G fun d => ∃ ds, d = .tup ds ∧ Q ds) : wpi w (iTup w.K te) G Q := fun σ F H A k z => h σ F H A _ fun v d F1 H1 s1 A1 r1 q => by
  obtain ⟨ds, rfl, q⟩ := q
  cases r1 with
  | tup e r =>
    rename_i a vs
    refine ⟨a, rfl, ⟨vs, .inl (.inl (A1.fh _ _ e))⟩, z _ ds F1 H1 s1 A1 (fun F2 H2 f2 h2 => ?_) q⟩
    have ea : SqT w.K H2 a vs := .inl (.inl (h2 _ _ (f2 _ _ e)))
    refine ⟨⟨vs, ea, by rw [r.length]; exact Nat.le_refl _⟩, fun i d hd => ?_⟩
    obtain ⟨x, hx, rx⟩ := r.getD hd
    refine ⟨⟨vs, x, ea, hx⟩, fun y H3 hy => ?_⟩
    obtain ⟨rfl, hy⟩ := hy
    have := hy vs ea
    rw [hx] at this
    cases this
    exact ⟨Same.refl _, ext0 h2 (rx.mono f2)⟩
theorem wpi_lst {Q : List D → Prop} (h : wp w te G fun d => ∃ ds, d = .lst ds ∧ Q ds) : wpi w (iList w.K te) G Q := fun σ F H A k z => h σ F H A _ fun v d F1 H1 s1 A1 r1 q => by
  obtain ⟨ds, rfl, q⟩ := q
  cases r1 with
  | lst e r =>
    rename_i a vs
    refine ⟨a, rfl, ⟨vs, .inl (.inl (A1.fh _ _ e))⟩, z _ ds F1 H1 s1 A1 (fun F2 H2 f2 h2 => ?_) q⟩
    have ea : SqL w.K H2 a vs := .inl (.inl (h2 _ _ (f2 _ _ e)))
    refine ⟨⟨vs, ea, by rw [r.length]; exact Nat.le_refl _⟩, fun i d hd => ?_⟩
    obtain ⟨x, hx, rx⟩ := r.getD hd
    refine ⟨⟨vs, x, ea, hx⟩, fun y H3 hy => ?_⟩
    obtain ⟨rfl, hy⟩ := hy
    have := hy vs ea
    rw [hx] at this
    cases this
    exact ⟨Same.refl _, ext0 h2 (rx.mono f2)⟩
/-- a list or a tuple -/
theorem pi_seq {X : Cx} {tg l : Expr} {tl : TE} (hl : PE X l tl) : PI X tg l (fun σ H R => iList X.K tl σ H R ∨ iTup X.K tl σ H R) := by
  refine ⟨fun pins s σ H R I h => ?_⟩
  rcases h with h | h
  · exact (pi_list hl).run pins s σ H R I h
  · exact (pi_tup hl).run pins s σ H R I h
theorem wpi_str {Q : List D → Prop} (h : wp w te G fun d => ∃ x, d = .str x ∧ Q (x.cps.toList.map fun c => .str ⟨#[c]⟩)) : wpi w (iStr te) G Q := fun σ F H A k z => h σ F H A _ fun v d F1 H1 s1 A1 r1 q => by
  obtain ⟨x, rfl, q⟩ := q
  cases r1
  refine ⟨x, rfl, z _ _ F1 H1 s1 A1 (fun F2 H2 f2 h2 => ?_) q⟩
  refine ⟨by show x.cps.size ≤ _; simp, fun i d hd => ?_⟩
  rw [List.getElem?_map] at hd
  cases e : x.cps.toList[i]? with
  | none => rw [e] at hd; cases hd
  | some c =>
    rw [e] at hd
    cases hd
    have hi : i < x.cps.size := by simpa using (List.getElem?_eq_some_iff.mp e).1
    refine ⟨hi, fun y H3 hy => ?_⟩
    obtain ⟨rfl, c', h1, rfl⟩ := hy
    have : c' = c := by
      rw [Array.getElem?_toList] at e
      rw [h1] at e
      exact Option.some.inj e
    subst this
    exact ⟨Same.refl _, .str _⟩
theorem wpi_rng {Q : List D → Prop} (h : wpa w tas G fun ds => ∃ n : Int, ds = [.int n] ∧ (-1000000 ≤ n ∧ n ≤ 1000000) ∧ Q ((List.range n.toNat).map fun i => .int (i : Nat))) : wpi w (iRng1 tas) G Q := fun σ F H A k z => h σ F H A _ fun vs ds F1 H1 s1 A1 r1 q => by
  obtain ⟨n, rfl, hn, q⟩ := q
  cases r1 with
  | cons r1 rr =>
    cases rr
    cases r1
    refine ⟨n, rfl, by omega, by omega, z _ _ F1 H1 s1 A1 (fun F2 H2 f2 h2 => ?_) q⟩
    refine ⟨by show n.toNat ≤ _; simp, fun i d hd => ?_⟩
    have hi : i < n.toNat := by
      have := (List.getElem?_eq_some_iff.mp hd).1
      simpa using this
    rw [List.getElem?_map, List.getElem?_range hi] at hd
    cases hd
    refine ⟨hi, fun y H3 hy => ?_⟩
    obtain ⟨rfl, rfl⟩ := hy
    rw [Int.zero_add]
    exact ⟨Same.refl _, .int _⟩
theorem wpi_rng2 {Q : List D → Prop} (h : wpa w tas G fun ds => ∃ a n : Int, ds = [.int a, .int n] ∧ (-1000000 ≤ a ∧ a ≤ 1000000 ∧ -1000000 ≤ n ∧ n ≤ 1000000) ∧ Q ((List.range (n - a).toNat).map fun i => .int (a + (i : Nat)))) : wpi w (iRng2 tas) G Q := fun σ F H A k z => h σ F H A _ fun vs ds F1 H1 s1 A1 r1 q => by
  obtain ⟨a, n, rfl, hn, q⟩ := q
  cases r1 with
  | cons r1 rr =>
    cases rr with
    | cons r2 rr =>
      cases rr
      cases r1
      cases r2
      refine ⟨a, n, rfl, ⟨by omega, by omega, by omega, by omega⟩, z _ _ F1 H1 s1 A1 (fun F2 H2 f2 h2 => ?_) q⟩
      refine ⟨by show (n - a).toNat ≤ _; simp, fun i d hd => ?_⟩
      have hi : i < (n - a).toNat := by
        have := (List.getElem?_eq_some_iff.mp hd).1
        simpa using this
      rw [List.getElem?_map, List.getElem?_range hi] at hd
      cases hd
      refine ⟨hi, fun y H3 hy => ?_⟩
      obtain ⟨rfl, rfl⟩ := hy
      exact ⟨Same.refl _, .int _⟩
theorem new_tup {K : PySem.W.Frag} {F H : Hp} {T : Addr} {vs : List V} {ds : List D} (fh : Same F H) (hn : H T = none) (r : RpL K F vs ds) : Same H (upd H T (.tup vs)) ∧ Rp K (ext F H (upd H T (.tup vs))) (.ref T) (.tup ds) := by
  have hf := fh.free hn
  refine ⟨same_new hn, ?_⟩
  rw [ext_upd hn hf fh]
  exact .tup upd_same (r.mono (same_new hf))
theorem wpi_enum {Q : List D → Prop} (h : wpa w tas G fun ds => ∃ xs, ds = [.lst xs] ∧ Q ((List.range xs.length).map fun i => .tup [.int (i : Nat), xs.getD i .non])) : wpi w (iEnum w.K tas) G Q := fun σ F H A k z => h σ F H A _ fun vs ds F1 H1 s1 A1 r1 q => by
  obtain ⟨xs, rfl, q⟩ := q
  cases r1 with
  | cons r1 rr =>
    cases rr
    cases r1 with
    | lst e r =>
      rename_i a vs
      refine ⟨a, vs, rfl, .inl (.inl (A1.fh _ _ e)), z _ _ F1 H1 s1 A1 (fun F2 H2 f2 h2 => ?_) q⟩
      have ea : SqL w.K H2 a vs := .inl (.inl (h2 _ _ (f2 _ _ e)))
      refine ⟨⟨vs, ea, by rw [r.length]; simp⟩, fun i d hd => ?_⟩
      have hi : i < xs.length := by
        have := (List.getElem?_eq_some_iff.mp hd).1
        simpa using this
      rw [List.getElem?_map, List.getElem?_range hi] at hd
      cases hd
      have hx : xs[i]? = some (xs.getD i .non) := by rw [List.getD_eq_getElem?_getD, List.getElem?_eq_getElem hi]; rfl
      obtain ⟨x, h1, rx⟩ := r.getD hx
      refine ⟨⟨vs, x, ea, h1⟩, fun y H3 hy => ?_⟩
      obtain ⟨T, x', rfl, hn, rfl, hx'⟩ := hy
      have := hx' vs ea
      rw [h1] at this
      cases this
      exact new_tup h2 hn (.cons (.int _) (.one (rx.mono f2)))
theorem wpi_zipL {Q : List D → Prop} (h : wpa w tas G fun ds => ∃ xs ys, ds = [.lst xs, .lst ys] ∧ Q ((List.range (min xs.length ys.length)).map fun i => .tup [xs.getD i .non, ys.getD i .non])) : wpi w (RZ.iZipA w.K tas) G Q := fun σ F H A k z => h σ F H A _ fun vs ds F1 H1 s1 A1 r1 q => by
  obtain ⟨xs, ys, rfl, q⟩ := q
  cases r1 with
  | cons r1 rr =>
    cases rr with
    | cons r2 rr =>
      cases rr
      cases r1 with
      | lst e r =>
        cases r2 with
        | lst e2 r2 =>
          rename_i a vs b us
          refine ⟨a, b, vs, us, rfl, .inl ⟨.inl (.inl (A1.fh _ _ e)), .inl (.inl (A1.fh _ _ e2)), z _ _ F1 H1 s1 A1 (fun F2 H2 f2 h2 => ?_) q⟩⟩
          have ea : SqL w.K H2 a vs := .inl (.inl (h2 _ _ (f2 _ _ e)))
          have eb : SqL w.K H2 b us := .inl (.inl (h2 _ _ (f2 _ _ e2)))
          refine ⟨⟨vs, us, ea, eb, by rw [r.length, r2.length]; simp; omega⟩, fun i d hd => ?_⟩
          have hi : i < min xs.length ys.length := by
            have := (List.getElem?_eq_some_iff.mp hd).1
            simpa using this
          rw [List.getElem?_map, List.getElem?_range hi] at hd
          cases hd
          have hx : xs[i]? = some (xs.getD i .non) := by rw [List.getD_eq_getElem?_getD, List.getElem?_eq_getElem (by omega)]; rfl
          have hy : ys[i]? = some (ys.getD i .non) := by rw [List.getD_eq_getElem?_getD, List.getElem?_eq_getElem (by omega)]; rfl
          obtain ⟨x, h1, rx⟩ := r.getD hx
          obtain ⟨u, h3, ru⟩ := r2.getD hy
          refine ⟨⟨vs, us, x, u, ea, eb, h1, h3⟩, fun y H3 hy => ?_⟩
          obtain ⟨T, x', u', rfl, hn, rfl, hx', hu'⟩ := hy
          have q1 := hx' vs ea
          have q2 := hu' us eb
          rw [h1] at q1
          rw [h3] at q2
          cases q1
          cases q2
          exact new_tup h2 hn (.cons (rx.mono f2) (.one (ru.mono f2)))
theorem wpi_zipT {Q : List D → Prop} (h : wpa w tas G fun ds => ∃ xs ys, ds = [.tup xs, .tup ys] ∧ Q ((List.range (min xs.length ys.length)).map fun i => .tup [xs.getD i .non, ys.getD i .non])) : wpi w (RZ.iZipA w.K tas) G Q := fun σ F H A k z => h σ F H A _ fun vs ds F1 H1 s1 A1 r1 q => by
  obtain ⟨xs, ys, rfl, q⟩ := q
  cases r1 with
  | cons r1 rr =>
    cases rr with
    | cons r2 rr =>
      cases rr
      cases r1 with
      | tup e r =>
        cases r2 with
        | tup e2 r2 =>
          rename_i a vs b us
          refine ⟨a, b, vs, us, rfl, .inr ⟨.inl (.inl (A1.fh _ _ e)), .inl (.inl (A1.fh _ _ e2)), z _ _ F1 H1 s1 A1 (fun F2 H2 f2 h2 => ?_) q⟩⟩
          have ea : SqT w.K H2 a vs := .inl (.inl (h2 _ _ (f2 _ _ e)))
          have eb : SqT w.K H2 b us := .inl (.inl (h2 _ _ (f2 _ _ e2)))
          refine ⟨⟨vs, us, ea, eb, by rw [r.length, r2.length]; simp; omega⟩, fun i d hd => ?_⟩
          have hi : i < min xs.length ys.length := by
            have := (List.getElem?_eq_some_iff.mp hd).1
            simpa using this
          rw [List.getElem?_map, List.getElem?_range hi] at hd
          cases hd
          have hx : xs[i]? = some (xs.getD i .non) := by rw [List.getD_eq_getElem?_getD, List.getElem?_eq_getElem (by omega)]; rfl
          have hy : ys[i]? = some (ys.getD i .non) := by rw [List.getD_eq_getElem?_getD, List.getElem?_eq_getElem (by omega)]; rfl
          obtain ⟨x, h1, rx⟩ := r.getD hx
          obtain ⟨u, h3, ru⟩ := r2.getD hy
          refine ⟨⟨vs, us, x, u, ea, eb, h1, h3⟩, fun y H3 hy => ?_⟩
          obtain ⟨T, x', u', rfl, hn, rfl, hx', hu'⟩ := hy
          have q1 := hx' vs ea
          have q2 := hu' us eb
          rw [h1] at q1
          rw [h3] at q2
          cases q1
          cases q2
          exact new_tup h2 hn (.cons (rx.mono f2) (.one (ru.mono f2)))

/-! ### loops -/
/-- for: an invariant over the turn and the slots -/
theorem wps_for {wi : TI} {ts : List Nat} (h : wpi w wi G fun ds => ∃ I : Nat → List Ent → Prop, I 0 G ∧ (∀ i d G', ds[i]? = some d → I i G' → wpg w g ts d G' fun G2 => wps w u G2 (I (i + 1)) R) ∧ ∀ G', I ds.length G' → N G') :
    wps w (tFor wi g u) G N R := fun σ F H E A n r => h σ F H A _ fun J ds F1 H1 s1 A1 wk q => by
  obtain ⟨I, i0, turn, fin⟩ := q
  refine ⟨fun i m σ2 H2 => m = ds.length - i ∧ i ≤ ds.length ∧ ∃ G2 F2, Same F1 F2 ∧ As w G2 σ2 F2 H2 ∧ I i G2, ⟨ds.length, rfl, Nat.zero_le _, G, F1, Same.refl _, A1, i0⟩, ?_⟩
  rintro i m σ2 H2 ⟨rfl, hi, G2, F2, s2, A2, iv⟩
  obtain ⟨stop, go⟩ := wk F2 H2 s2 A2.fh
  by_cases hlt : i < ds.length
  · obtain ⟨g1, g2⟩ := go i ds[i] (List.getElem?_eq_getElem hlt)
    refine .inr ⟨g1, fun σ' H' => ∃ G2 F2, Same F1 F2 ∧ As w G2 σ' F2 H' ∧ I (i + 1) G2, fun σ' H' hn => ⟨_, by omega, rfl, hlt, hn⟩, fun x H3 hy => ?_⟩
    obtain ⟨s3, rx⟩ := g2 x H3 hy
    refine turn i ds[i] G2 (List.getElem?_eq_getElem hlt) iv σ2 _ H3 x (A2.step s3) rx _ fun G4 σ4 F4 H4 s4 A4 _ q4 => ?_
    exact q4 σ4 F4 H4 _ A4 (fun G5 σ5 F5 H5 s5 A5 q5 => ⟨G5, F5, ((s2.trans A2.same).trans s4).trans s5, A5, q5⟩)
      fun G5 σ5 v d F5 H5 s5 A5 r5 q5 => r G5 σ5 v d F5 H5 (s1.trans (((s2.trans A2.same).trans s4).trans s5)) A5 r5 q5
  · have e : i = ds.length := by omega
    subst e
    exact .inl ⟨stop, n G2 σ2 F2 H2 (s1.trans s2) A2 (fin G2 iv)⟩
/-- while: an invariant over a number that falls and the slots -/
theorem wps_while (I : Nat → List Ent → Prop) (m0 : Nat) (i0 : I m0 G) (turn : ∀ m G', I m G' → wpt w tt G' fun b => if b = true then wps w u G' (fun G2 => ∃ m', m' < m ∧ I m' G2) R else N G') : wps w (tWhile tt u) G N R := fun σ F H E A n r => by
  refine ⟨fun m σ2 H2 => ∃ G2 F2, Same F F2 ∧ As w G2 σ2 F2 H2 ∧ I m G2, ⟨m0, G, F, Same.refl _, A, i0⟩, ?_⟩
  rintro m σ2 H2 ⟨G2, F2, s2, A2, iv⟩
  refine turn m G2 iv σ2 F2 H2 A2 _ fun b F3 H3 s3 A3 q => ?_
  cases b with
  | true =>
    refine iteT ⟨fun σ' H' => ∃ m', m' < m ∧ ∃ G2 F2, Same F F2 ∧ As w G2 σ' F2 H' ∧ I m' G2, fun _ _ z => z, ?_⟩
    exact q σ2 F3 H3 _ A3 (fun G5 σ5 F5 H5 s5 A5 ⟨m', hm, q5⟩ => ⟨m', hm, G5, F5, (s2.trans s3).trans s5, A5, q5⟩) fun G5 σ5 v d F5 H5 s5 A5 r5 q5 => r G5 σ5 v d F5 H5 ((s2.trans s3).trans s5) A5 r5 q5
  | false => exact iteF (n G2 σ2 F3 H3 (s2.trans s3) A3 q)

/-! ### comprehensions -/
theorem As.wipe {vs : List Nat} {σ : L2.St} {F H : Hp} (A : As w G σ F H) (hv : ∀ i ∈ vs, G[i]? = some Ent.no) : As w G (wipe σ vs) F H := A.slots (wipe_length _ _) fun i => by
  by_cases h : i ∈ vs
  · exact .inl (hv i h)
  · exact .inr (wipe_out h)
theorem As.unwipe {vs : List Nat} {σ σ' : L2.St} {F H : Hp} (A : As w G (L2.wipe σ vs) F H) (hv : ∀ i ∈ vs, G[i]? = some Ent.no) (hl : σ'.length = σ.length) (ho : ∀ i, i ∉ vs → σ'[i]? = σ[i]?) : As w G σ' F H := A.slots (by rw [wipe_length]; exact hl) fun i => by
  by_cases h : i ∈ vs
  · exact .inl (hv i h)
  · exact .inr (by rw [wipe_out h]; exact ho i h)
/-- [e for x in ..]: an invariant over the turn and what is made so far -/
theorem wpl_lc {wi : TI} {vs : List Nat} {Q : List D → Prop} (hv : vs.all (fun i => match G[i]? with | some .no => true | _ => false) = true)
    (h : wpi w wi G fun ds => ds.length ≤ 1000000 ∧ ∃ I : Nat → List D → Prop, I 0 [] ∧ (∀ i d acc a o, ds[i]? = some d → I i acc → wpg (w.push a o) g vs d G fun G2 => (∀ j, j ∉ vs → G2[j]? = G[j]?) ∧ G2.length = G.length ∧ wpt (w.push a o) tt G2 fun b =>
      if b = true then wp (w.push a o) te G2 fun y => I (i + 1) (acc ++ [y]) else I (i + 1) acc) ∧ ∀ acc, I ds.length acc → Q acc) :
    wpl w (tLc wi g tt te vs) G Q := fun σ F H A k z => h σ F H A _ fun J ds F1 H1 s1 A1 wk q => by
  have hv' : ∀ i ∈ vs, G[i]? = some Ent.no := fun i hi => by
    have := List.all_eq_true.mp hv i hi
    split at this
    · assumption
    · cases this
  obtain ⟨hlen, I, i0, turn, fin⟩ := q
  intro Da hD
  have fr := A1.fresh hD
  refine ⟨fun i m H2 => m = ds.length - i ∧ i ≤ ds.length ∧ ∃ F2 us acc, Same F1 F2 ∧ As (w.push Da (.lst us)) G (wipe σ vs) F2 H2 ∧ RpL w.K F2 us acc ∧ acc.length ≤ i ∧ I i acc,
    ⟨ds.length, rfl, Nat.zero_le _, F1, [], [], Same.refl _, (A1.wipe hv').pend hD, .nil, Nat.le_refl _, i0⟩, ?_⟩
  rintro i m H2 ⟨rfl, hi, F2, us, acc, s2, A2, ra, la, iv⟩
  obtain ⟨stop, go⟩ := wk F2 H2 s2 A2.fh
  by_cases hlt : i < ds.length
  · obtain ⟨g1, g2⟩ := go i ds[i] (List.getElem?_eq_getElem hlt)
    refine .inr ⟨g1, fun H' => ∃ F2 us acc, Same F1 F2 ∧ As (w.push Da (.lst us)) G (wipe σ vs) F2 H' ∧ RpL w.K F2 us acc ∧ acc.length ≤ i + 1 ∧ I (i + 1) acc, fun H' hn => ⟨_, by omega, rfl, hlt, hn⟩, fun x H3 hy => ?_⟩
    obtain ⟨s3, rx⟩ := g2 x H3 hy
    refine turn i ds[i] acc Da (.lst us) (List.getElem?_eq_getElem hlt) iv (wipe σ vs) _ H3 x (A2.step s3) rx _ fun G4 σ4 F4 H4 s4 A4 o4 q4 => ?_
    obtain ⟨gk, gl, q4⟩ := q4
    have back : ∀ {w' : Wd} {F' H' : Hp}, As w' G4 σ4 F' H' → As w' G (wipe σ vs) F' H' := fun {w' F' H'} B => by
      obtain ⟨q0, O⟩ := B.get
      refine .mk' (q := fun j => if j ∈ vs then [] else q0 j) (by rw [wipe_length, ← gl, ← B.len, o4.1, wipe_length]) B.base ⟨fun j e he => ?_, fun j b hj hb => ?_, fun j m b hj hm hb hc => ?_, fun j b hj hb => ?_⟩
      · show EntOk _ _ _ _ _ (if j ∈ vs then [] else q0 j)
        by_cases hjv : j ∈ vs
        · rw [hv' j hjv] at he
          cases he
          rw [if_pos hjv]
          rfl
        · rw [if_neg hjv, ← o4.2 j hjv]
          exact O.ok j e (by rw [gk j hjv]; exact he)
      · split at hb
        · cases hb
        · exact O.at_ j b (by rw [gl]; exact hj) hb
      · split at hb
        · cases hb
        · split at hc
          · cases hc
          · exact O.dis j m b (by rw [gl]; exact hj) (by rw [gl]; exact hm) hb hc
      · split at hb
        · cases hb
        · exact O.pd j b (by rw [gl]; exact hj) hb
    refine ⟨(Off.wipe o4 fun _ h => h).trans (by
      refine List.ext_getElem? fun j => ?_
      by_cases hj : j ∈ vs
      · by_cases hl : j < σ.length
        · rw [wipe_in hj (by rw [wipe_length]; exact hl), wipe_in hj hl]
        · rw [List.getElem?_eq_none (by rw [wipe_length, wipe_length]; omega), List.getElem?_eq_none (by rw [wipe_length]; omega)]
      · rw [wipe_out hj]), ?_⟩
    refine q4 σ4 F4 H4 A4 _ fun b F5 H5 s5 A5 q5 => ?_
    cases b with
    | true =>
      refine iteT (q5 σ4 F5 H5 A5 _ fun y d F6 H6 s6 A6 r6 q6 => ?_)
      have t6 : Same F2 F6 := ((A2.same.trans s4).trans s5).trans s6
      obtain ⟨f7, h7, _, _⟩ := A6.top
      refine ⟨us, h7, line_lt (by rw [ra.length]; omega), F6, us ++ [y], acc ++ [d], s2.trans t6, (back A6).repend fr, (ra.mono t6).append (.one r6), by simp; omega, q6⟩
    | false =>
      have t5 : Same F2 F5 := (A2.same.trans s4).trans s5
      exact iteF ⟨F5, us, acc, s2.trans t5, back A5, ra.mono t5, by omega, q5⟩
  · have e : i = ds.length := by omega
    subst e
    exact .inl ⟨stop, z Da us acc F2 H2 (s1.trans s2) (A2.unwipe hv' rfl fun _ _ => rfl) fr ra (fin acc iv)⟩
/-- [f(x) for x in ..], no test -/
theorem wpt_yes {Q : Bool → Prop} (h : Q true) : wpt w tYes G Q := fun σ F H A k z => z true F H (Same.refl _) A h
end
end Sd
set_option Elab.async false
set_option linter.all false
set_option maxRecDepth 100000
set_option maxHeartbeats 4000000
/-! Sd4: defs and their promises by data, instances. -/
namespace Sd
open PySem PySem.Spec L2

/-- a def that changes nothing that stands: by data -/
def spP (K : PySem.W.Frag) (pre : List D → Prop) (post : List D → D → Prop) : Sp := fun vs H Q _ => ∃ F ds, Same F H ∧ RpL K F vs ds ∧ pre ds ∧ ∀ v d H', Same H H' → Rp K (ext F H H') v d → post ds d → Q v H'
/-- a def whose first argument is the source of draws -/
def spR (K : PySem.W.Frag) (pre : List D → Prop) (post : List D → D → Prop) : Sp := fun vs H Q _ => ∃ p c ws F ds, vs = .ref p :: ws ∧ Same F H ∧ F p = none ∧ F c = none ∧ Dr H p c ∧ RpL K F ws ds ∧ pre ds ∧
  ∀ v d H', (∀ b o, b ≠ p → b ≠ c → H b = some o → H' b = some o) → Dr H' p c → Rp K (ext F H H') v d → post ds d → Q v H'
/-- a def whose first argument is a thing of its own, in the state s -/
def spO {S : Type} (K : PySem.W.Frag) (own : Addr → S → OwnP) (pre : S → List D → Prop) (post : S → List D → D → S → Prop) : Sp := fun vs H Q _ => ∃ a ws F ds s qs, vs = .ref a :: ws ∧ Same F H ∧ (∀ a, a ∈ qs → F a = none ∧ H a ≠ none) ∧ (own a s).ok F H (.ref a) qs ∧ RpL K F ws ds ∧ pre s ds ∧
  ∀ r d s' H' qs', (∀ b u, b ∉ qs → H b = some u → H' b = some u) → (∀ b, b ∈ qs → H' b ≠ none) → (∀ a, a ∈ qs' → (a ∈ qs ∨ H a = none) ∧ H' a ≠ none) → (own a s').ok (extBut F H H' qs') H' (.ref a) qs' → Rp K (extBut F H H' qs') r d → post s ds d s' → Q r H'

section
variable {w : Wd} {G : List Ent} {Q : D → Prop} {te : TE} {tas : TA} {E : XK} {pre : List D → Prop} {post : List D → D → Prop}
/-! ### calls -/
theorem wp_callP (h : wpa w tas G fun ds => pre ds ∧ ∀ d, post ds d → Q d) : wp w (tCall (spP w.K pre post) [] E tas) G Q := fun σ F H A k z =>
  h σ F H A _ fun vs ds F1 H1 s1 A1 r1 q => ⟨F1, ds, A1.fh, by rw [List.append_nil]; exact r1, q.1, fun v d H' s r p => z v d _ H' (s1.trans A1.same) (A1.step s) r (q.2 d p)⟩
/-- a call with keywords: how the data go to the parameters -/
theorem wp_callK {tk : TA} {gV : List V → List V → List V} (gD : List D → List D → List D) (hg : ∀ F vs zs ds es, RpL w.K F vs ds → RpL w.K F zs es → RpL w.K F (gV vs zs) (gD ds es))
    (h : wpa w tas G fun ds => wpa w tk G fun es => pre (gD ds es) ∧ ∀ d, post (gD ds es) d → Q d) : wp w (tCallK (spP w.K pre post) gV E tas tk) G Q := fun σ F H A k z =>
  h σ F H A _ fun vs ds F1 H1 s1 A1 r1 h1 => h1 σ F1 H1 A1 _ fun zs es F2 H2 s2 A2 r2 q =>
    ⟨F2, gD ds es, A2.fh, hg F2 vs zs ds es (r1.mono s2) r2, q.1, fun v d H' s r p => z v d _ H' ((s1.trans s2).trans A2.same) (A2.step s) r (q.2 d p)⟩
theorem wp_callR {i : Nat} {p c : Addr} (e : G[i]? = some (.dr p c)) (h : wpa w tas G fun ds => pre ds ∧ ∀ d, post ds d → Q d) : wp w (tCall (spR w.K pre post) [] E (tCons (tVar i) tas)) G Q := fun σ F H A k z => by
  refine ⟨.ref p, (A.drw e).1, h σ F H A _ fun vs ds F1 H1 s1 A1 r1 q => ?_⟩
  obtain ⟨_, hd, fp, fc⟩ := A1.drw e
  refine ⟨p, c, vs, F1, ds, by rw [List.append_nil], A1.fh, fp, fc, hd, r1, q.1, fun v d H' kp hd' r ps => ?_⟩
  obtain ⟨A2, s2⟩ := A1.drawn e kp hd'
  exact z v d _ H' (s1.trans s2) A2 r (q.2 d ps)

/-! ### bodies -/
def startG (n : Nat) (es : List Ent) : List Ent := es ++ List.replicate (n - es.length) .no
theorem start_at {N : List Str} {vs : List V} {i : Nat} {v : V} (h : vs[i]? = some v) : (start N vs)[i]? = some (some v) := by
  unfold L2.start
  have hi := (List.getElem?_eq_some_iff.mp h).1
  rw [List.getElem?_append_left (by simpa using hi), List.getElem?_map, h]
  rfl
theorem startG_at {n : Nat} {es : List Ent} {i : Nat} {e : Ent} (h : (startG n es)[i]? = some e) : es[i]? = some e ∨ e = .no := by
  unfold startG at h
  by_cases hi : i < es.length
  · rw [List.getElem?_append_left hi] at h
    exact .inl h
  · rw [List.getElem?_append_right (by omega), List.getElem?_replicate] at h
    split at h
    · cases h; exact .inr rfl
    · cases h
theorem as_data {K : PySem.W.Frag} {N : List Str} {F H : Hp} {vs : List V} {ds : List D} (fh : Same F H) (r : RpL K F vs ds) : As ⟨K, F, H, [], []⟩ (startG N.length (ds.map .d)) (start N vs) F H := by
  refine ⟨?_, ⟨Same.refl _, fh, fun a o h => .inl h, fun a o _ h => h, (fun a h => nomatch h), (fun a o h => nomatch h)⟩, fun _ => [], fun i e h => ?_, fun i a _ h => (nomatch h), fun i j a _ _ h => (nomatch h), fun i a _ h => (nomatch h)⟩
  · unfold startG L2.start
    simp [r.length]
  · rcases startG_at h with h | h
    · rw [List.getElem?_map] at h
      cases e2 : ds[i]? with
      | none => rw [e2] at h; cases h
      | some d =>
        rw [e2] at h
        cases h
        obtain ⟨v, hv, rv⟩ := r.getD e2
        exact ⟨rfl, v, start_at hv, rv⟩
    · subst h
      rfl
/-- a body by data -/
theorem spP_body {K : PySem.W.Frag} {N : List Str} {t : TS} {vs : List V} {H : Hp} {Q : VK} {E : XK}
    (b : ∀ (F0 H0 : Hp) (ds : List D), pre ds → wps ⟨K, F0, H0, [], []⟩ t (startG N.length (ds.map .d)) (fun _ => post ds .non) (fun _ d => post ds d)) (h : spP K pre post vs H Q E) : t { nx := fun _ H' => Q .non H', rt := Q } (start N vs) H := by
  obtain ⟨F, ds, fh, r, p, q⟩ := h
  have fin : ∀ {G' σ' F' H'}, As ⟨K, F, H, [], []⟩ G' σ' F' H' → Same H H' ∧ Same F' (ext F H H') := fun {G' σ' F' H'} A => by
    refine ⟨fun b o e => A.base.keep b o (by simp) e, fun b o e => ?_⟩
    have e' := A.base.fh b o e
    rcases A.base.src b o e with z | z
    · rw [ext_some (fh b o z)]; exact z
    · rw [ext_none z]; exact e'
  refine b F H ds p _ F H _ (as_data fh r) (fun G' σ' F' H' s A z => ?_) fun G' σ' v d F' H' s A rv z => ?_
  · exact q _ _ _ (fin A).1 .non z
  · exact q _ _ _ (fin A).1 (rv.mono (fin A).2) z
theorem spR_body {K : PySem.W.Frag} {N : List Str} {t : TS} {vs : List V} {H : Hp} {Q : VK} {E : XK}
    (b : ∀ (F0 H0 : Hp) (p c : Addr) (ds : List D), pre ds → wps ⟨K, F0, H0, [p, c], []⟩ t (startG N.length (.dr p c :: ds.map .d)) (fun G => G[0]? = some (.dr p c) ∧ post ds .non) (fun G d => G[0]? = some (.dr p c) ∧ post ds d)) (h : spR K pre post vs H Q E) : t { nx := fun _ H' => Q .non H', rt := Q } (start N vs) H := by
  obtain ⟨p, c, ws, F, ds, rfl, fh, fp, fc, hd, r, pr, q⟩ := h
  obtain ⟨npc, i0, m0, ns0, hp, hc, hr⟩ := id hd
  have A0 : As ⟨K, F, H, [p, c], []⟩ (startG N.length (.dr p c :: ds.map .d)) (start N (.ref p :: ws)) F H := by
    refine ⟨?_, ⟨Same.refl _, fh, fun a o h => .inl h, fun a o _ h => h, fun a h => ?_, fun a o h => (nomatch h)⟩, fun i => if i = 0 then [p, c] else [], fun i e h => ?_, fun i a _ h => ?_, fun i j a _ _ h1 h2 => ?_, fun i a _ _ o h => (nomatch h)⟩
    · unfold startG L2.start
      simp [r.length]
    · rcases List.mem_cons.mp h with rfl | h
      · exact ⟨fp, by rw [hp]; exact fun z => nomatch z⟩
      · obtain rfl : a = c := by simpa using h
        exact ⟨fc, by rw [hc]; exact fun z => nomatch z⟩
    · rcases startG_at h with h | h
      · cases i with
        | zero =>
          cases h
          exact ⟨rfl, start_at rfl, hd⟩
        | succ i =>
          rw [List.getElem?_cons_succ, List.getElem?_map] at h
          cases e2 : ds[i]? with
          | none => rw [e2] at h; cases h
          | some d =>
            rw [e2] at h
            cases h
            obtain ⟨v, hv, rv⟩ := r.getD e2
            exact ⟨rfl, v, start_at hv, rv⟩
      · subst h
        cases i with
        | zero =>
          unfold startG at h
          cases h
        | succ i => rfl
    · dsimp only at h
      split at h
      · rcases List.mem_cons.mp h with rfl | h
        · exact ⟨fp, by rw [hp]; exact (fun z => nomatch z), .inl (by simp)⟩
        · obtain rfl : a = c := by simpa using h
          exact ⟨fc, by rw [hc]; exact (fun z => nomatch z), .inl (by simp)⟩
      · cases h
    · dsimp only at h1 h2
      split at h1
      · split at h2
        · omega
        · cases h2
      · cases h1
  have fin : ∀ {G' σ' F' H'}, As ⟨K, F, H, [p, c], []⟩ G' σ' F' H' → G'[0]? = some (.dr p c) → (∀ b o, b ≠ p → b ≠ c → H b = some o → H' b = some o) ∧ Dr H' p c ∧ Same F' (ext F H H') := fun {G' σ' F' H'} A e0 => by
    refine ⟨fun b o h1 h2 e => A.base.keep b o (by simp [h1, h2]) e, (A.drw e0).2.1, fun b o e => ?_⟩
    have e' := A.base.fh b o e
    rcases A.base.src b o e with z | z
    · rw [ext_some (fh b o z)]; exact z
    · rw [ext_none z]; exact e'
  refine b F H p c ds pr _ F H _ A0 (fun G' σ' F' H' s A z => ?_) fun G' σ' v d F' H' s A rv z => ?_
  · obtain ⟨h1, h2, h3⟩ := fin A z.1
    exact q _ _ _ h1 h2 .non z.2
  · obtain ⟨h1, h2, h3⟩ := fin A z.1
    exact q _ _ _ h1 h2 (rv.mono h3) z.2
/-- a thing of one's own whose value is its address -/
def AtRef {S : Type} (own : Addr → S → OwnP) : Prop := ∀ a s F H v qs, (own a s).ok F H v qs → v = .ref a
theorem spO_body {S : Type} {own : Addr → S → OwnP} (at_ : AtRef own) {pre : S → List D → Prop} {post : S → List D → D → S → Prop} {K : PySem.W.Frag} {N : List Str} {t : TS} {vs : List V} {H : Hp} {Q : VK} {E : XK}
    (b : ∀ (F0 H0 : Hp) (O : List Addr) (a : Addr) (s : S) (ds : List D), pre s ds → wps ⟨K, F0, H0, O, []⟩ t (startG N.length (.o (own a s) :: ds.map .d)) (fun G => ∃ s', G[0]? = some (.o (own a s')) ∧ post s ds .non s') (fun G d => ∃ s', G[0]? = some (.o (own a s')) ∧ post s ds d s'))
    (h : spO K own pre post vs H Q E) : t { nx := fun _ H' => Q .non H', rt := Q } (start N vs) H := by
  obtain ⟨a, ws, F, ds, s, qs, rfl, fh, fq, ok, r, pr, q⟩ := h
  have A0 : As ⟨K, F, H, qs, []⟩ (startG N.length (.o (own a s) :: ds.map .d)) (start N (.ref a :: ws)) F H := by
    refine ⟨?_, ⟨Same.refl _, fh, fun a o h => .inl h, fun a o _ h => h, fq, fun a o h => (nomatch h)⟩, fun i => if i = 0 then qs else [], fun i e h => ?_, fun i b _ h => ?_, fun i j b _ _ h1 h2 => ?_, fun i a _ _ o h => (nomatch h)⟩
    · unfold startG L2.start
      simp [r.length]
    · rcases startG_at h with h | h
      · cases i with
        | zero =>
          cases h
          exact ⟨.ref a, start_at rfl, ok⟩
        | succ i =>
          rw [List.getElem?_cons_succ, List.getElem?_map] at h
          cases e2 : ds[i]? with
          | none => rw [e2] at h; cases h
          | some d =>
            rw [e2] at h
            cases h
            obtain ⟨v, hv, rv⟩ := r.getD e2
            exact ⟨rfl, v, start_at hv, rv⟩
      · subst h
        cases i with
        | zero =>
          unfold startG at h
          cases h
        | succ i => rfl
    · dsimp only at h
      split at h
      · exact ⟨(fq b h).1, (fq b h).2, .inl h⟩
      · cases h
    · dsimp only at h1 h2
      split at h1
      · split at h2
        · omega
        · cases h2
      · cases h1
  have fin : ∀ {G' σ' F' H' s'}, As ⟨K, F, H, qs, []⟩ G' σ' F' H' → G'[0]? = some (.o (own a s')) → ∃ qs', (∀ b u, b ∉ qs → H b = some u → H' b = some u) ∧ (∀ b, b ∈ qs → H' b ≠ none) ∧ (∀ a, a ∈ qs' → (a ∈ qs ∨ H a = none) ∧ H' a ≠ none) ∧ (own a s').ok (extBut F H H' qs') H' (.ref a) qs' ∧ Same F' (extBut F H H' qs') := fun {G' σ' F' H' s'} A e0 => by
    obtain ⟨q', O⟩ := A.get
    have hi := (List.getElem?_eq_some_iff.mp e0).1
    obtain ⟨v, _, hok⟩ := O.ok 0 _ e0
    obtain rfl := at_ _ _ _ _ _ _ hok
    have sm : Same F' (extBut F H H' (q' 0)) := fun b o e => by
      have e' := A.base.fh b o e
      unfold extBut
      rw [if_neg (fun z => by rw [(O.at_ 0 b hi z).1] at e; cases e)]
      rcases A.base.src b o e with z | z
      · rw [ext_some (fh b o z)]; exact z
      · rw [ext_none z]; exact e'
    exact ⟨q' 0, fun b u hb e => A.base.keep b u hb e, fun b hb => (A.base.own b hb).2, fun b hb => ⟨(O.at_ 0 b hi hb).2.2, (O.at_ 0 b hi hb).2.1⟩, (own a s').step sm (fun _ _ _ e => e) hok, sm⟩
  refine b F H qs a s ds pr _ F H _ A0 (fun G' σ' F' H' s A z => ?_) fun G' σ' v d F' H' s A rv z => ?_
  · obtain ⟨s', e0, ps⟩ := z
    obtain ⟨qs', k1, k2, k3, k4, _⟩ := fin A e0
    exact q _ _ s' _ qs' k1 k2 k3 k4 .non ps
  · obtain ⟨s', e0, ps⟩ := z
    obtain ⟨qs', k1, k2, k3, k4, sm⟩ := fin A e0
    exact q _ _ s' _ qs' k1 k2 k3 k4 (rv.mono sm) ps

/-! ### fields of known instances -/
theorem look_zip {K : PySem.W.Frag} {F : Hp} {f : Str} : ∀ {ns : List Str} {vs : List V} {ds : List D} {d : D}, RpL K F vs ds → (ns.zip ds).lookup f = some d → ∃ v, (ns.zip vs).lookup f = some v ∧ Rp K F v d
  | [], _, _, _, _, h => by simp at h
  | n :: ns, _, _, _, .nil, h => by simp at h
  | n :: ns, v :: vs, e :: ds, d, .cons r t, h => by
    rw [List.zip_cons_cons, List.lookup_cons] at h ⊢
    cases z : f == n with
    | true =>
      rw [z] at h
      cases h
      exact ⟨v, rfl, r⟩
    | false =>
      rw [z] at h
      exact look_zip t h
theorem look_none {f : Str} : ∀ {ns : List Str} {vs : List V}, f ∉ ns → (ns.zip vs).lookup f = none
  | [], _, _ => by simp
  | n :: ns, [], _ => by simp
  | n :: ns, v :: vs, h => by
    rw [List.zip_cons_cons, List.lookup_cons]
    have : (f == n) = false := beq_eq_false_iff_ne.mpr (fun e => h (by simp [e]))
    rw [this]
    exact look_none fun z => h (by simp [z])
theorem wp_fld {f : Str} {C : Addr} (c : Cls w.K C) (n : NoAttr w.K C f) (h : wp w te G fun x => ∃ ns xs d, x = .obj C ns xs ∧ (ns.zip xs).lookup f = some d ∧ Q d) : wp w (tFld w.K te f) G Q := fun σ F H A k z =>
  h σ F H A _ fun v x F1 H1 s1 A1 r1 q => by
    obtain ⟨ns, xs, d, rfl, hl, q⟩ := q
    cases r1 with
    | obj e hz r =>
      obtain ⟨v, hv, rv⟩ := look_zip r hl
      exact ⟨_, C, _, _, v, rfl, A1.fh _ _ e, c, n, hv, z v d F1 H1 s1 A1 rv q⟩
/-- x.m(..) of a known instance -/
theorem wp_methP {C : Addr} {m : Str} (h : wp w te G fun x => ∃ ns xs, x = .obj C ns xs ∧ m ∉ ns ∧ wpa w tas G fun ds => pre (x :: ds) ∧ ∀ d, post (x :: ds) d → Q d) : wp w (tMeth C m (spP w.K pre post) [] E te tas) G Q := fun σ F H A k z =>
  h σ F H A _ fun v x F1 H1 s1 A1 r1 q => by
    obtain ⟨ns, xs, rfl, hm, q⟩ := q
    cases id r1 with
    | obj e hz r =>
      rename_i a dx vs
      refine ⟨a, dx, _, rfl, A1.fh _ _ e, look_none hm, q σ F1 H1 A1 _ fun us ds F2 H2 s2 A2 r2 q2 => ?_⟩
      rw [List.append_nil]
      exact ⟨F2, _, A2.fh, .cons (r1.mono s2) r2, q2.1, fun v d H' s r p => z v d _ H' ((s1.trans s2).trans A2.same) (A2.step s) r (q2.2 d p)⟩
/-- x.p, a property of a known instance -/
theorem wp_propP {C : Addr} (h : wp w te G fun x => ∃ ns xs, x = .obj C ns xs ∧ pre [x] ∧ ∀ d, post [x] d → Q d) : wp w (tProp C (spP w.K pre post) [] E te) G Q := fun σ F H A k z =>
  h σ F H A _ fun v x F1 H1 s1 A1 r1 q => by
    obtain ⟨ns, xs, rfl, q⟩ := q
    cases id r1 with
    | obj e hz r =>
      rename_i a dx vs
      exact ⟨a, dx, _, rfl, A1.fh _ _ e, F1, _, A1.fh, .one r1, q.1, fun v d H' s r p => z v d _ H' (s1.trans A1.same) (A1.step s) r (q.2 d p)⟩

/-! ### instances that are being made -/
/-- an instance of the class at C, at a, with these fields -/
def obP (K : PySem.W.Frag) (C : Addr) (a : Addr) (s : List Str × List D) : OwnP where
  ok := fun F H v qs => v = .ref a ∧ ∃ dx vs, qs = [a] ∧ H a = some (.ins C dx (s.1.zip vs)) ∧ s.1.length = vs.length ∧ RpL K F vs s.2
  step := fun {F F' H H' v qs} f k h => by
    obtain ⟨rfl, dx, vs, rfl, h1, h2, h3⟩ := h
    exact ⟨rfl, dx, vs, rfl, k _ _ (by simp) h1, h2, h3.mono f⟩
theorem obP_at {K : PySem.W.Frag} {C : Addr} : AtRef (obP K C) := fun a s F H v qs h => h.1
theorem putF_new {f : Str} {y : V} : ∀ {ns : List Str} {vs : List V}, ns.length = vs.length → f ∉ ns → putF f y (ns.zip vs) = (ns ++ [f]).zip (vs ++ [y])
  | [], [], _, _ => rfl
  | [], v :: vs, h, _ => by simp at h
  | n :: ns, [], h, _ => by simp at h
  | n :: ns, v :: vs, h, hf => by
    have ih := putF_new (f := f) (y := y) (ns := ns) (vs := vs) (by simpa using h) (fun z => hf (by simp [z]))
    show (if n = f then (n, y) :: ns.zip vs else (n, v) :: putF f y (ns.zip vs)) = (n, v) :: (ns ++ [f]).zip (vs ++ [y])
    rw [if_neg (fun e => hf (by simp [e])), ih]
theorem putF_set {f : Str} {y : V} : ∀ {ns : List Str} {vs : List V} {j : Nat}, ns.Nodup → ns[j]? = some f → putF f y (ns.zip vs) = if j < vs.length then ns.zip (vs.set j y) else putF f y (ns.zip vs)
  | [], _, _, _, h => by simp at h
  | n :: ns, [], j, _, _ => by simp
  | n :: ns, v :: vs, 0, _, h => by
    simp at h
    subst h
    rw [if_pos (by simp)]
    show (if n = n then (n, y) :: ns.zip vs else _) = _
    rw [if_pos rfl]
    rfl
  | n :: ns, v :: vs, j + 1, hn, h => by
    simp at h
    have ne : n ≠ f := fun e => by
      subst e
      exact (List.nodup_cons.mp hn).1 (List.mem_of_getElem? h)
    have ih := putF_set (y := y) (vs := vs) (List.nodup_cons.mp hn).2 h
    by_cases hj : j < vs.length
    · rw [if_pos hj] at ih
      rw [if_pos (by simpa using hj)]
      show (if n = f then _ else (n, v) :: putF f y (ns.zip vs)) = (n, v) :: ns.zip (vs.set j y)
      rw [if_neg ne, ih]
    · rw [if_neg (by simpa using hj)]
theorem extBut_self {F H : Hp} {a : Addr} {o : HO} (fh : Same F H) (fa : F a = none) (ha : H a ≠ none) : extBut F H (upd H a o) [a] = F := by
  funext b
  unfold extBut
  by_cases e : b = a
  · subst e
    rw [if_pos (by simp)]
    exact fa.symm
  · rw [if_neg (by simpa using e)]
    cases q : H b with
    | none =>
      rw [ext_none q, upd_ne e, q]
      cases z : F b with
      | none => rfl
      | some u => rw [fh b u z] at q; cases q
    | some u => rw [ext_some q]
variable {N : List Ent → Prop} {R : List Ent → D → Prop} {tv : TE}
/-- self.f = e, a new field -/
theorem wps_fldN {i : Nat} {C a : Addr} {ns : List Str} {xs : List D} {f : Str} (c : Cls w.K C) (na : NoAttr w.K C f) (e : G[i]? = some (.o (obP w.K C a (ns, xs)))) (hn : f ∉ ns) (hz : ns.length < 1000)
    (h : wp w tv G fun d => N (G.set i (.o (obP w.K C a (ns ++ [f], xs ++ [d]))))) : wps w (sFld w.K (tVar i) tv f) G N R := fun σ F H E A n r =>
  h σ F H A _ fun y d F1 H1 s1 A1 r1 q => by
    obtain ⟨v, qs, h1, ⟨rfl, dx, vs, rfl, h2, h3, h4⟩, h5, up⟩ := A1.own1 e
    refine ⟨.ref a, h1, a, C, dx, _, rfl, h2, c, na, by rw [List.length_zip]; show min ns.length vs.length < 1000; omega, ?_⟩
    have ha := (h5 a (by simp)).2
    have fa := (h5 a (by simp)).1
    have eF : extBut F1 H1 (upd H1 a (.ins C dx (putF f y (ns.zip vs)))) [a] = F1 := extBut_self A1.fh fa ha
    obtain ⟨A2, s2⟩ := up (obP w.K C a (ns ++ [f], xs ++ [d])) (upd H1 a (.ins C dx (putF f y (ns.zip vs)))) [a] (fun b u hb e => by rw [upd_ne (by simpa using hb)]; exact e)
      (fun b hb => by obtain rfl : b = a := by simpa using hb
                      rw [upd_same]; exact fun z => nomatch z)
      (fun b hb => by obtain rfl : b = a := by simpa using hb
                      exact ⟨.inl (by simp), by rw [upd_same]; exact fun z => nomatch z⟩)
      ⟨rfl, dx, vs ++ [y], rfl, by rw [putF_new h3 hn]; exact upd_same, by simp [h3], by rw [eF]; exact h4.append (.one r1)⟩
    exact n _ _ _ _ (s1.trans s2) A2 q
/-- self.f = e, a field that is there -/
theorem wps_fldS {i j : Nat} {C a : Addr} {ns : List Str} {xs : List D} {f : Str} (c : Cls w.K C) (na : NoAttr w.K C f) (e : G[i]? = some (.o (obP w.K C a (ns, xs)))) (hn : ns.Nodup) (hj : ns[j]? = some f) (hz : ns.length < 1000)
    (h : wp w tv G fun d => N (G.set i (.o (obP w.K C a (ns, xs.set j d))))) : wps w (sFld w.K (tVar i) tv f) G N R := fun σ F H E A n r =>
  h σ F H A _ fun y d F1 H1 s1 A1 r1 q => by
    obtain ⟨v, qs, h1, ⟨rfl, dx, vs, rfl, h2, h3, h4⟩, h5, up⟩ := A1.own1 e
    refine ⟨.ref a, h1, a, C, dx, _, rfl, h2, c, na, by rw [List.length_zip]; show min ns.length vs.length < 1000; omega, ?_⟩
    have ha := (h5 a (by simp)).2
    have fa := (h5 a (by simp)).1
    have eF : extBut F1 H1 (upd H1 a (.ins C dx (putF f y (ns.zip vs)))) [a] = F1 := extBut_self A1.fh fa ha
    have hjl : j < vs.length := by
      have h3' : ns.length = vs.length := h3
      rw [← h3']; exact (List.getElem?_eq_some_iff.mp hj).1
    have ep : putF f y (ns.zip vs) = ns.zip (vs.set j y) := by
      have := putF_set (y := y) (vs := vs) hn hj
      rw [if_pos hjl] at this
      exact this
    obtain ⟨A2, s2⟩ := up (obP w.K C a (ns, xs.set j d)) (upd H1 a (.ins C dx (putF f y (ns.zip vs)))) [a] (fun b u hb e => by rw [upd_ne (by simpa using hb)]; exact e)
      (fun b hb => by obtain rfl : b = a := by simpa using hb
                      rw [upd_same]; exact fun z => nomatch z)
      (fun b hb => by obtain rfl : b = a := by simpa using hb
                      exact ⟨.inl (by simp), by rw [upd_same]; exact fun z => nomatch z⟩)
      ⟨rfl, dx, vs.set j y, rfl, by rw [ep]; exact upd_same, by rw [List.length_set]; exact h3, by rw [eF]; exact h4.set r1 j⟩
    exact n _ _ _ _ (s1.trans s2) A2 q
/-- C(..): an instance that is known from then on -/
theorem wp_make {C : Addr} {pre : List Str × List D → List D → Prop} {post : List Str × List D → List D → D → List Str × List D → Prop} (h : wpa w tas G fun ds => pre ([], []) ds ∧ ∀ d s', post ([], []) ds d s' → d = .non ∧ Q (.obj C s'.1 s'.2)) :
    wp w (tMake C (spO w.K (obP w.K C) pre post) [] E tas) G Q := fun σ F H A k z =>
  h σ F H A _ fun vs ds F1 H1 s1 A1 r1 q x dx hx hd hne => by
    have nx : upd H1 dx (.own x) x = none := by rw [upd_ne (Ne.symm hne)]; exact hx
    have fx : F1 x = none := A1.fh.free hx
    have fd : F1 dx = none := A1.fh.free hd
    have s2 : Same H1 (upd (upd H1 dx (.own x)) x (.ins C dx [])) := (same_new hd).trans (same_new nx)
    refine ⟨x, vs, F1, ds, ([], []), [x], by rw [List.append_nil], A1.fh.trans s2, fun a ha => ?_, ⟨rfl, dx, [], rfl, upd_same, rfl, .nil⟩, r1, q.1, fun r d s' H' qs' k1 k2 k3 ok rr ps => ?_⟩
    · obtain rfl : a = x := by simpa using ha
      exact ⟨fx, by rw [upd_same]; exact fun z => nomatch z⟩
    · obtain ⟨rfl, hq⟩ := q.2 d s' ps
      cases rr
      obtain ⟨_, dx', us, rfl, e1, e2, e3⟩ := ok
      have s3 : Same H1 H' := fun b o e => k1 b o (fun z => by
        obtain rfl : b = x := by simpa using z
        rw [hx] at e; cases e) (s2 b o e)
      have sE : Same (extBut F1 (upd (upd H1 dx (.own x)) x (.ins C dx [])) H' [x]) (ext F1 H1 H') := fun b o e => by
        unfold extBut at e
        split at e
        · cases e
        · cases z : H1 b with
          | none =>
            rw [ext_none z]
            cases y : (upd (upd H1 dx (.own x)) x (.ins C dx [])) b with
            | none => rwa [ext_none y] at e
            | some u =>
              rw [ext_some y] at e
              rw [A1.fh b o e] at z; cases z
          | some u =>
            rw [ext_some (s2 b u z)] at e
            rw [ext_some z]; exact e
      refine ⟨rfl, z _ _ _ H' (s1.trans A1.same) (A1.step s3) (.obj (dx := dx') (vs := us) ?_ e2 (e3.mono sE)) hq⟩
      rw [ext_none hx]
      exact e1
end
end Sd
set_option Elab.async false
set_option linter.all false
set_option maxRecDepth 100000
set_option maxHeartbeats 4000000
/-! Sd5: the forms one uses. -/
namespace Sd
open PySem PySem.Spec L2
open PyProof.Rows (envOfC)

theorem ite_b {b : Bool} {A B : Prop} (h1 : b = true → A) (h2 : b = false → B) : if b = true then A else B := by
  cases b with
  | true => exact iteT (h1 rfl)
  | false => exact iteF (h2 rfl)
theorem ite_t {b : Bool} {A B : Prop} (hb : b = true) (h : A) : if b = true then A else B := by rw [if_pos hb]; exact h
theorem ite_f {b : Bool} {A B : Prop} (hb : b = false) (h : B) : if b = true then A else B := by rw [hb]; exact iteF h

/-! ### promises of one, two, three data -/
def pre0 : List D → Prop
  | [] => True
  | _ => False
def pre1 (p : D → Prop) : List D → Prop
  | [a] => p a
  | _ => False
def pre2 (p : D → D → Prop) : List D → Prop
  | [a, b] => p a b
  | _ => False
def pre3 (p : D → D → D → Prop) : List D → Prop
  | [a, b, c] => p a b c
  | _ => False
def pre4 (p : D → D → D → D → Prop) : List D → Prop
  | [a, b, c, d] => p a b c d
  | _ => False
def post0 (q : D → Prop) : List D → D → Prop
  | [], r => q r
  | _, _ => False
def post1 (q : D → D → Prop) : List D → D → Prop
  | [a], r => q a r
  | _, _ => False
def post2 (q : D → D → D → Prop) : List D → D → Prop
  | [a, b], r => q a b r
  | _, _ => False
def post3 (q : D → D → D → D → Prop) : List D → D → Prop
  | [a, b, c], r => q a b c r
  | _, _ => False
def post4 (q : D → D → D → D → D → Prop) : List D → D → Prop
  | [a, b, c, d], r => q a b c d r
  | _, _ => False
theorem pre1_inv {p : D → Prop} : ∀ {ds : List D}, pre1 p ds → ∃ a, ds = [a] ∧ p a
  | [a], h => ⟨a, rfl, h⟩
  | [], h => h.elim
  | _ :: _ :: _, h => h.elim
theorem pre2_inv {p : D → D → Prop} : ∀ {ds : List D}, pre2 p ds → ∃ a b, ds = [a, b] ∧ p a b
  | [a, b], h => ⟨a, b, rfl, h⟩
  | [], h => h.elim
  | [_], h => h.elim
  | _ :: _ :: _ :: _, h => h.elim
theorem pre3_inv {p : D → D → D → Prop} : ∀ {ds : List D}, pre3 p ds → ∃ a b c, ds = [a, b, c] ∧ p a b c
  | [a, b, c], h => ⟨a, b, c, rfl, h⟩
  | [], h => h.elim
  | [_], h => h.elim
  | [_, _], h => h.elim
  | _ :: _ :: _ :: _ :: _, h => h.elim
theorem pre4_inv {p : D → D → D → D → Prop} : ∀ {ds : List D}, pre4 p ds → ∃ a b c d, ds = [a, b, c, d] ∧ p a b c d
  | [a, b, c, d], h => ⟨a, b, c, d, rfl, h⟩
  | [], h => h.elim
  | [_], h => h.elim
  | [_, _], h => h.elim
  | [_, _, _], h => h.elim
  | _ :: _ :: _ :: _ :: _ :: _, h => h.elim
theorem pre0_inv : ∀ {ds : List D}, pre0 ds → ds = []
  | [], _ => rfl
  | _ :: _, h => h.elim

section
variable {P : Program} {wd : World} {K : PySem.W.Frag} {mg : Str → Option Value} {base : Heap}
/-- a def by data: its body's derivation, and what it does -/
theorem fn_P {pre : List D → Prop} {post : List D → D → Prop} {x qual : Str} {st : Stmt} {f : Addr} {fd : FuncData} {N ps : List Str} {k : Nat} (F : Fun K x qual st f fd) (S : FnScope N ps (defScope st)) (hl : ∀ ds, pre ds → ds.length = ps.length)
    (b : ∀ (cdv : Value) (A : Around) (outer : List Env) (s : Shared) (H : Hp) (E : XK), Room k (A.deeper (envOfC qual (defScope st) s.heap.objs.size f cdv)) →
      ∃ t, PSs (cxOf CX0 P wd K mg base N qual (defScope st) f cdv A outer s H E).nox (defBody st) t ∧ ∀ (F0 H0 : Hp) (ds : List D), pre ds → wps ⟨K, F0, H0, [], []⟩ t (startG N.length (ds.map .d)) (fun _ => post ds .non) (fun _ d => post ds d)) :
    FnOk P wd K mg base CX0 (k + 1) f fd ps (spP K pre post) :=
  F.ok S (fun vs H Q E ⟨_, ds, _, r, p, _⟩ => r.length.trans (hl ds p)) fun cdv A outer s H vs Q E hr h => by
    obtain ⟨t, ht, q⟩ := b cdv A outer s H E hr
    exact ⟨t, ht, spP_body q h⟩
theorem fn_R {pre : List D → Prop} {post : List D → D → Prop} {x qual : Str} {st : Stmt} {f : Addr} {fd : FuncData} {N ps : List Str} {k : Nat} (F : Fun K x qual st f fd) (S : FnScope N ps (defScope st)) (hl : ∀ ds, pre ds → ds.length + 1 = ps.length)
    (b : ∀ (cdv : Value) (A : Around) (outer : List Env) (s : Shared) (H : Hp) (E : XK), Room k (A.deeper (envOfC qual (defScope st) s.heap.objs.size f cdv)) →
      ∃ t, PSs (cxOf CX0 P wd K mg base N qual (defScope st) f cdv A outer s H E).nox (defBody st) t ∧ ∀ (F0 H0 : Hp) (p c : Addr) (ds : List D), pre ds → wps ⟨K, F0, H0, [p, c], []⟩ t (startG N.length (.dr p c :: ds.map .d)) (fun G => G[0]? = some (.dr p c) ∧ post ds .non) (fun G d => G[0]? = some (.dr p c) ∧ post ds d)) :
    FnOk P wd K mg base CX0 (k + 1) f fd ps (spR K pre post) :=
  F.ok S (fun vs H Q E ⟨_, _, ws, _, ds, e, _, _, _, _, r, p, _⟩ => by rw [e, ← hl ds p, ← r.length]; rfl) fun cdv A outer s H vs Q E hr h => by
    obtain ⟨t, ht, q⟩ := b cdv A outer s H E hr
    exact ⟨t, ht, spR_body q h⟩
theorem fn_O {S' : Type} {own : Addr → S' → OwnP} (at_ : AtRef own) {pre : S' → List D → Prop} {post : S' → List D → D → S' → Prop} {x qual : Str} {st : Stmt} {f : Addr} {fd : FuncData} {N ps : List Str} {k : Nat} (F : Fun K x qual st f fd) (S : FnScope N ps (defScope st)) (hl : ∀ s ds, pre s ds → ds.length + 1 = ps.length)
    (b : ∀ (cdv : Value) (A : Around) (outer : List Env) (s : Shared) (H : Hp) (E : XK), Room k (A.deeper (envOfC qual (defScope st) s.heap.objs.size f cdv)) →
      ∃ t, PSs (cxOf CX0 P wd K mg base N qual (defScope st) f cdv A outer s H E).nox (defBody st) t ∧ ∀ (F0 H0 : Hp) (O : List Addr) (a : Addr) (s : S') (ds : List D), pre s ds → wps ⟨K, F0, H0, O, []⟩ t (startG N.length (.o (own a s) :: ds.map .d)) (fun G => ∃ s', G[0]? = some (.o (own a s')) ∧ post s ds .non s') (fun G d => ∃ s', G[0]? = some (.o (own a s')) ∧ post s ds d s')) :
    FnOk P wd K mg base CX0 (k + 1) f fd ps (spO K own pre post) :=
  F.ok S (fun vs H Q E ⟨_, ws, _, ds, s, _, e, _, _, _, r, p, _⟩ => by rw [e, ← hl s ds p, ← r.length]; rfl) fun cdv A outer s H vs Q E hr h => by
    obtain ⟨t, ht, q⟩ := b cdv A outer s H E hr
    exact ⟨t, ht, spO_body at_ q h⟩
end

section
variable {w : Wd} {G : List Ent} {Q : D → Prop} {te ta tb : TE} {tt : TT} {tas : TA} {i j : Nat}
/-! ### constants of the module -/
theorem wp_glob {v : V} {d : D} (r : ∀ F, Rp w.K F v d) (q : Q d) : wp w (tC v) G Q := fun σ F H A k z => z _ _ F H (Same.refl _) A (r F) q

/-! ### isinstance -/
def tyD : D → Value
  | .non => .type "NoneType"
  | .bl _ => .type "bool"
  | .int _ => .type "int"
  | .str _ => .type "str"
  | .tup _ => .type "tuple"
  | .lst _ => .type "list"
  | .obj C _ _ => .ref C
/-- what isinstance asks of an own class -/
structure IsC (K : PySem.W.Frag) (C : Addr) : Prop where
  cl : Cls K C
  ha : PySem.W.findIn K (.ref C) "__class__" = some (some (.builtin "object.__class__"))
  hn : PySem.W.specialIn K (.builtin "object.__class__") "__get__" = some (some (.builtin "getset_descriptor.__get__"))
  htk : PySem.W.takesIn K (.builtin "object.__class__") = some true
  hm : PySem.W.mroIn K C (.type "object") = some true
def noObj : D → Bool
  | .obj .. => false
  | _ => true
theorem tyX_of {K : PySem.W.Frag} {F H : Hp} {v : V} {d : D} (s : Same F H) (r : Rp K F v d) (h : ∀ C ns ds, d = .obj C ns ds → IsC K C) : TyX K H v (tyD d) := by
  cases r with
  | non => exact .base .non
  | bl b => exact .base (.bl b)
  | int i => exact .base (.int i)
  | str x => exact .base (.str x)
  | tup e r => exact .base (.tup (s _ _ e))
  | lst e r => exact .base (.lst (s _ _ e))
  | obj e hl r =>
    have c := h _ _ _ rfl
    exact .base (.ins (s _ _ e) c.cl c.ha c.hn c.htk c.hm)
/-- isinstance(x, T) -/
theorem wp_isi {T : String} (h : wp w ta G fun x => (∀ C ns ds, x = .obj C ns ds → IsC w.K C) ∧ ∃ b, PySem.W.kitOne w.K (tyD x) (.type T) = some b ∧ Q (.bl b)) : wp w (tCB (rIsi w.K) (tCons ta (tCons (tC (.ty T)) tNil))) G Q := fun σ F H A k z =>
  h σ F H A _ fun v x F1 H1 s1 A1 r1 q => by
    obtain ⟨hc, b, e, q⟩ := q
    exact ⟨v, .ty T, _, _, b, rfl, .ty T, tyX_of A1.fh r1 hc, e, z _ _ F1 H1 s1 A1 (.bl b) q⟩
theorem wp_isiC {C : Addr} (h : wp w ta G fun x => (∀ C ns ds, x = .obj C ns ds → IsC w.K C) ∧ ∃ b, PySem.W.kitOne w.K (tyD x) (.ref C) = some b ∧ Q (.bl b)) : wp w (tCB (rIsi w.K) (tCons ta (tCons (tC (.ref C)) tNil))) G Q := fun σ F H A k z =>
  h σ F H A _ fun v x F1 H1 s1 A1 r1 q => by
    obtain ⟨hc, b, e, q⟩ := q
    exact ⟨v, .ref C, _, _, b, rfl, .own C, tyX_of A1.fh r1 hc, e, z _ _ F1 H1 s1 A1 (.bl b) q⟩
/-- isinstance(x, (T1, T2)) -/
theorem wp_isi2 {T1 T2 : String} (h : wp w ta G fun x => (∀ C ns ds, x = .obj C ns ds → IsC w.K C) ∧ ∃ b, PySem.W.kitAny w.K (tyD x) [.type T1, .type T2] = some b ∧ Q (.bl b)) :
    wp w (tCB (rIsiT w.K) (tCons ta (tCons (tTup (tCons (tC (.ty T1)) (tCons (tC (.ty T2)) tNil))) tNil))) G Q := fun σ F H A k z =>
  h σ F H A _ fun v x F1 H1 s1 A1 r1 q => by
    obtain ⟨hc, b, e, q⟩ := q
    refine ⟨line_ok (by simp), fun p hp => ?_⟩
    have A2 := A1.new (o := .tup [.ty T1, .ty T2]) hp
    have hf := A1.fh.free hp
    exact ⟨v, p, [.ty T1, .ty T2], _, [.type T1, .type T2], b, rfl, upd_same, .cons (.ty T1) (.cons (.ty T2) .nil), tyX_of A2.fh (r1.mono (same_new hf)) hc, e, z _ _ _ _ (s1.trans (same_new hf)) A2 (.bl b) q⟩
/-- of a type: T, by its name -/
def isT (T : String) : D → Bool
  | .non => T == "NoneType"
  | .bl _ => T == "bool" || T == "int"
  | .int _ => T == "int"
  | .str _ => T == "str"
  | .tup _ => T == "tuple"
  | .lst _ => T == "list"
  | .obj .. => false

/-! ### chains -/
theorem wp_chain {r r' : R2} {tc : TE} (h : wp w ta G fun x => wp w tb G fun y => R2D w.K r x y fun z => ∃ b, z = .bl b ∧ if b = true then wp w tc G fun u => R2D w.K r' y u Q else Q (.bl false)) : wp w (tChain r r' ta tb tc) G Q := fun σ F H A k z =>
  h σ F H A _ fun v x F1 H1 s1 A1 r1 h1 => h1 σ F1 H1 A1 _ fun u y F2 H2 s2 A2 r2 q =>
    q F2 H2 v u A2.fh (r1.mono s2) r2 _ fun z0 d H3 s3 r3 qd => by
      obtain ⟨b, rfl, qd⟩ := qd
      cases r3
      refine ⟨b, rfl, ?_⟩
      have A3 := A2.step s3
      cases b with
      | true =>
        refine iteT (qd σ _ H3 A3 _ fun u2 y2 F4 H4 s4 A4 r4 q4 => ?_)
        exact q4 F4 H4 u u2 A4.fh ((r2.mono A2.same).mono s4) r4 _ fun z1 d1 H5 s5 r5 q5 => z _ _ _ H5 ((((s1.trans s2).trans A2.same).trans s4).trans A4.same) (A4.step s5) r5 q5
      | false => exact iteF (z _ _ _ H3 ((s1.trans s2).trans A2.same) A3 (.bl false) qd)

/-! ### comprehensions over one name -/
theorem wpi.imp {wi : TI} {Q Q' : List D → Prop} (h : wpi w wi G Q) (i : ∀ ds, Q ds → Q' ds) : wpi w wi G Q' := fun σ F H A R z => h σ F H A R fun J ds F' H' s A' wk q => z J ds F' H' s A' wk (i ds q)
theorem wpl_lcN {wi : TI} {Q : List D → Prop} (hj : G[j]? = some .no)
    (h : wpi w wi G fun ds => ds.length ≤ 1000000 ∧ ∃ I : Nat → List D → Prop, I 0 [] ∧ (∀ i d acc a o, ds[i]? = some d → I i acc → wpt (w.push a o) tt (G.set j (.d d)) fun b =>
      if b = true then wp (w.push a o) te (G.set j (.d d)) fun y => I (i + 1) (acc ++ [y]) else I (i + 1) acc) ∧ ∀ acc, I ds.length acc → Q acc) :
    wpl w (tLc wi (gName j) tt te [j]) G Q := by
  refine wpl_lc (vs := [j]) (by rw [List.all_cons, hj]; rfl) (wpi.imp h fun ds q => ?_)
  obtain ⟨hl, I, i0, turn, fin⟩ := q
  exact ⟨hl, I, i0, fun i d acc a o hd hI => wpg_name (by simp) ⟨fun m hm => List.getElem?_set_ne (fun e => hm (by simp [e])), by simp, turn i d acc a o hd hI⟩, fin⟩
theorem wpl_lcNN {wi : TI} {j2 : Nat} {Q : List D → Prop} (hj : G[j]? = some .no) (hj2 : G[j2]? = some .no)
    (h : wpi w wi G fun ds => ds.length ≤ 1000000 ∧ ∃ I : Nat → List D → Prop, I 0 [] ∧ (∀ i d acc a o, ds[i]? = some d → I i acc → ∃ x y, d = .tup [x, y] ∧ wpt (w.push a o) tt ((G.set j (.d x)).set j2 (.d y)) fun b =>
      if b = true then wp (w.push a o) te ((G.set j (.d x)).set j2 (.d y)) fun y => I (i + 1) (acc ++ [y]) else I (i + 1) acc) ∧ ∀ acc, I ds.length acc → Q acc) :
    wpl w (tLc wi (gTup w.K 2 (gCons (gName j) (gCons (gName j2) gNil))) tt te [j, j2]) G Q := by
  refine wpl_lc (vs := [j, j2]) (by rw [List.all_cons, List.all_cons, hj, hj2]; rfl) (wpi.imp h fun ds q => ?_)
  obtain ⟨hl, I, i0, turn, fin⟩ := q
  refine ⟨hl, I, i0, fun i d acc a o hd hI => ?_, fin⟩
  obtain ⟨x, y, e, t⟩ := turn i d acc a o hd hI
  refine wpg_tup e rfl (wpgs_cons (wpg_name (by simp) (wpgs_cons (wpg_name (by simp) (wpgs_nil ⟨fun m hm => ?_, by simp, t⟩)))))
  rw [List.getElem?_set_ne (fun e => hm (by simp [e])), List.getElem?_set_ne (fun e => hm (by simp [e]))]
/-- the same where each turn gives what f says -/
theorem wpl_map {wi : TI} {Q : List D → Prop} (f : D → D) (hj : G[j]? = some .no)
    (h : wpi w wi G fun ds => ds.length ≤ 1000000 ∧ (∀ d a o, d ∈ ds → wp (w.push a o) te (G.set j (.d d)) fun y => y = f d) ∧ Q (ds.map f)) : wpl w (tLc wi (gName j) tYes te [j]) G Q :=
  wpl_lcN hj (h.imp fun ds q => ⟨q.1, fun i acc => acc = (ds.take i).map f, rfl, fun i d acc a o hd hI => wpt_yes (iteT ((q.2.1 d a o (List.mem_of_getElem? hd)).imp fun y hy => by
    have hI' : acc = (ds.take i).map f := hI
    show acc ++ [y] = (ds.take (i + 1)).map f
    rw [hI', hy, List.take_add_one, hd, List.map_append]
    rfl)), fun acc hI => by
    have hI' : acc = (ds.take ds.length).map f := hI
    rw [List.take_of_length_le (Nat.le_refl _)] at hI'
    rw [hI']
    exact q.2.2⟩)
theorem wpl_map2 {wi : TI} {j2 : Nat} {Q : List D → Prop} (f : D → D) (hj : G[j]? = some .no) (hj2 : G[j2]? = some .no)
    (h : wpi w wi G fun ds => ds.length ≤ 1000000 ∧ (∀ d a o, d ∈ ds → ∃ x y, d = .tup [x, y] ∧ wp (w.push a o) te ((G.set j (.d x)).set j2 (.d y)) fun y => y = f d) ∧ Q (ds.map f)) : wpl w (tLc wi (gTup w.K 2 (gCons (gName j) (gCons (gName j2) gNil))) tYes te [j, j2]) G Q :=
  wpl_lcNN hj hj2 (h.imp fun ds q => ⟨q.1, fun i acc => acc = (ds.take i).map f, rfl, fun i d acc a o hd hI => by
    obtain ⟨x, y, e, t⟩ := q.2.1 d a o (List.mem_of_getElem? hd)
    exact ⟨x, y, e, wpt_yes (iteT (t.imp fun y hy => by
      have hI' : acc = (ds.take i).map f := hI
      show acc ++ [y] = (ds.take (i + 1)).map f
      rw [hI', hy, List.take_add_one, hd, List.map_append]
      rfl))⟩, fun acc hI => by
    have hI' : acc = (ds.take ds.length).map f := hI
    rw [List.take_of_length_le (Nat.le_refl _)] at hI'
    rw [hI']
    exact q.2.2⟩)
theorem wpl_filter {wi : TI} {Q : List D → Prop} (p : D → Bool) (f : D → D) (hj : G[j]? = some .no)
    (h : wpi w wi G fun ds => ds.length ≤ 1000000 ∧ (∀ d a o, d ∈ ds → wpt (w.push a o) tt (G.set j (.d d)) fun b => b = p d ∧ (b = true → wp (w.push a o) te (G.set j (.d d)) fun y => y = f d)) ∧ Q ((ds.filter p).map f)) : wpl w (tLc wi (gName j) tt te [j]) G Q :=
  wpl_lcN hj (h.imp fun ds q => ⟨q.1, fun i acc => acc = ((ds.take i).filter p).map f, rfl, fun i d acc a o hd hI => (q.2.1 d a o (List.mem_of_getElem? hd)).imp fun b hb => by
    have step : (ds.take (i + 1)).filter p = (ds.take i).filter p ++ if p d = true then [d] else [] := by
      rw [List.take_add_one, hd, List.filter_append]
      congr 1
      show List.filter p [d] = _
      by_cases e : p d = true
      · rw [if_pos e, List.filter_cons_of_pos e]; rfl
      · rw [if_neg e, List.filter_cons_of_neg e]; rfl
    obtain ⟨e, t⟩ := hb
    cases b with
    | true =>
      refine iteT ((t rfl).imp fun y hy => ?_)
      show acc ++ [y] = ((ds.take (i + 1)).filter p).map f
      have hI' : acc = ((ds.take i).filter p).map f := hI
      rw [step, if_pos e.symm, List.map_append, hI', hy]
      rfl
    | false =>
      refine iteF ?_
      show acc = ((ds.take (i + 1)).filter p).map f
      have hI' : acc = ((ds.take i).filter p).map f := hI
      rw [step, if_neg (by rw [← e]; decide), List.append_nil, hI'], fun acc hI => by
    have hI' : acc = ((ds.take ds.length).filter p).map f := hI
    rw [List.take_of_length_le (Nat.le_refl _)] at hI'
    rw [hI']
    exact q.2.2⟩)
/-- each turn gives something of which p holds -/
theorem wpl_each {wi : TI} {Q : List D → Prop} (p : D → Prop) (hj : G[j]? = some .no)
    (h : wpi w wi G fun ds => ds.length ≤ 1000000 ∧ (∀ d a o, d ∈ ds → wp (w.push a o) te (G.set j (.d d)) p) ∧ ∀ ys, ys.length = ds.length → (∀ y, y ∈ ys → p y) → Q ys) : wpl w (tLc wi (gName j) tYes te [j]) G Q :=
  wpl_lcN hj (h.imp fun ds q => ⟨q.1, fun i acc => acc.length = i ∧ ∀ y, y ∈ acc → p y, ⟨rfl, fun _ h => nomatch h⟩, fun i d acc a o hd hI => wpt_yes (iteT ((q.2.1 d a o (List.mem_of_getElem? hd)).imp fun y hy =>
    ⟨by rw [List.length_append, hI.1]; rfl, fun z hz => by
      rcases List.mem_append.mp hz with hz | hz
      · exact hI.2 z hz
      · obtain rfl : z = y := by simpa using hz
        exact hy⟩)), fun acc hI => q.2.2 acc hI.1 hI.2⟩)
theorem wpl_each2 {wi : TI} {j2 : Nat} {Q : List D → Prop} (p : D → Prop) (hj : G[j]? = some .no) (hj2 : G[j2]? = some .no)
    (h : wpi w wi G fun ds => ds.length ≤ 1000000 ∧ (∀ d a o, d ∈ ds → ∃ x y, d = .tup [x, y] ∧ wp (w.push a o) te ((G.set j (.d x)).set j2 (.d y)) p) ∧ ∀ ys, ys.length = ds.length → (∀ y, y ∈ ys → p y) → Q ys) : wpl w (tLc wi (gTup w.K 2 (gCons (gName j) (gCons (gName j2) gNil))) tYes te [j, j2]) G Q :=
  wpl_lcNN hj hj2 (h.imp fun ds q => ⟨q.1, fun i acc => acc.length = i ∧ ∀ y, y ∈ acc → p y, ⟨rfl, fun _ h => nomatch h⟩, fun i d acc a o hd hI => by
    obtain ⟨x, y, e, t⟩ := q.2.1 d a o (List.mem_of_getElem? hd)
    exact ⟨x, y, e, wpt_yes (iteT (t.imp fun y hy =>
      ⟨by rw [List.length_append, hI.1]; rfl, fun z hz => by
        rcases List.mem_append.mp hz with hz | hz
        · exact hI.2 z hz
        · obtain rfl : z = y := by simpa using hz
          exact hy⟩))⟩, fun acc hI => q.2.2 acc hI.1 hI.2⟩)
end
end Sd
namespace Sd
open PySem PySem.Spec L2
theorem kit_bi {K : PySem.W.Frag} {d : D} {T : String} (hT : T ∈ ["str", "int", "bool", "tuple", "list", "dict"]) (h : noObj d = true) : PySem.W.kitOne K (tyD d) (.type T) = some (isT T d) := by
  simp only [List.mem_cons, List.not_mem_nil, or_false] at hT
  cases d with
  | non => rcases hT with rfl | rfl | rfl | rfl | rfl | rfl <;> first | exact kit_ty (r := true) (by decide +kernel) | exact kit_ty (r := false) (by decide +kernel)
  | bl b => rcases hT with rfl | rfl | rfl | rfl | rfl | rfl <;> first | exact kit_ty (r := true) (by decide +kernel) | exact kit_ty (r := false) (by decide +kernel)
  | int i => rcases hT with rfl | rfl | rfl | rfl | rfl | rfl <;> first | exact kit_ty (r := true) (by decide +kernel) | exact kit_ty (r := false) (by decide +kernel)
  | str x => rcases hT with rfl | rfl | rfl | rfl | rfl | rfl <;> first | exact kit_ty (r := true) (by decide +kernel) | exact kit_ty (r := false) (by decide +kernel)
  | tup xs => rcases hT with rfl | rfl | rfl | rfl | rfl | rfl <;> first | exact kit_ty (r := true) (by decide +kernel) | exact kit_ty (r := false) (by decide +kernel)
  | lst xs => rcases hT with rfl | rfl | rfl | rfl | rfl | rfl <;> first | exact kit_ty (r := true) (by decide +kernel) | exact kit_ty (r := false) (by decide +kernel)
  | obj C ns ds => cases h
section
variable {w : Wd} {G : List Ent} {Q : D → Prop} {te ta tb : TE} {tt : TT} {tas : TA} {i j : Nat}
theorem wp_isiB {T : String} (hT : T ∈ ["str", "int", "bool", "tuple", "list", "dict"]) (h : wp w ta G fun x => noObj x = true ∧ Q (.bl (isT T x))) : wp w (tCB (rIsi w.K) (tCons ta (tCons (tC (.ty T)) tNil))) G Q :=
  wp_isi (h.imp fun d q => ⟨fun C ns ds e => by rw [e] at q; exact Bool.noConfusion (show false = true from q.1), _, kit_bi hT q.1, q.2⟩)
/-- a test whose answer is known -/
theorem wps_ifD {t u : TS} {N : List Ent → Prop} {R : List Ent → D → Prop} (b : Bool) (h : wpt w tt G fun c => c = b) (h1 : b = true → wps w t G N R) (h2 : b = false → wps w u G N R) : wps w (tIfS tt t u) G N R :=
  wps_if (h.imp fun c e => by rw [e]; exact ite_b h1 h2)
theorem wp_ifD (b : Bool) (h : wpt w tt G fun c => c = b) (h1 : b = true → wp w ta G Q) (h2 : b = false → wp w tb G Q) : wp w (tIf tt ta tb) G Q :=
  wp_if (h.imp fun c e => by rw [e]; exact ite_b h1 h2)
theorem wpt_orD {tu : TT} {b c : Bool} (h : wpt w tt G fun x => x = b) (h2 : b = false → wpt w tu G fun x => x = c) : wpt w (tOr tt tu) G fun x => x = (b || c) :=
  wpt_or (h.imp fun x e => by rw [e]; cases b with | true => exact iteT rfl | false => exact iteF ((h2 rfl).imp fun y e => by rw [e]; rfl))
theorem wpt_andD {tu : TT} {b c : Bool} (h : wpt w tt G fun x => x = b) (h2 : b = true → wpt w tu G fun x => x = c) : wpt w (tAnd tt tu) G fun x => x = (b && c) :=
  wpt_and (h.imp fun x e => by rw [e]; cases b with | false => exact iteF rfl | true => exact iteT ((h2 rfl).imp fun y e => by rw [e]; rfl))
theorem wpt_notD {b : Bool} (h : wpt w tt G fun x => x = b) : wpt w (tNot tt) G fun x => x = !b := wpt_not (h.imp fun x e => by rw [e])
end
end Sd
set_option Elab.async false
set_option linter.all false
set_option maxRecDepth 100000
set_option maxHeartbeats 4000000
/-! M1: what the checks of programs.py compute, by data. -/
namespace Sd
open PySem PySem.Spec L2

mutual
/-- no objects, texts and tuples of a usual size, signs that are signs -/
def okD : D → Bool
  | .str s => decide (s.length ≤ 1000000) && PyData.strOk s
  | .tup xs => decide (xs.length ≤ 1000000) && okL xs
  | .lst xs => decide (xs.length ≤ 1000000) && okL xs
  | .obj .. => false
  | _ => true
def okL : List D → Bool
  | [] => true
  | x :: xs => okD x && okL xs
end
mutual
def dep : D → Nat
  | .tup xs => depL xs + 1
  | .lst xs => depL xs + 1
  | _ => 0
def depL : List D → Nat
  | [] => 0
  | x :: xs => max (dep x) (depL xs)
end
def Ok (d : D) : Prop := okD d = true ∧ dep d ≤ 60
theorem okL_mem : ∀ {xs : List D} {x : D}, okL xs = true → x ∈ xs → okD x = true
  | [], _, _, h => nomatch h
  | y :: ys, x, h, hx => by
    have h' : okD y = true ∧ okL ys = true := by simpa [okL] using h
    rcases List.mem_cons.mp hx with rfl | hx
    · exact h'.1
    · exact okL_mem h'.2 hx
theorem depL_mem : ∀ {xs : List D} {x : D}, x ∈ xs → dep x ≤ depL xs
  | [], _, h => nomatch h
  | y :: ys, x, hx => by
    rw [depL]
    rcases List.mem_cons.mp hx with rfl | hx
    · exact Nat.le_max_left _ _
    · exact Nat.le_trans (depL_mem hx) (Nat.le_max_right _ _)
theorem okL_of : ∀ {xs : List D}, (∀ x ∈ xs, okD x = true) → okL xs = true
  | [], _ => rfl
  | y :: ys, h => by
    rw [okL, h y (by simp), okL_of fun x hx => h x (by simp [hx])]
    rfl
theorem depL_of {n : Nat} : ∀ {xs : List D}, (∀ x ∈ xs, dep x ≤ n) → depL xs ≤ n
  | [], _ => Nat.zero_le _
  | y :: ys, h => by
    rw [depL]
    exact Nat.max_le.mpr ⟨h y (by simp), depL_of fun x hx => h x (by simp [hx])⟩
theorem Ok.tup {xs : List D} (h : Ok (.tup xs)) : xs.length ≤ 1000000 ∧ ∀ x ∈ xs, Ok x := by
  obtain ⟨h1, h2⟩ := h
  have h1' : xs.length ≤ 1000000 ∧ okL xs = true := by simpa [okD] using h1
  rw [dep] at h2
  exact ⟨h1'.1, fun x hx => ⟨okL_mem h1'.2 hx, by have := depL_mem hx; omega⟩⟩
theorem Ok.lst {xs : List D} (h : Ok (.lst xs)) : xs.length ≤ 1000000 ∧ ∀ x ∈ xs, Ok x := by
  obtain ⟨h1, h2⟩ := h
  have h1' : xs.length ≤ 1000000 ∧ okL xs = true := by simpa [okD] using h1
  rw [dep] at h2
  exact ⟨h1'.1, fun x hx => ⟨okL_mem h1'.2 hx, by have := depL_mem hx; omega⟩⟩
theorem Ok.str {s : Str} (h : Ok (.str s)) : s.length ≤ 1000000 ∧ PyData.strOk s = true := by
  have h1 : s.length ≤ 1000000 ∧ PyData.strOk s = true := by simpa [okD] using h.1
  exact h1
theorem Ok.noObj {d : D} (h : Ok d) : noObj d = true := by
  cases d <;> first | rfl | exact Bool.noConfusion (show false = true from h.1)
theorem ok_tup {xs : List D} {n : Nat} (hl : xs.length ≤ 1000000) (h : ∀ x ∈ xs, okD x = true ∧ dep x ≤ n) : okD (.tup xs) = true ∧ dep (.tup xs) ≤ n + 1 := by
  refine ⟨?_, ?_⟩
  · rw [okD, okL_of fun x hx => (h x hx).1, decide_eq_true hl]; rfl
  · rw [dep]
    have := depL_of fun x hx => (h x hx).2
    omega
mutual
theorem pl_of_ok : ∀ d : D, okD d = true → pl d = true
  | .non, _ => by simp [pl]
  | .bl _, _ => by simp [pl]
  | .int _, _ => by simp [pl]
  | .str _, _ => by simp [pl]
  | .tup xs, h => by
    have h' : xs.length ≤ 1000000 ∧ okL xs = true := by simpa [okD] using h
    rw [pl]; exact plL_of_ok xs h'.2
  | .lst xs, h => by
    have h' : xs.length ≤ 1000000 ∧ okL xs = true := by simpa [okD] using h
    rw [pl]; exact plL_of_ok xs h'.2
  | .obj .., h => by simp [okD] at h
theorem plL_of_ok : ∀ d : List D, okL d = true → plL d = true
  | [], _ => by simp [plL]
  | x :: xs, h => by
    have h' : okD x = true ∧ okL xs = true := by simpa [okL] using h
    rw [plL, pl_of_ok x h'.1, plL_of_ok xs h'.2]; rfl
end
mutual
theorem lay_of_ok : ∀ d : D, okD d = true → (toPy d).canLay0 = true
  | .non, _ => by simp [toPy, PyData.canLay0]
  | .bl _, _ => by simp [toPy, PyData.canLay0]
  | .int _, _ => by simp [toPy, PyData.canLay0]
  | .str s, h => by
    have h' : s.length ≤ 1000000 ∧ PyData.strOk s = true := by simpa [okD] using h
    simp [toPy, PyData.canLay0, h'.2]
  | .tup xs, h => by
    have h' : xs.length ≤ 1000000 ∧ okL xs = true := by simpa [okD] using h
    rw [toPy, PyData.canLay0]; exact layL_of_ok xs h'.2
  | .lst xs, h => by
    have h' : xs.length ≤ 1000000 ∧ okL xs = true := by simpa [okD] using h
    rw [toPy, PyData.canLay0]; exact layL_of_ok xs h'.2
  | .obj .., h => by simp [okD] at h
theorem layL_of_ok : ∀ d : List D, okL d = true → PyData.canLayAll0 (toPyL d) = true
  | [], _ => by simp [toPyL, PyData.canLayAll0]
  | x :: xs, h => by
    have h' : okD x = true ∧ okL xs = true := by simpa [okL] using h
    rw [toPyL, PyData.canLayAll0, lay_of_ok x h'.1, layL_of_ok xs h'.2]; rfl
end
mutual
theorem dep_py : ∀ d : D, (toPy d).depth = dep d
  | .non => by simp [toPy, PyData.depth, dep]
  | .bl _ => by simp [toPy, PyData.depth, dep]
  | .int _ => by simp [toPy, PyData.depth, dep]
  | .str _ => by simp [toPy, PyData.depth, dep]
  | .tup xs => by rw [toPy, PyData.depth, dep, depL_py xs]
  | .lst xs => by rw [toPy, PyData.depth, dep, depL_py xs]
  | .obj .. => by simp [toPy, PyData.depth, dep]
theorem depL_py : ∀ d : List D, PyData.depthAll (toPyL d) = depL d
  | [] => by simp [toPyL, PyData.depthAll, depL]
  | x :: xs => by rw [toPyL, PyData.depthAll, depL, dep_py x, depL_py xs]
end
theorem Ok.cmp {d : D} (h : Ok d) : cmpOk d = true := by
  unfold cmpOk SeqAt.shaped
  rw [pl_of_ok d h.1, lay_of_ok d h.1, dep_py, decide_eq_true (show dep d ≤ 64 by have := h.2; omega)]
  rfl

/-! ### the checks -/
def isIntD : D → Bool
  | .int _ => true
  | _ => false
abbrev letters : Str := "abcdefghijklmnopqrstuvwxyz"
def isNameS (s : Str) : Bool := decide (1 ≤ s.length) && decide (s.length ≤ 8) && s.cps.toList.all fun c => decide (c ∈ letters.cps.toList)
def isNameD : D → Bool
  | .str s => isNameS s
  | _ => false
/-- texts that ascend -/
def ascD : List D → Bool
  | .str a :: .str b :: r => decide (a.cps.toList < b.cps.toList) && ascD (.str b :: r)
  | _ => true
def areKindsD : D → Bool
  | .tup xs => decide (1 ≤ xs.length) && decide (xs.length ≤ 4) && xs.all isNameD && ascD xs
  | _ => false
def isStateD (n : Int) : D → Bool
  | .int i => decide (0 ≤ i) && decide (i < n)
  | _ => false
def isPairD (n : Int) : D → Bool
  | .tup [a, b] => isStateD n a && isIntD b
  | _ => false
def isRowD (size : Int) (n : Int) : D → Bool
  | .tup ps => decide ((ps.length : Int) = size) && ps.all (isPairD n)
  | _ => false
def areRowsD (size : Int) : D → Bool
  | .tup rows => !rows.isEmpty && rows.all (isRowD size rows.length)
  | _ => false
def lenT : D → Nat
  | .tup xs => xs.length
  | _ => 0
def isPassD (size begins : Int) : D → Bool
  | .tup [.tup bs, r] => areRowsD size r && decide ((bs.length : Int) = begins) && bs.all (isStateD (lenT r))
  | _ => false
def rowsOf : D → D
  | .tup [_, r] => r
  | _ => .non
def arePassesD (size : Int) : D → Bool
  | .tup (p :: ps) => decide (ps.length ≤ 1) && isPassD size 1 p && ps.all (isPassD size (lenT (rowsOf p)))
  | _ => false
def isTellD : D → Bool
  | .tup [l, e] => isNameD l && isIntD e
  | _ => false
end Sd
set_option Elab.async false
set_option linter.all false
set_option maxRecDepth 100000
set_option maxHeartbeats 4000000
/-! Sd6: more forms. -/
namespace Sd
open PySem PySem.Spec L2
section
variable {w : Wd} {G : List Ent} {Q : D → Prop} {te ta tb : TE} {tt : TT} {tas : TA} {i j : Nat}
theorem all_map {xs : List D} (g : D → Bool) : (xs.map g).all id = xs.all g := by
  rw [List.all_map]; rfl
theorem any_map {xs : List D} (g : D → Bool) : (xs.map g).any id = xs.any g := by
  rw [List.any_map]; rfl
/-- all([e for x in ..]) -/
theorem wp_allLc {wi : TI} (g : D → Bool) (hj : G[j]? = some .no)
    (h : wpi w wi G fun ds => ds.length ≤ 1000000 ∧ (∀ d a o, d ∈ ds → wp (w.push a o) te (G.set j (.d d)) fun y => y = .bl (g d)) ∧ Q (.bl (ds.all g))) : wp w (tCB (rAll w.K) (tCons (tLc wi (gName j) tYes te [j]) tNil)) G Q := by
  refine wp_cb (wpa_cons (wp_l (wpl_map (fun d => .bl (g d)) hj (h.imp fun ds q => ⟨q.1, q.2.1, wpa_nil ?_⟩))))
  rw [show ds.map (fun d => D.bl (g d)) = (ds.map g).map .bl by rw [List.map_map]; rfl]
  exact rc_all (by rw [all_map]; exact q.2.2)
theorem wp_allLc2 {wi : TI} {j2 : Nat} (g : D → Bool) (hj : G[j]? = some .no) (hj2 : G[j2]? = some .no)
    (h : wpi w wi G fun ds => ds.length ≤ 1000000 ∧ (∀ d a o, d ∈ ds → ∃ x y, d = .tup [x, y] ∧ wp (w.push a o) te ((G.set j (.d x)).set j2 (.d y)) fun y => y = .bl (g d)) ∧ Q (.bl (ds.all g))) :
    wp w (tCB (rAll w.K) (tCons (tLc wi (gTup w.K 2 (gCons (gName j) (gCons (gName j2) gNil))) tYes te [j, j2]) tNil)) G Q := by
  refine wp_cb (wpa_cons (wp_l (wpl_map2 (fun d => .bl (g d)) hj hj2 (h.imp fun ds q => ⟨q.1, q.2.1, wpa_nil ?_⟩))))
  rw [show ds.map (fun d => D.bl (g d)) = (ds.map g).map .bl by rw [List.map_map]; rfl]
  exact rc_all (by rw [all_map]; exact q.2.2)
theorem wp_chainI {g g' : Int → Int → Bool} {tc : TE} (k : Int) (hc : wp w tc G fun u => u = .int k) (h : wp w ta G fun x => wp w tb G fun y => ∃ i j, x = .int i ∧ y = .int j ∧ Q (.bl (g i j && g' j k))) :
    wp w (tChain (rI0 fun i j => .bl (g i j)) (rI0 fun i j => .bl (g' i j)) ta tb tc) G Q := by
  refine wp_chain (h.imp fun x q => q.imp fun y q => ?_)
  obtain ⟨i, j, rfl, rfl, q⟩ := q
  refine r2_ib ⟨_, rfl, ?_⟩
  cases e : g i j with
  | true =>
    rw [e] at q
    exact iteT (hc.imp fun u eu => by rw [eu]; exact r2_ib q)
  | false =>
    rw [e] at q
    exact iteF q
theorem wps_asgV {N : List Ent → Prop} {R : List Ent → D → Prop} {i : Nat} (d : D) (h : wp w te G fun x => x = d) (k : N (G.set i (.d d))) : wps w (tAsg te (gName i)) G N R := wps_asg (h.imp fun x e => by rw [e]; exact k)
theorem wp_is (d : D) (h : wp w te G fun x => x = d) (k : Q d) : wp w te G Q := h.imp fun x e => by rw [e]; exact k
theorem wpa_is {Q : List D → Prop} {tr : TA} (d : D) (h : wp w te G fun x => x = d) (k : wpa w tr G fun ds => Q (d :: ds)) : wpa w (tCons te tr) G Q := wpa_cons (wp_is d h k)
theorem wp_ifV {tt : TT} (b : Bool) (h : wpt w tt G fun c => c = b) (h1 : b = true → wp w ta G Q) (h2 : b = false → wp w tb G Q) : wp w (tIf tt ta tb) G Q := wp_ifD b h h1 h2
theorem all_bl {y : D} {b : Bool} (h : y = .bl b) : ∃ c, y = .bl c ∧ c = b := ⟨b, h, rfl⟩
/-- f(..) == what is known -/
theorem wp_callB' {pre : List D → Prop} {post : List D → D → Prop} {E : XK} (h : wpa w tas G fun ds => pre ds ∧ ∀ d, post ds d → Q d) : wp w (tCall (spP w.K pre post) [] E tas) G Q := wp_callP h
end
theorem nb_t {b : Bool} (h : (!b) = true) : b = false := by cases b <;> first | rfl | cases h
theorem nb_f {b : Bool} (h : (!b) = false) : b = true := by cases b <;> first | rfl | cases h
theorem len_str {x : Str} (h : x.length ≤ 1000000) : lenD (.str x) = some x.length := if_pos h
theorem eqv_nil {xs : List D} : eqvD (.tup xs) (.tup []) = xs.isEmpty := by
  cases xs with
  | nil => simp [eqvD, toPy, toPyL, PyData.eqv, PyData.eqvAll]
  | cons x xs => simp [eqvD, toPy, toPyL, PyData.eqv, PyData.eqvAll]
theorem ok_nil : Ok (.tup []) := ⟨by rw [okD, okL]; decide, by decide +kernel⟩
theorem isT_tup {d : D} (h : isT "tuple" d = true) : ∃ xs, d = .tup xs := by
  cases d with
  | tup xs => exact ⟨xs, rfl⟩
  | _ => simp [isT] at h
theorem isT_str {d : D} (h : isT "str" d = true) : ∃ xs, d = .str xs := by
  cases d with
  | str xs => exact ⟨xs, rfl⟩
  | _ => simp [isT] at h
theorem isT_int {d : D} (h : isT "int" d = true) : (∃ i, d = .int i) ∨ ∃ b, d = .bl b := by
  cases d with
  | int i => exact .inl ⟨i, rfl⟩
  | bl b => exact .inr ⟨b, rfl⟩
  | _ => simp [isT] at h
theorem isT_lst {d : D} (h : isT "list" d = true) : ∃ xs, d = .lst xs := by
  cases d with
  | lst xs => exact ⟨xs, rfl⟩
  | _ => simp [isT] at h
theorem isT_notTup {d : D} (h : isT "tuple" d = false) : ∀ xs, d ≠ .tup xs := fun xs e => by rw [e] at h; simp [isT] at h
theorem isT_notStr {d : D} (h : isT "str" d = false) : ∀ xs, d ≠ .str xs := fun xs e => by rw [e] at h; simp [isT] at h
theorem castE {X : Cx} {e : Expr} {t t' : TE} (h : PE X e t') (q : t' = t) : PE X e t := q ▸ h
theorem castT {X : Cx} {e : List Expr} {t t' : TT} (h : PTs X e t') (q : t' = t) : PTs X e t := q ▸ h
theorem castG {X : Cx} {e : Expr} {t t' : TG} (h : PG X e t') (q : t' = t) : PG X e t := q ▸ h
end Sd
set_option Elab.async false
set_option linter.all false
set_option maxRecDepth 100000
set_option maxHeartbeats 4000000
/-! Sd7: calls by keyword, an own class's == and !=. -/
namespace Sd
open PySem PySem.Spec L2
/-- the keywords' values in the parameters' order: for each parameter left, which keyword it takes -/
def ordK {α : Type} (ix : List Nat) (zs : List α) : List α := ix.filterMap fun i => zs[i]?
theorem vals_getO : ∀ {vs : List V} {us : List Value} (i : Nat), Vals vs us → (∃ v u, vs[i]? = some v ∧ us[i]? = some u ∧ RelV v u) ∨ (vs[i]? = none ∧ us[i]? = none)
  | _, _, _, .nil => .inr ⟨rfl, rfl⟩
  | _, _, 0, .cons r t => .inl ⟨_, _, rfl, rfl, r⟩
  | _, _, i + 1, .cons r t => by
    rcases vals_getO i t with h | h
    · exact .inl h
    · exact .inr h
theorem vals_ordK {vs : List V} {us : List Value} (r : Vals vs us) : ∀ ix : List Nat, Vals (ordK ix vs) (ordK ix us)
  | [] => .nil
  | i :: ix => by
    rcases vals_getO i r with ⟨v, u, h1, h2, h3⟩ | ⟨h1, h2⟩
    · have e1 : ordK (i :: ix) vs = v :: ordK ix vs := by unfold ordK; rw [List.filterMap_cons, h1]
      have e2 : ordK (i :: ix) us = u :: ordK ix us := by unfold ordK; rw [List.filterMap_cons, h2]
      rw [e1, e2]
      exact .cons h3 (vals_ordK r ix)
    · have e1 : ordK (i :: ix) vs = ordK ix vs := by unfold ordK; rw [List.filterMap_cons, h1]
      have e2 : ordK (i :: ix) us = ordK ix us := by unfold ordK; rw [List.filterMap_cons, h2]
      rw [e1, e2]
      exact vals_ordK r ix
/-- how a call binds that writes n values and the keywords ks -/
structure KW (K : PySem.W.Frag) (fd : FuncData) (ps : List Str) (n : Nat) (ks : List Str) (ix : List Nat) : Prop where
  to : ∀ (s : Shared) (us ws : List Value), us.length = n → ws.length = ks.length → BindsTo s fd ⟨us, ks.zip ws⟩ (ps.zip (us ++ ordK ix ws))
def tCallW (n m : Nat) (ix : List Nat) (sp : Sp) (E : XK) (t tk : TA) : TE := fun σ H Q => t σ H fun vs H1 => tk σ H1 fun zs H2 => vs.length = n ∧ zs.length = m ∧ sp (vs ++ ordK ix zs) H2 Q E
section
variable {X : Cx} {CX : CXT} {k n : Nat} {f C : Addr} {fd : FuncData} {ps ks : List Str} {sp : Sp} {E : XK} {x : Str} {p pos : Pos} {e : Expr} {es : List Expr} {kws : List Keyword} {t tk : TA} {ix : List Nat}
theorem run_fnw {pins : List (Addr × Obj)} {σ : L2.St} {H : Hp} {s : Shared} {Q : VK} {us ws : List Value} {vs zs : List V} (F : FnOk X.prog X.w X.K X.mg X.base CX k f fd ps sp) (hr : Room k X.A) (hb : KW X.K fd ps n ks ix) (hx : Passes CX X E)
    (I : Inv X pins σ H s) (r : Vals vs us) (rz : Vals zs ws) (hn : vs.length = n) (hm : zs.length = ks.length) (h : sp (vs ++ ordK ix zs) H Q E) : wpAny (model X.prog X.w) X.A (call (.ref f) us (ks.zip ws)) (EP X pins σ Q) X.xe s := by
  refine wpAny_call (codeAny_mono (F.run X.A X.stack s H ⟨us, ks.zip ws⟩ (us ++ ordK ix ws) (vs ++ ordK ix zs) Q E hr I.env0 (hb.to s us ws (r.length.symm.trans hn) (rz.length.symm.trans hm)) (r.append (vals_ordK rz ix)) h) fun q s' hq => ?_)
  rcases q with er | fl
  · exact hx pins σ H s er s' I hq
  · cases fl <;> first | exact I.after hq | exact False.elim hq
theorem pe_callW0 (F : FnOk X.prog X.w X.K X.mg X.base CX k f fd ps sp) (hr : Room k X.A) (hg : Gl X x) (hm : X.mg x = some (.ref f)) (hk : PySem.W.keepIn X.K (.ref f) = true) (hb : KW X.K fd ps 0 ks ix) (hx : Passes CX X E)
    (hkw : PK X kws tk) (hall : (backToKw pos (keywordEach kws X.env)).all (·.1.isSome) = true := by rfl) (hks : (backToKw pos (keywordEach kws X.env)).filterMap (·.1) = ks := by rfl)
    (hdb : (x == ("__debug__" : Str)) = false := by decide)
    (hpl : ((backTo pos (starEach [] X.env)).any (·.1) || (backToKw pos (keywordEach kws X.env)).any (·.1.isNone)) = false := by rfl) :
    PE X (.Call (.Name x p) [] kws pos) (tCallW 0 ks.length ix sp E tNil tk) := ⟨fun pins s σ H Q I h => by
  refine wpAny_Call_Name_kw (ld_glob I hg hm (PySem.W.callWith_KW0 (h₀ := X.base) I.ok.mod.kin hk hall ?_ hpl) hdb)
  refine thn (hkw.run pos pins s σ H _ I h) fun ws s2 ⟨zs, H2, I2, rz, hn, hm, q2⟩ => ⟨I2.kIn, ?_⟩
  rw [hks]
  exact run_fnw (us := []) (vs := []) F hr hb hx I2 .nil rz hn hm q2⟩
theorem pe_callW (F : FnOk X.prog X.w X.K X.mg X.base CX k f fd ps sp) (hr : Room k X.A) (hg : Gl X x) (hm : X.mg x = some (.ref f)) (hk : PySem.W.keepIn X.K (.ref f) = true) (hb : KW X.K fd ps n ks ix) (hx : Passes CX X E)
    (ha : PA X (e :: es) t) (hkw : PK X kws tk) (hall : (backToKw pos (keywordEach kws X.env)).all (·.1.isSome) = true := by rfl) (hks : (backToKw pos (keywordEach kws X.env)).filterMap (·.1) = ks := by rfl)
    (hdb : (x == ("__debug__" : Str)) = false := by decide) (he : starEach (e :: es) X.env = (false, eval e X.env) :: starEach es X.env := by rfl)
    (hpl : ((backTo pos (starEach (e :: es) X.env)).any (·.1) || (backToKw pos (keywordEach kws X.env)).any (·.1.isNone)) = false := by rfl) :
    PE X (.Call (.Name x p) (e :: es) kws pos) (tCallW n ks.length ix sp E t tk) := ⟨fun pins s σ H Q I h => by
  refine wpAny_Call_Name_kw (ld_glob I hg hm (PySem.W.callWith_KW (h₀ := X.base) I.ok.mod.kin hk hall (thn (ha.run pos pins s σ H _ I h) fun us s1 ⟨vs, H1, I1, r, q⟩ => ?_) hpl he) hdb)
  refine thn (hkw.run pos pins s1 σ H1 _ I1 q) fun ws s2 ⟨zs, H2, I2, rz, hn, hm, q2⟩ => ⟨I2.kIn, ?_⟩
  rw [hks]
  exact run_fnw F hr hb hx I2 r rz hn hm q2⟩
end
theorem rpl_ordK {K : PySem.W.Frag} {F : Hp} {vs : List V} {ds : List D} (r : RpL K F vs ds) : ∀ ix : List Nat, RpL K F (ordK ix vs) (ordK ix ds)
  | [] => .nil
  | i :: ix => by
    cases h : ds[i]? with
    | none =>
      have h1 : vs[i]? = none := by rw [List.getElem?_eq_none_iff] at h ⊢; rw [r.length]; exact h
      have e1 : ordK (i :: ix) vs = ordK ix vs := by unfold ordK; rw [List.filterMap_cons, h1]
      have e2 : ordK (i :: ix) ds = ordK ix ds := by unfold ordK; rw [List.filterMap_cons, h]
      rw [e1, e2]; exact rpl_ordK r ix
    | some d =>
      obtain ⟨v, h1, rv⟩ := r.getD h
      have e1 : ordK (i :: ix) vs = v :: ordK ix vs := by unfold ordK; rw [List.filterMap_cons, h1]
      have e2 : ordK (i :: ix) ds = d :: ordK ix ds := by unfold ordK; rw [List.filterMap_cons, h]
      rw [e1, e2]; exact .cons rv (rpl_ordK r ix)
section
variable {w : Wd} {G : List Ent} {Q : D → Prop} {te ta tb : TE} {tas tks : TA} {pre : List D → Prop} {post : List D → D → Prop} {E : XK} {ix : List Nat} {n m : Nat}
theorem wp_callW (h : wpa w tas G fun ds => wpa w tks G fun es => ds.length = n ∧ es.length = m ∧ pre (ds ++ ordK ix es) ∧ ∀ d, post (ds ++ ordK ix es) d → Q d) : wp w (tCallW n m ix (spP w.K pre post) E tas tks) G Q := fun σ F H A k z =>
  h σ F H A _ fun vs ds F1 H1 s1 A1 r1 h1 => h1 σ F1 H1 A1 _ fun us es F2 H2 s2 A2 r2 q =>
    ⟨r1.length.trans q.1, r2.length.trans q.2.1, F2, _, A2.fh, (r1.mono s2).append (rpl_ordK r2 ix), q.2.2.1, fun v d H' s r p => z v d _ H' ((s1.trans s2).trans A2.same) (A2.step s) r (q.2.2.2 d p)⟩
end

/-! ### an own class's == and != -/
structure OwnCmp (K : PySem.W.Frag) (C f : Addr) : Prop where
  eq : PySem.W.findIn K (.ref C) "__eq__" = some (some (.ref f))
  fn : PySem.W.isFn K (.ref f) = true
  ne : PySem.W.findIn K (.ref C) "__ne__" = some (some (.builtin "object.__ne__"))
  mo : PySem.W.mroIn K C (.type "object") = some true
def rEqO (C : Addr) (sp : Sp) (E : XK) : R2 := fun x y H Q => ∃ a b dx dy fs gs, x = .ref a ∧ y = .ref b ∧ H a = some (.ins C dx fs) ∧ H b = some (.ins C dy gs) ∧ sp [x, y] H (fun v H' => ∃ k, v = .bl k ∧ Q (.bl k) H') E
def rNeO (C : Addr) (sp : Sp) (E : XK) : R2 := fun x y H Q => ∃ a b dx dy fs gs, x = .ref a ∧ y = .ref b ∧ H a = some (.ins C dx fs) ∧ H b = some (.ins C dy gs) ∧ sp [x, y] H (fun v H' => ∃ k, v = .bl k ∧ Q (.bl !k) H') E
section
variable {prog : Program} {wd : World} {A : Around} {E : Value → Shared → Prop} {s : Shared} {K : PySem.W.Frag} {x C : Addr} {ox : Obj} {od : Option Obj} {name : Str} {b : Value}
theorem ifBound_B {M : Model} {id : String} {args : List Value} {Q : Option Value → Shared → Prop} (X : K.In s.heap) (I : PySem.W.InstAt s.heap x ox C od) (hs : PySem.W.findIn K (.ref C) name = some (some (.builtin id))) (S : Slot "object" name id)
    (h : wpAny M A (call (.builtin id) (.ref x :: args)) (fun v => Q (some v)) E s) : wpAny M A (callSpecialIfBound? (.ref x) name args) Q E s := by
  simp only [callSpecialIfBound?, bindSpecialIfBound?]
  refine wpAny_holding (wpAny_bind (wpAny_bind (wpAny_bind (I.type.here ((PySem.W.looks_findIn X hs).here (wpAny_bind (wpAny_askSetting (wpAny_ite ?_))))))))
  have fin : wpAny M A (call (.builtin id) ([.ref x] ++ args) >>= fun v => pure (some v)) Q E s := wpAny_bind (wpAny_mono h (fun v s' q => wpAny_pure q) fun _ _ q => q)
  split
  · exact wpAny_bind (wpAny_of_eq (S.bind _) (wpAny_pure (by exact fin)))
  · exact wpAny_tryCatch (wpAny_bind (wpAny_of_eq (S.bind _) (wpAny_pure (by exact fin))))
/-- a rich comparison that its left side answers -/
theorem rc_left {op : CmpOp} {y : Addr} {oy : Obj} {od' : Option Obj} {Q : Value → Shared → Prop} (hu : A.units < cLine) (X : K.In s.heap) (I : PySem.W.InstAt s.heap x ox C od) (J : PySem.W.InstAt s.heap y oy C od')
    (one : wpAny (model prog wd) A (tryCompare (.ref x) (cmpInfo op).2.1 (.ref y)) (fun r s' => ∃ v, r = some v ∧ Q v s') E s) : wpAny (model prog wd) A (richCompare op (.ref x) (.ref y)) Q E s := by
  unfold richCompare
  simp only [oneThing_ref]
  refine wpAny_holding (wpAny_bind (wpAny_cRoomFor hu (wpAny_bind (I.type.here (wpAny_bind (J.type.here ?_))))))
  split
  · rename_i q
    exact absurd q (by simp)
  · refine wpAny_bind (wpAny_pure ?_)
    simp only [Bool.false_eq_true, if_false]
    exact wpAny_bind (wpAny_mono one (fun r s' ⟨v, e, q⟩ => by subst e; exact wpAny_pure q) fun _ _ q => q)
theorem try_ne {f y : Addr} {Q : Value → Shared → Prop} (hu : A.in1.units < cLine) (X : K.In s.heap) (I : PySem.W.InstAt s.heap x ox C od) (o : OwnCmp K C f)
    (h : wpAny (model prog wd) A.in1 (call (.ref f) [.ref x, .ref y]) (fun v s' => ∃ k, v = .bool k ∧ Q (.bool !k) s') E s) : wpAny (model prog wd) A (tryCompare (.ref x) "__ne__" (.ref y)) (fun r s' => ∃ v, r = some v ∧ Q v s') E s := by
  unfold tryCompare
  refine wpAny_bind (ifBound_B X I o.ne F.cmp_object.ne (wpAny_call (codeAny_call_builtin F.cmp_object.ne.plain F.cmpEntry_ne (PySem.W.check_slot F.cmpKind_ne F.cmpSplit_ne (I.type.andThen (PySem.W.looks_mroIn X o.mo)) (F.cmpArgs_ne _ _) ?_))))
  unfold Builtin.«object.__ne__»
  repeat (first | with_reducible refine wpAny_cRoomFor hu ?_ | (with_reducible refine PySem.W.ifBound_K X I o.eq o.fn (wpAny_mono h (fun v s' z => ?_) fun _ _ q => q); obtain ⟨k, rfl, q⟩ := z) | wp_step)
  exact ⟨_, rfl, q⟩
end
section
variable {X : Cx} {CX : CXT} {n : Nat} {f C : Addr} {fd : FuncData} {ps : List Str} {sp : Sp} {E : XK}
theorem op_eqO (F : FnOk X.prog X.w X.K X.mg X.base CX n f fd ps sp) (hr : Room n X.A) (o : OwnCmp X.K C f) (hb : Binds X.K fd ps []) (hx : Passes CX X E) : OpR X (compareOp .Eq) (rEqO C sp E) := by
  intro pins s σ H x y v u Q I rx ry hq
  obtain ⟨a, b, dx, dy, fs, gs, rfl, rfl, ha, hb', hq⟩ := hq
  cases rx
  cases ry
  obtain ⟨mA, J, _⟩ := ins_get I.hok ha
  obtain ⟨mB, J', _⟩ := ins_get I.hok hb'
  obtain ⟨od, J, _⟩ := J.look
  obtain ⟨od', J', _⟩ := J'.look
  refine rc_left (op := .Eq) hr.units0 I.kIn J J' ?_
  unfold tryCompare
  refine wpAny_bind (PySem.W.ifBound_K I.kIn J o.eq o.fn (thn (run_fn (us := [.ref a, .ref b]) (vs := [.ref a, .ref b]) F hr hb .nil hx I (.cons rfl (.cons rfl .nil)) hq) fun v s' z => ?_))
  obtain ⟨v, H', I', r, k, rfl, q⟩ := z
  cases r
  exact wpAny_pure ⟨_, rfl, .bl k, H', I', rfl, q⟩
theorem op_neO (F : FnOk X.prog X.w X.K X.mg X.base CX n f fd ps sp) (hr : Room (n + 1) X.A) (o : OwnCmp X.K C f) (hb : Binds X.K fd ps []) (hx : Passes CX X E) : OpR X (compareOp .NotEq) (rNeO C sp E) := by
  intro pins s σ H x y v u Q I rx ry hq
  obtain ⟨a, b, dx, dy, fs, gs, rfl, rfl, ha, hb', hq⟩ := hq
  cases rx
  cases ry
  obtain ⟨mA, J, _⟩ := ins_get I.hok ha
  obtain ⟨mB, J', _⟩ := ins_get I.hok hb'
  obtain ⟨od, J, _⟩ := J.look
  obtain ⟨od', J', _⟩ := J'.look
  refine rc_left (op := .NotEq) hr.units0 I.kIn J J' (try_ne hr.in1.units0 I.kIn J o ?_)
  have hl : [Value.ref a, Value.ref b].length = ps.length := F.len _ _ _ _ hq
  have hb2 : BindsTo s fd ⟨[.ref a, .ref b], []⟩ (ps.zip [.ref a, .ref b]) := by simpa using hb s [.ref a, .ref b] I.kIn (by simpa using hl)
  refine wpAny_call (codeAny_mono (F.run X.A.in1 X.stack s H ⟨[.ref a, .ref b], []⟩ [.ref a, .ref b] [.ref a, .ref b] _ E hr.in1 I.env0.in1 hb2 (.cons rfl (.cons rfl .nil)) hq) fun q s' hz => ?_)
  rcases q with er | fl
  · exact hx pins σ H s er s' I hz
  · cases fl with
    | ret u =>
      obtain ⟨v, H', I', r, k, rfl, q⟩ := I.after hz
      cases r
      exact ⟨k, rfl, .bl (!k), H', I', rfl, q⟩
    | _ => exact False.elim hz
end
section
variable {K : PySem.W.Frag} {Q : D → Prop} {pre : List D → Prop} {post : List D → D → Prop} {E : XK} {C : Addr} {ns ms : List Str} {xs ys : List D}
theorem r2_eqO (h : pre [.obj C ns xs, .obj C ms ys]) (q : ∀ d, post [.obj C ns xs, .obj C ms ys] d → ∃ k, d = .bl k ∧ Q (.bl k)) : R2D K (rEqO C (spP K pre post) E) (.obj C ns xs) (.obj C ms ys) Q := fun F H v u s r1 r2 k z => by
  cases id r1 with
  | obj e1 l1 t1 => cases id r2 with
    | obj e2 l2 t2 =>
      refine ⟨_, _, _, _, _, _, rfl, rfl, s _ _ e1, s _ _ e2, F, _, s, .cons r1 (.cons r2 .nil), h, fun v d H' s' r p => ?_⟩
      obtain ⟨k, rfl, qq⟩ := q d p
      cases r
      exact ⟨k, rfl, z _ _ H' s' (.bl k) qq⟩
theorem r2_neO (h : pre [.obj C ns xs, .obj C ms ys]) (q : ∀ d, post [.obj C ns xs, .obj C ms ys] d → ∃ k, d = .bl k ∧ Q (.bl !k)) : R2D K (rNeO C (spP K pre post) E) (.obj C ns xs) (.obj C ms ys) Q := fun F H v u s r1 r2 k z => by
  cases id r1 with
  | obj e1 l1 t1 => cases id r2 with
    | obj e2 l2 t2 =>
      refine ⟨_, _, _, _, _, _, rfl, rfl, s _ _ e1, s _ _ e2, F, _, s, .cons r1 (.cons r2 .nil), h, fun v d H' s' r p => ?_⟩
      obtain ⟨k, rfl, qq⟩ := q d p
      cases r
      exact ⟨k, rfl, z _ _ H' s' (.bl _) qq⟩
end
end Sd
set_option Elab.async false
set_option linter.all false
set_option maxRecDepth 100000
set_option maxHeartbeats 4000000
namespace Sd
open PySem PySem.Spec L2
theorem cut1 (xs : List D) : cutD xs (some 1) none = xs.drop 1 := by
  unfold cutD
  rw [show HT.sIx xs.length 0 (some 1) = min 1 xs.length from HT.sIx_nat _ _ 1, show HT.sIx xs.length xs.length none = xs.length from rfl]
  cases xs with
  | nil => rfl
  | cons x xs =>
    rw [show min 1 (x :: xs).length = 1 by simp, List.drop_one, List.tail_cons]
    exact List.take_of_length_le (by simp)
def zipD (xs ys : List D) : List D := (List.range (min xs.length ys.length)).map fun i => .tup [xs.getD i .non, ys.getD i .non]
theorem zipD_nil (xs : List D) : zipD xs [] = [] := by unfold zipD; simp
theorem zipD_cons (x y : D) (xs ys : List D) : zipD (x :: xs) (y :: ys) = .tup [x, y] :: zipD xs ys := by
  unfold zipD
  rw [List.length_cons, List.length_cons, Nat.succ_min_succ, List.range_succ_eq_map, List.map_cons, List.map_map]
  rfl
theorem zipD_mem {xs ys : List D} {d : D} (h : d ∈ zipD xs ys) : ∃ x y, d = .tup [x, y] ∧ x ∈ xs ∧ y ∈ ys := by
  unfold zipD at h
  obtain ⟨i, hi, rfl⟩ := List.mem_map.mp h
  have hi' := List.mem_range.mp hi
  have h1 : i < xs.length := by omega
  have h2 : i < ys.length := by omega
  refine ⟨_, _, rfl, ?_, ?_⟩
  · rw [List.getD_eq_getElem?_getD, List.getElem?_eq_getElem h1]; exact List.getElem_mem h1
  · rw [List.getD_eq_getElem?_getD, List.getElem?_eq_getElem h2]; exact List.getElem_mem h2
theorem zipD_len (xs ys : List D) : (zipD xs ys).length = min xs.length ys.length := by unfold zipD; simp
def ltP : D → Bool
  | .tup [.str a, .str b] => decide (a.cps.toList < b.cps.toList)
  | _ => false
theorem name_str {d : D} (h : isNameD d = true) : ∃ s, d = .str s := by
  cases d with
  | str s => exact ⟨s, rfl⟩
  | _ => cases h
theorem asc_zip : ∀ {xs : List D}, xs.all isNameD = true → (zipD xs (xs.drop 1)).all ltP = ascD xs
  | [], _ => rfl
  | [x], h => by
    rw [List.drop_one, List.tail_cons, zipD_nil]
    obtain ⟨s, rfl⟩ := name_str (d := x) (by simpa using h)
    rfl
  | x :: y :: r, h => by
    have h' : isNameD x = true ∧ (y :: r).all isNameD = true := by simpa using h
    have hy : isNameD y = true := by simp at h; exact h.2.1
    obtain ⟨a, rfl⟩ := name_str h'.1
    obtain ⟨b, rfl⟩ := name_str hy
    have ih := asc_zip h'.2
    rw [List.drop_one, List.tail_cons, zipD_cons, List.all_cons]
    rw [List.drop_one, List.tail_cons] at ih
    rw [ih]
    rfl
end Sd
namespace Sd
open PySem PySem.Spec L2
theorem at0 {α : Type} (x : α) (xs : List α) : L2.atI (x :: xs) 0 = some x := by
  unfold L2.atI L2.ixN
  simp
def isRow1 (size : Int) : D → Bool
  | .tup ps => decide ((ps.length : Int) = size)
  | _ => false
def isRow2 (n : Int) : D → Bool
  | .tup ps => ps.all (isPairD n)
  | _ => false
theorem isRow_split (size n : Int) (d : D) : isRowD size n d = (isRow1 size d && isRow2 n d) := by
  cases d <;> rfl
theorem all_and {α : Type} {p q : α → Bool} : ∀ xs : List α, (xs.all fun x => p x && q x) = (xs.all p && xs.all q)
  | [] => rfl
  | x :: xs => by
    rw [List.all_cons, List.all_cons, List.all_cons, all_and xs]
    cases p x <;> cases q x <;> cases xs.all p <;> cases xs.all q <;> rfl
theorem areRows_tup (size : Int) (rows : List D) : areRowsD size (.tup rows) = (!rows.isEmpty && (rows.all (isRow1 size) && rows.all (isRow2 rows.length))) := by
  show (!rows.isEmpty && rows.all (isRowD size rows.length)) = _
  rw [← all_and]
  congr 1
  congr 1
  funext d
  exact isRow_split _ _ _
theorem rows_tup {size : Int} {d : D} (h : areRowsD size d = true) : ∃ rows, d = .tup rows := by
  cases d with
  | tup rows => exact ⟨rows, rfl⟩
  | _ => cases h
def lastD : D → D
  | .tup xs => xs.getLast?.getD .non
  | _ => .non
def tellsD (p : D) : D → Bool
  | .tup ts => decide (ts.length = lenT (rowsOf (lastD p))) && ts.all isTellD
  | _ => false
/-- the parts of a program -/
structure ProgOk (k p t : D) : Prop where
  ok : Ok k
  op : Ok p
  ot : Ok t
  hk : areKindsD k = true
  hp : arePassesD (lenT k) p = true
  ht : tellsD p t = true
theorem ProgOk.cmp {k p t : D} (h : ProgOk k p t) : cmpOk (.tup [k, p, t]) = true := by
  have okk : Ok (.tup [k, p, t]) ∨ True := .inr trivial
  unfold cmpOk SeqAt.shaped
  have e1 := pl_of_ok _ h.ok.1
  have e2 := pl_of_ok _ h.op.1
  have e3 := pl_of_ok _ h.ot.1
  have l1 := lay_of_ok _ h.ok.1
  have l2 := lay_of_ok _ h.op.1
  have l3 := lay_of_ok _ h.ot.1
  have d1 := h.ok.2
  have d2 := h.op.2
  have d3 := h.ot.2
  have ep : pl (.tup [k, p, t]) = true := by rw [pl, plL, plL, plL, plL, e1, e2, e3]; rfl
  have el : (toPy (.tup [k, p, t])).canLay0 = true := by
    rw [toPy, toPyL, toPyL, toPyL, toPyL, PyData.canLay0, PyData.canLayAll0, PyData.canLayAll0, PyData.canLayAll0, PyData.canLayAll0, l1, l2, l3]; rfl
  rw [ep, el, dep_py, dep, depL, depL, depL, depL, decide_eq_true (by omega)]
  rfl
def pf : List Str := ["p_kinds", "p_passes", "p_tells"]
abbrev pgD (C : Addr) (k p t : D) : D := .obj C ["p_kinds", "p_passes", "p_tells"] [k, p, t]
theorem pass_short {n k : Int} {xs : List D} (h : xs.length ≠ 2) : isPassD n k (.tup xs) = false := by
  cases e : isPassD n k (.tup xs) with
  | false => rfl
  | true => match xs, h, e with
    | [.tup _, _], h, _ => exact absurd rfl h
theorem pass_form {size b : Int} {d : D} (h : isPassD size b d = true) : ∃ bs rows, d = .tup [.tup bs, .tup rows] ∧ areRowsD size (.tup rows) = true ∧ (bs.length : Int) = b ∧ bs.all (isStateD rows.length) = true := by
  cases d with
  | tup l =>
    match l, h with
    | [.tup bs, r], h =>
      have h' : (areRowsD size r && decide ((bs.length : Int) = b) && bs.all (isStateD (lenT r))) = true := h
      rw [Bool.and_eq_true, Bool.and_eq_true, decide_eq_true_eq] at h'
      obtain ⟨rows, rfl⟩ := rows_tup h'.1.1
      exact ⟨bs, rows, rfl, h'.1.1, h'.1.2, h'.2⟩
  | _ => cases h
theorem passes_form {size : Int} {d : D} (h : arePassesD size d = true) : ∃ bs rows ps, d = .tup (.tup [.tup bs, .tup rows] :: ps) ∧ ps.length ≤ 1 ∧ isPassD size 1 (.tup [.tup bs, .tup rows]) = true ∧ ps.all (isPassD size rows.length) = true := by
  cases d with
  | tup l =>
    match l, h with
    | p :: ps, h =>
      have h' : (decide (ps.length ≤ 1) && isPassD size 1 p && ps.all (isPassD size (lenT (rowsOf p)))) = true := h
      rw [Bool.and_eq_true, Bool.and_eq_true, decide_eq_true_eq] at h'
      obtain ⟨bs, rows, rfl, _⟩ := pass_form h'.1.2
      exact ⟨bs, rows, ps, rfl, h'.1.1, h'.1.2, h'.2⟩
  | _ => cases h
/-- the last pass -/
theorem passes_last {size : Int} {d : D} (h : arePassesD size d = true) : ∃ xs bs rows, d = .tup xs ∧ L2.atI xs (-1) = some (.tup [.tup bs, .tup rows]) ∧ lastD d = .tup [.tup bs, .tup rows] ∧ ∃ b, isPassD size b (.tup [.tup bs, .tup rows]) = true := by
  obtain ⟨bs, rows, ps, rfl, hl, h1, h2⟩ := passes_form h
  match ps, hl, h2 with
  | [], _, _ => exact ⟨_, bs, rows, rfl, rfl, rfl, _, h1⟩
  | [q], _, h2 =>
    have hq : isPassD size rows.length q = true := by simpa using h2
    obtain ⟨bs2, rows2, rfl, _⟩ := pass_form hq
    exact ⟨_, bs2, rows2, rfl, rfl, rfl, _, hq⟩
end Sd
set_option Elab.async false
set_option linter.all false
set_option maxRecDepth 100000
set_option maxHeartbeats 4000000
/-! M3: texts of programs, by signs. -/
namespace Sd
open PySem PySem.Spec L2
open SX (S S_len S_cat S_inj)
open TL (numL joinL spl)
/-- a whole number's signs -/
def intL : Int → List Nat
  | .ofNat n => numL n
  | .negSucc n => 45 :: numL (n + 1)
theorem int_S (i : Int) : (Str.ofString (toString i)) = S (intL i) := by
  cases i with
  | ofNat n => exact SX.num_S n
  | negSucc n =>
    refine TL.ext_tl ?_
    rw [TL.tl_ofString]
    have e : toString (Int.negSucc n) = "-" ++ toString ((n + 1 : Nat) : Int) := rfl
    have h := TL.tl_num (n + 1)
    rw [TL.tl_ofString] at h
    rw [e, String.toList_append, List.map_append, h]
    rfl
def smI (i : Int) : Prop := i.natAbs < 1000000
theorem intL_len {i : Int} (h : smI i) : (intL i).length ≤ 7 := by
  cases i with
  | ofNat n => exact Nat.le_trans (TL.numL_len (k := 6) (by decide) h) (by decide)
  | negSucc n =>
    have : (numL (n + 1)).length ≤ 6 := TL.numL_len (k := 6) (by decide) h
    show (numL (n + 1)).length + 1 ≤ 7
    omega
theorem log_small {i : Int} (h : smI i) : i.natAbs.log2 < 1920 := by
  have h' : i.natAbs < 1000000 := h
  by_cases z : i.natAbs = 0
  · rw [z]; decide
  · have h2 : i.natAbs < 2 ^ 20 := by omega
    have := (Nat.log2_lt z).mpr h2
    omega
theorem intL_free {i : Int} {s : Nat} (h : s < 45 ∨ 57 < s) : s ∉ intL i := fun hm => by
  cases i with
  | ofNat n => exact TL.numL_free (by omega) hm
  | negSucc n =>
    rcases List.mem_cons.mp hm with e | hm
    · omega
    · exact TL.numL_free (by omega) hm
theorem intL_ne (i : Int) : intL i ≠ [] := by
  cases i with
  | ofNat n => exact TL.numL_ne n
  | negSucc n => exact List.cons_ne_nil _ _
theorem joinL_len (s : List Nat) {m : Nat} : ∀ {ps : List (List Nat)}, (∀ p ∈ ps, p.length ≤ m) → (joinL s ps).length ≤ ps.length * (m + s.length)
  | [], _ => by rw [joinL]; simp
  | [p], h => by
    have := h p (by simp)
    rw [joinL]
    simp only [List.length_cons, List.length_nil]
    omega
  | p :: q :: r, h => by
    have ih := joinL_len s (ps := q :: r) fun x hx => h x (by simp [hx])
    have := h p (by simp)
    rw [joinL, List.length_append, List.length_append, List.length_cons (a := p), Nat.succ_mul]
    omega
theorem sum_len {m : Nat} : ∀ {ps : List (List Nat)}, (∀ p ∈ ps, p.length ≤ m) → ((ps.map S).map (·.length)).sum ≤ ps.length * m
  | [], _ => by simp
  | p :: r, h => by
    have ih := sum_len (ps := r) fun x hx => h x (by simp [hx])
    have := h p (by simp)
    rw [List.map_cons, List.map_cons, List.sum_cons, List.length_cons, Nat.succ_mul, S_len]
    omega
end Sd
set_option Elab.async false
set_option linter.all false
set_option maxRecDepth 100000
set_option maxHeartbeats 4000000
/-! M4: programs as plain data, their lines. -/
namespace Sd
open PySem PySem.Spec L2
open SX (S S_len S_cat S_inj)
open TL (numL joinL spl)
abbrev Row := List (Int × Int)
abbrev Pas := List Int × List Row
abbrev Tel := List Nat × Int
structure Pg where
  ks : List (List Nat)
  ps : List Pas
  ts : List Tel
abbrev strD (l : List Nat) : D := .str (S l)
def pairD (p : Int × Int) : D := .tup [.int p.1, .int p.2]
def rowD (r : Row) : D := .tup (r.map pairD)
def intsD (l : List Int) : D := .tup (l.map .int)
def rowsD (l : List Row) : D := .tup (l.map rowD)
def pasD (p : Pas) : D := .tup [intsD p.1, rowsD p.2]
def telD (t : Tel) : D := .tup [strD t.1, .int t.2]
def Pg.kD (g : Pg) : D := .tup (g.ks.map strD)
def Pg.pD (g : Pg) : D := .tup (g.ps.map pasD)
def Pg.tD (g : Pg) : D := .tup (g.ts.map telD)
def Pg.D (g : Pg) : D := .tup [g.kD, g.pD, g.tD]
def nameC (k : List Nat) : Bool := decide (1 ≤ k.length) && decide (k.length ≤ 8) && k.all fun c => decide (97 ≤ c ∧ c ≤ 122)
def ascC : List (List Nat) → Bool
  | a :: b :: r => decide (a < b) && ascC (b :: r)
  | _ => true
/-- sizes -/
structure PasS (p : Pas) : Prop where
  b : p.1.length ≤ 100
  r : p.2.length ≤ 100
  w : ∀ x ∈ p.2, x.length ≤ 4 ∧ ∀ q ∈ x, smI q.1 ∧ smI q.2
  s : ∀ i ∈ p.1, smI i
structure PgS (g : Pg) : Prop where
  k : g.ks.length ≤ 4
  kw : ∀ x ∈ g.ks, x.length ≤ 8
  p : g.ps.length ≤ 2
  pw : ∀ x ∈ g.ps, PasS x
  t : g.ts.length ≤ 100
  tw : ∀ x ∈ g.ts, x.1.length ≤ 8 ∧ smI x.2

/-! ### lines -/
def pairC (p : Int × Int) : List Nat := intL p.1 ++ ([32] ++ intL p.2)
def rowC (r : Row) : List Nat := [32, 32] ++ joinL [32] (r.map pairC)
def wPass : List Nat := [112, 97, 115, 115]
def wKinds : List Nat := [107, 105, 110, 100, 115]
def wTell : List Nat := [116, 101, 108, 108]
def begC (l : List Int) : List Nat := joinL [32] (wPass :: l.map intL)
def pasC (p : Pas) : List (List Nat) := begC p.1 :: p.2.map rowC
def telC (t : Tel) : List Nat := wTell ++ ([32] ++ (t.1 ++ ([32] ++ intL t.2)))
def kindsC (ks : List (List Nat)) : List Nat := joinL [32] (wKinds :: ks)
def Pg.lines (g : Pg) : List (List Nat) := kindsC g.ks :: (g.ps.flatMap pasC ++ g.ts.map telC)
def pageC (ls : List (List Nat)) : List Nat := joinL [] (ls.map (· ++ [10]))
theorem joinL_nil : ∀ ls : List (List Nat), joinL [] ls = ls.flatten
  | [] => rfl
  | [p] => by rw [joinL]; simp
  | p :: q :: r => by rw [joinL, joinL_nil (q :: r)]; simp
theorem pairC_len {p : Int × Int} (h : smI p.1 ∧ smI p.2) : (pairC p).length ≤ 15 := by
  have h1 := intL_len h.1
  have h2 := intL_len h.2
  unfold pairC
  rw [List.length_append, List.length_append]
  simp only [List.length_cons, List.length_nil]
  omega
theorem rowC_len {r : Row} (h : r.length ≤ 4 ∧ ∀ q ∈ r, smI q.1 ∧ smI q.2) : (rowC r).length ≤ 66 := by
  unfold rowC
  have := joinL_len [32] (m := 15) (ps := r.map pairC) fun p hp => by
    obtain ⟨q, hq, rfl⟩ := List.mem_map.mp hp
    exact pairC_len (h.2 q hq)
  rw [List.length_map] at this
  rw [List.length_append]
  have e : r.length * (15 + [32].length) ≤ 4 * 16 := Nat.mul_le_mul h.1 (Nat.le_refl _)
  simp only [List.length_cons, List.length_nil] at this e ⊢
  omega
theorem begC_len {l : List Int} (hl : l.length ≤ 100) (h : ∀ i ∈ l, smI i) : (begC l).length ≤ 808 := by
  unfold begC
  have := joinL_len [32] (m := 7) (ps := wPass :: l.map intL) fun p hp => by
    rcases List.mem_cons.mp hp with rfl | hp
    · decide
    · obtain ⟨q, hq, rfl⟩ := List.mem_map.mp hp
      exact intL_len (h q hq)
  simp only [List.length_cons, List.length_nil, List.length_map] at this
  have e : (l.length + 1) * 8 ≤ 101 * 8 := Nat.mul_le_mul (by omega) (Nat.le_refl _)
  omega
theorem telC_len {t : Tel} (h : t.1.length ≤ 8 ∧ smI t.2) : (telC t).length ≤ 21 := by
  have h2 := intL_len h.2
  unfold telC
  simp only [List.length_append, List.length_cons, List.length_nil, show wTell.length = 4 from rfl]
  omega
theorem kindsC_len {ks : List (List Nat)} (h : ks.length ≤ 4) (h2 : ∀ x ∈ ks, x.length ≤ 8) : (kindsC ks).length ≤ 45 := by
  unfold kindsC
  have := joinL_len [32] (m := 8) (ps := wKinds :: ks) fun p hp => by
    rcases List.mem_cons.mp hp with rfl | hp
    · decide
    · exact h2 p hp
  simp only [List.length_cons, List.length_nil] at this
  have e : (ks.length + 1) * 9 ≤ 5 * 9 := Nat.mul_le_mul (by omega) (Nat.le_refl _)
  omega
theorem pasC_len {p : Pas} (h : PasS p) : (pasC p).length ≤ 101 ∧ ∀ l ∈ pasC p, l.length ≤ 808 := by
  refine ⟨by unfold pasC; rw [List.length_cons, List.length_map]; have := h.r; omega, fun l hl => ?_⟩
  rcases List.mem_cons.mp hl with rfl | hl
  · exact begC_len h.b h.s
  · obtain ⟨r, hr, rfl⟩ := List.mem_map.mp hl
    have := rowC_len (h.w r hr)
    omega
theorem flat_len : ∀ {ps : List Pas}, (∀ p ∈ ps, PasS p) → (ps.flatMap pasC).length ≤ ps.length * 101 ∧ ∀ l ∈ ps.flatMap pasC, l.length ≤ 808
  | [], _ => ⟨by simp, by simp⟩
  | p :: ps, h => by
    obtain ⟨h1, h2⟩ := flat_len (ps := ps) fun x hx => h x (by simp [hx])
    obtain ⟨h3, h4⟩ := pasC_len (h p (by simp))
    rw [List.flatMap_cons, List.length_append, List.length_cons, Nat.succ_mul]
    exact ⟨by omega, fun l hl => (List.mem_append.mp hl).elim (h4 l) (h2 l)⟩
theorem lines_len {g : Pg} (h : PgS g) : g.lines.length ≤ 303 ∧ ∀ l ∈ g.lines, l.length ≤ 808 := by
  obtain ⟨h1, h2⟩ := flat_len h.pw
  have e : g.ps.length * 101 ≤ 2 * 101 := Nat.mul_le_mul h.p (Nat.le_refl _)
  have ht := h.t
  unfold Pg.lines
  rw [List.length_cons, List.length_append, List.length_map]
  refine ⟨by omega, fun l hl => ?_⟩
  rcases List.mem_cons.mp hl with rfl | hl
  · have := kindsC_len h.k h.kw; omega
  · rcases List.mem_append.mp hl with hl | hl
    · exact h2 l hl
    · obtain ⟨t, ht, rfl⟩ := List.mem_map.mp hl
      have := telC_len (h.tw t ht); omega
theorem page_len {ls : List (List Nat)} (h1 : ls.length ≤ 303) (h2 : ∀ l ∈ ls, l.length ≤ 808) : (pageC ls).length ≤ 245127 := by
  unfold pageC
  have := joinL_len [] (m := 809) (ps := ls.map (· ++ [10])) fun p hp => by
    obtain ⟨q, hq, rfl⟩ := List.mem_map.mp hp
    have := h2 q hq
    rw [List.length_append, List.length_singleton]
    omega
  rw [List.length_map] at this
  simp only [List.length_nil] at this
  have e : ls.length * 809 ≤ 303 * 809 := Nat.mul_le_mul h1 (Nat.le_refl _)
  omega

/-! ### reading -/
def digC (c : Nat) : Bool := decide (48 ≤ c ∧ c ≤ 57)
def absC (l : List Nat) : List Nat := if l.take 1 = [45] then l.drop 1 else l
def numC (l : List Nat) : Bool := decide (1 ≤ (absC l).length) && decide ((absC l).length ≤ 6) && (absC l).all digC && (decide (l = [48]) || !decide ((absC l).head? = some 48))
def valC (l : List Nat) : Int := if l.take 1 = [45] then -(NumText.digitsVal (l.drop 1) : Int) else (NumText.digitsVal l : Int)
def numsC (ws : List (List Nat)) : Option (List Int) := if ws.all numC then some (ws.map valC) else none
def numsD : Option (List Int) → D
  | none => .non
  | some l => intsD l
def splitC (l : List Nat) (c : Nat) : List (List Nat) := spl [c] 0 [] l
def pairsC (n : Nat) (l : List Int) : Row := (List.range n).map fun i => (l.getD (2 * i) 0, l.getD (2 * i + 1) 0)
def rowOf (n : Nat) (l : List Nat) : Option Row := match numsC (splitC (l.drop 2) 32) with
  | none => none
  | some ns => if l.take 2 = [32, 32] ∧ ns.length = 2 * n then some (pairsC n ns) else none
def rowOD : Option Row → D
  | none => .non
  | some r => rowD r
theorem dig_in (c : Nat) : decide (c ∈ ("0123456789" : Str).cps.toList) = digC c := by
  have e : ("0123456789" : Str).cps.toList = [48, 49, 50, 51, 52, 53, 54, 55, 56, 57] := by decide +kernel
  rw [e]
  unfold digC
  refine decide_eq_decide.mpr ⟨fun h => ?_, fun h => ?_⟩
  · simp only [List.mem_cons, List.not_mem_nil, or_false] at h
    omega
  · simp only [List.mem_cons, List.not_mem_nil, or_false]
    omega
theorem numC_val {l : List Nat} (h : numC l = true) : PySem.intText? (S l) = some (valC l) ∧ l.length ≤ 7 := by
  unfold numC at h
  simp only [Bool.and_eq_true, decide_eq_true_eq] at h
  obtain ⟨⟨⟨h1, h2⟩, h3⟩, _⟩ := h
  have hd : NumText.AllDigits (absC l) := fun c hc => by
    have := List.all_eq_true.mp h3 c hc
    simpa [digC] using this
  have hne : absC l ≠ [] := fun e => by rw [e] at h1; exact absurd h1 (by decide)
  unfold valC
  unfold absC at h1 h2 hd hne
  by_cases hm : l.take 1 = [45]
  · rw [if_pos hm] at h1 h2 hd hne
    rw [if_pos hm]
    obtain ⟨r, rfl⟩ : ∃ r, l = 45 :: r := by
      cases l with
      | nil => cases hm
      | cons c r => exact ⟨r, by simp at hm; rw [hm]⟩
    refine ⟨intText_neg rfl hd hne ?_, ?_⟩
    · rw [S_len, List.length_cons]; simp at h2; omega
    · simp at h2 ⊢; omega
  · rw [if_neg hm] at h1 h2 hd hne
    rw [if_neg hm]
    exact ⟨intText_digits (x := S l) hd hne (by rw [S_len]; omega), by omega⟩
end Sd
namespace Sd
open PySem PySem.Spec L2
open SX (S S_len S_cat S_inj)
open TL (numL joinL spl)
theorem cut_from (l : List Nat) (n : Nat) : cutS (S l) (some (n : Int)) none = S (l.drop n) := by
  rw [C8.cutS_slice, SX.slice_from (by omega), Int.toNat_natCast]
theorem cut_to (l : List Nat) (n : Nat) : cutS (S l) none (some (n : Int)) = S (l.take n) := by
  rw [C8.cutS_slice, SX.slice_to (by omega), Int.toNat_natCast]
theorem str_S (x : Str) : x = S (TL.tl x) := (SX.S_tl x).symm
theorem S_eq {a b : List Nat} : decide (S a = S b) = decide (a = b) := decide_eq_decide.mpr ⟨fun h => S_inj h, fun h => by rw [h]⟩
theorem join_SS (a : List Nat) (ys : List (List Nat)) : Txt.join (S a) (ys.map S) = S (joinL a ys) := SX.join_S a ys
theorem split_C (l : List Nat) (c : Nat) (hc : c < 256) : Txt.split (S l) (S [c]) = (splitC l c).map S := SX.split_S (by simp) (by simpa using hc)
theorem strs_map (ws : List (List Nat)) : ws.map strD = (ws.map S).map .str := by rw [List.map_map]; rfl
theorem spl_len {c : Nat} : ∀ {l acc w : List Nat}, w ∈ spl [c] 0 acc l → w.length ≤ acc.length + l.length
  | [], acc, w, h => by
    rw [TL.spl_nil] at h
    rw [List.mem_singleton.mp h]
    omega
  | x :: l, acc, w, h => by
    by_cases hx : TL.pre [c] (x :: l) = true
    · rw [TL.spl_hit hx] at h
      rcases List.mem_cons.mp h with rfl | h
      · omega
      · have := spl_len (acc := []) h
        simp only [List.length_cons, List.length_nil] at this ⊢
        omega
    · rw [TL.spl_miss (by simpa using hx)] at h
      have := spl_len h
      simp only [List.length_append, List.length_cons, List.length_nil] at this ⊢
      omega
theorem spl_cnt {c : Nat} : ∀ {l acc : List Nat}, (spl [c] 0 acc l).length ≤ l.length + 1
  | [], acc => by rw [TL.spl_nil]; simp
  | x :: l, acc => by
    by_cases hx : TL.pre [c] (x :: l) = true
    · rw [TL.spl_hit hx]
      have := spl_cnt (l := l) (acc := []) (c := c)
      show (spl [c] 0 [] l).length + 1 ≤ _
      simp only [List.length_cons]
      omega
    · rw [TL.spl_miss (by simpa using hx)]
      have := spl_cnt (l := l) (acc := acc ++ [x]) (c := c)
      simp only [List.length_cons]
      omega
theorem atN {α : Type} {xs : List α} {i : Nat} (h : i < xs.length) : L2.atI xs (i : Int) = xs[i]? := by
  unfold L2.atI L2.ixN
  rw [if_pos (by omega), if_pos (by omega)]
  simp
end Sd
set_option Elab.async false
set_option linter.all false
set_option maxRecDepth 100000
set_option maxHeartbeats 4000000
/-! M5: the plain data are told by their D. -/
namespace Sd
open PySem PySem.Spec L2
open SX (S S_len S_cat S_inj)
open TL (numL joinL spl)
theorem map_inj {α β : Type} {f : α → β} (hf : ∀ a b, f a = f b → a = b) {l m : List α} (h : l.map f = m.map f) : l = m := (List.map_inj_right (f := f) hf).mp h
theorem strD_inj {a b : List Nat} (h : strD a = strD b) : a = b := S_inj (D.str.inj h)
theorem pairD_inj {a b : Int × Int} (h : pairD a = pairD b) : a = b := by
  have := D.tup.inj h
  simp only [List.cons.injEq, D.int.injEq, and_true] at this
  exact Prod.ext this.1 this.2
theorem rowD_inj {a b : Row} (h : rowD a = rowD b) : a = b := map_inj (fun _ _ => pairD_inj) (D.tup.inj h)
theorem intsD_inj {a b : List Int} (h : intsD a = intsD b) : a = b := map_inj (fun _ _ => D.int.inj) (D.tup.inj h)
theorem rowsD_inj {a b : List Row} (h : rowsD a = rowsD b) : a = b := map_inj (fun _ _ => rowD_inj) (D.tup.inj h)
theorem pasD_inj {a b : Pas} (h : pasD a = pasD b) : a = b := by
  have := D.tup.inj h
  simp only [List.cons.injEq, and_true] at this
  exact Prod.ext (intsD_inj this.1) (rowsD_inj this.2)
theorem telD_inj {a b : Tel} (h : telD a = telD b) : a = b := by
  have := D.tup.inj h
  simp only [List.cons.injEq, and_true] at this
  exact Prod.ext (strD_inj this.1) (D.int.inj this.2)
theorem kD_inj {a b : List (List Nat)} (h : a.map strD = b.map strD) : a = b := map_inj (fun _ _ => strD_inj) h
theorem pD_inj {a b : List Pas} (h : a.map pasD = b.map pasD) : a = b := map_inj (fun _ _ => pasD_inj) h
theorem tD_inj {a b : List Tel} (h : a.map telD = b.map telD) : a = b := map_inj (fun _ _ => telD_inj) h
theorem Pg_inj {a b : Pg} (h1 : a.kD = b.kD) (h2 : a.pD = b.pD) (h3 : a.tD = b.tD) : a = b := by
  cases a
  cases b
  have e1 := kD_inj (D.tup.inj h1)
  have e2 := pD_inj (D.tup.inj h2)
  have e3 := tD_inj (D.tup.inj h3)
  simp only at e1 e2 e3
  rw [e1, e2, e3]
theorem Pg.D_inj {a b : Pg} (h : a.D = b.D) : a = b := by
  have := D.tup.inj h
  simp only [List.cons.injEq, and_true] at this
  exact Pg_inj this.1 this.2.1 this.2.2
theorem map_at {α β : Type} {f : α → β} {l : List α} {i : Nat} {d : β} (h : (l.map f)[i]? = some d) : ∃ a, l[i]? = some a ∧ d = f a := by
  rw [List.getElem?_map] at h
  cases e : l[i]? with
  | none => rw [e] at h; cases h
  | some a => rw [e] at h; exact ⟨a, rfl, (Option.some.inj h).symm⟩
end Sd
set_option Elab.async false
set_option linter.all false
set_option maxRecDepth 100000
set_option maxHeartbeats 4000000
/-! Sd8: looking at one's own things, picks, the script. -/
namespace Sd
open PySem PySem.Spec L2
section
variable {w : Wd} {G G' : List Ent} {σ : L2.St} {F H : Hp}
/-- e, seen as e' while nothing is changed -/
def PkOk (K : PySem.W.Frag) (e e' : Ent) : Prop := ∀ (w w' : Wd) (F H F2 : Hp) (s : Option (Option V)) (qs : List Addr), w.K = K → w'.K = K → EntOk w F H e s qs → Same F F2 → (∀ b, b ∈ qs → F2 b = H b) → EntOk w' F2 H e' s []
theorem pk_no {K : PySem.W.Frag} {e : Ent} : PkOk K e .no := fun w w' F H F2 s qs _ _ h f q => rfl
theorem pk_d {K : PySem.W.Frag} {d : D} : PkOk K (.d d) (.d d) := fun w w' F H F2 s qs hw hw' h f q => by
  obtain ⟨_, v, h1, h2⟩ := h
  exact ⟨rfl, v, h1, by rw [hw']; rw [hw] at h2; exact h2.mono f⟩
theorem pk_v {K : PySem.W.Frag} {d : V} : PkOk K (.v d) (.v d) := fun w w' F H F2 s qs hw hw' h f q => ⟨rfl, h.2⟩
theorem pk_l {K : PySem.W.Frag} {xs : List D} : PkOk K (.l xs) (.d (.lst xs)) := fun w w' F H F2 s qs hw hw' h f q => by
  obtain ⟨a, vs, rfl, _, h1, h2, h3⟩ := h
  refine ⟨rfl, .ref a, h1, .lst ((q a (by simp)).trans h2) ?_⟩
  rw [hw']; rw [hw] at h3; exact h3.mono f
def pk1 : Ent → Ent
  | .d x => .d x
  | .v x => .v x
  | .l xs => .d (.lst xs)
  | _ => .no
theorem pk1_ok {K : PySem.W.Frag} : ∀ e : Ent, PkOk K e (pk1 e)
  | .d x => pk_d
  | .v x => pk_v
  | .l x => pk_l
  | .no => pk_no
  | .dr _ _ => pk_no
  | .o _ => pk_no
open Classical in
theorem As.peek (A : As w G σ F H) (hl : G'.length = G.length) (h : ∀ (i : Nat) (e e' : Ent), G[i]? = some e → G'[i]? = some e' → PkOk w.K e e') : ∃ F2, Same F F2 ∧ As ⟨w.K, F2, H, [], []⟩ G' σ F2 H := by
  obtain ⟨q, O⟩ := A.get
  let F2 : Hp := fun b => if ∃ i, i < G.length ∧ b ∈ q i then H b else F b
  have own : ∀ i b, i < G.length → b ∈ q i → F2 b = H b := fun i b hi hb => if_pos ⟨i, hi, hb⟩
  have sm : Same F F2 := fun b o e => by
    show (if ∃ i, i < G.length ∧ b ∈ q i then H b else F b) = some o
    rw [if_neg fun ⟨i, hi, hb⟩ => by rw [(O.at_ i b hi hb).1] at e; cases e]
    exact e
  refine ⟨F2, sm, .mk' (q := fun _ => []) (A.len.trans hl.symm) ⟨Same.refl _, fun b o e => ?_, fun b o e => .inl e, fun b o _ e => e, (fun b hb => nomatch hb), fun b o hb => nomatch hb⟩ ⟨fun i e' he => ?_, (fun i a _ ha => nomatch ha), (fun i j a _ _ ha => nomatch ha), fun i a _ ha => nomatch ha⟩⟩
  · change (if ∃ i, i < G.length ∧ b ∈ q i then H b else F b) = some o at e
    split at e
    · exact e
    · exact A.base.fh b o e
  · have hi : i < G.length := by rw [← hl]; exact (List.getElem?_eq_some_iff.mp he).1
    have eo := O.ok i _ (List.getElem?_eq_getElem hi)
    exact h i _ e' (List.getElem?_eq_getElem hi) he w ⟨w.K, F2, H, [], []⟩ F H F2 _ _ rfl rfl eo sm fun b hb => own i b hi hb
theorem As.back {F2 F' H' : Hp} (A : As w G σ F H) (A' : As ⟨w.K, F2, H, [], []⟩ G' σ F' H') : As w G σ (ext F H H') H' := A.step fun b o e => A'.base.keep b o (by simp) e
variable {te : TE} {tt : TT}
theorem wpt_pk {Q : Bool → Prop} (hl : G'.length = G.length) (hk : ∀ (i : Nat) (e e' : Ent), G[i]? = some e → G'[i]? = some e' → PkOk w.K e e') (h : ∀ F0 H0, wpt ⟨w.K, F0, H0, [], []⟩ tt G' Q) : wpt w tt G Q := fun σ F H A k z => by
  obtain ⟨F2, sm, A2⟩ := A.peek hl hk
  exact h F2 H σ F2 H A2 _ fun b F' H' s' A' q => z b _ H' A.same (A.back A') q
theorem flat_rp {K : PySem.W.Frag} {F F' : Hp} {v : V} {d : D} (h : flatD d = true) (r : Rp K F v d) : Rp K F' v d := by
  cases r with
  | non => exact .non
  | bl b => exact .bl b
  | int i => exact .int i
  | str x => exact .str x
  | _ => cases h
theorem wp_pk {Q : D → Prop} (hl : G'.length = G.length) (hk : ∀ (i : Nat) (e e' : Ent), G[i]? = some e → G'[i]? = some e' → PkOk w.K e e') (h : ∀ F0 H0, wp ⟨w.K, F0, H0, [], []⟩ te G' fun d => flatD d = true ∧ Q d) : wp w te G Q := fun σ F H A k z => by
  obtain ⟨F2, sm, A2⟩ := A.peek hl hk
  exact h F2 H σ F2 H A2 _ fun v d F' H' s' A' r q => z v d _ H' A.same (A.back A') (flat_rp q.1 r) q.2
theorem pkMap (K : PySem.W.Frag) (G : List Ent) : ∀ (i : Nat) (e e' : Ent), G[i]? = some e → (G.map pk1)[i]? = some e' → PkOk K e e' := fun i e e' h h' => by
  rw [List.getElem?_map, h] at h'
  cases h'
  exact pk1_ok e
/-- own lists as data -/
theorem wpt_peek {Q : Bool → Prop} (h : ∀ F0 H0, wpt ⟨w.K, F0, H0, [], []⟩ tt (G.map pk1) Q) : wpt w tt G Q := wpt_pk (List.length_map _) (pkMap _ G) h
theorem wp_peek {Q : D → Prop} (h : ∀ F0 H0, wp ⟨w.K, F0, H0, [], []⟩ te (G.map pk1) fun d => flatD d = true ∧ Q d) : wp w te G Q := wp_pk (List.length_map _) (pkMap _ G) h
end

/-! ### x[i] of whatever sequence -/
def itemsP : D → List D
  | .lst xs => xs
  | .tup xs => xs
  | .str s => s.cps.toList.map fun c => .str ⟨#[c]⟩
  | _ => []
theorem rp_at {K : PySem.W.Frag} {F : Hp} {vs : List V} {xs : List D} {i : Nat} {d : D} (r : RpL K F vs xs) (h : xs[i]? = some d) : ∃ v, L2.atI vs (i : Int) = some v ∧ Rp K F v d := by
  obtain ⟨v, hv, rv⟩ := r.getD h
  exact ⟨v, by rw [atN (List.getElem?_eq_some_iff.mp hv).1]; exact hv, rv⟩
theorem r2_ixA {K : PySem.W.Frag} {x d : D} {i : Nat} {Q : D → Prop} (h : (itemsP x)[i]? = some d) (hl : (itemsP x).length ≤ 1000000) (q : Q d) : R2D K (rIx K) x (.int i) Q := fun F H v u s r1 r2 k z => by
  cases r2
  cases r1 with
  | lst e r =>
    obtain ⟨v, hv, rv⟩ := rp_at r h
    exact .inl ⟨_, _, _, v, rfl, rfl, .inl (.inl (s _ _ e)), hv, z _ _ H (Same.refl _) (by rw [ext_self s]; exact rv) q⟩
  | tup e r =>
    obtain ⟨v, hv, rv⟩ := rp_at r h
    exact .inr (.inl ⟨_, _, _, v, rfl, rfl, .inl (.inl (s _ _ e)), hv, z _ _ H (Same.refl _) (by rw [ext_self s]; exact rv) q⟩)
  | str y =>
    change (y.cps.toList.map fun c => D.str ⟨#[c]⟩)[i]? = some d at h
    obtain ⟨c, hc, rfl⟩ := map_at h
    have hi := (List.getElem?_eq_some_iff.mp hc).1
    refine .inr (.inr ⟨y, _, c, rfl, rfl, ?_, (atN hi).trans hc, z _ _ H (Same.refl _) (.str _) q⟩)
    change (y.cps.toList.map fun c => D.str ⟨#[c]⟩).length ≤ 1000000 at hl
    rw [List.length_map] at hl
    exact line_ok (by simpa [Str.length] using hl)
  | _ => simp [itemsP] at h
theorem len_itemsP {x : D} (h : itemsP x ≠ []) (hl : (itemsP x).length ≤ 1000000) : lenD x = some (itemsP x).length := by
  cases x with
  | lst xs => rfl
  | tup xs => rfl
  | str y =>
    show (if y.length ≤ 1000000 then some y.length else none) = some (y.cps.toList.map fun c => D.str ⟨#[c]⟩).length
    change (y.cps.toList.map fun c => D.str ⟨#[c]⟩).length ≤ 1000000 at hl
    rw [List.length_map] at hl ⊢
    rw [if_pos (by simpa [Str.length] using hl)]
    simp [Str.length]
  | _ => exact absurd rfl h

/-! ### promises by a number that is drawn -/
def intIn (n : Int) (d : D) : Prop := ∃ k, d = .int k ∧ 0 ≤ k ∧ k < n

/-! ### the script: a list of the module, or one that nobody changes -/
section
variable {w : Wd} {G : List Ent} {Q : D → Prop} {tt : TT} {i : Nat}
theorem sq_at {a : Addr} {xs : List V} {σ : L2.St} {F H : Hp} (A : As w G σ F H) (hO : a ∉ w.O) (h : SqL w.K w.H0 a xs) : SqL w.K H a xs := by
  rcases h with h | h
  · refine .inl ?_
    rcases h with h | ⟨o, h⟩
    · exact .inl (A.base.keep _ _ hO h)
    · exact .inr ⟨o, A.base.keep _ _ hO h⟩
  · exact .inr h
theorem wp_lenV {a : Addr} {xs : List V} (e : G[i]? = some (.v (.ref a))) (hO : a ∉ w.O) (h : SqL w.K w.H0 a xs) (q : Q (.int xs.length)) : wp w (tCB (fun xs H Q => ∃ x n, xs = [x] ∧ LenV w.K x H n ∧ Q (.int n) H) (tCons (tVar i) tNil)) G Q := fun σ F H A k z =>
  ⟨_, A.val e, _, xs.length, rfl, .inl ⟨xs, sq_at A hO h, rfl⟩, z _ _ F H (Same.refl _) A (.int _) q⟩
end
end Sd
set_option Elab.async false
set_option linter.all false
set_option maxRecDepth 100000
set_option maxHeartbeats 4000000
/-! Sd9: new things of one's own; the law's source of draws. -/
namespace Sd
open PySem PySem.Spec L2
section
variable {w : Wd} {G : List Ent} {σ : L2.St} {F H H' : Hp} {i : Nat}
/-- an entry told otherwise -/
theorem As.conv (A : As w G σ F H) {e e' : Ent} (h : G[i]? = some e) (c : ∀ s qs, EntOk w F H e s qs → EntOk w F H e' s qs) : As w (G.set i e') σ F H := by
  obtain ⟨q, O⟩ := A.get
  have hi := (List.getElem?_eq_some_iff.mp h).1
  refine .mk' (q := q) (by simp [A.len]) A.base ⟨fun j u hj => ?_, fun j a hj ha => ?_, fun j m a hj hm => ?_, fun j a hj ha => ?_⟩
  · by_cases z : j = i
    · subst z
      rw [List.getElem?_set_self hi] at hj
      cases hj
      exact c _ _ (O.ok j _ h)
    · rw [List.getElem?_set_ne (Ne.symm z)] at hj
      exact O.ok j u hj
  · rw [List.length_set] at hj; exact O.at_ j a hj ha
  · rw [List.length_set] at hj hm; exact O.dis j m a hj hm
  · rw [List.length_set] at hj; exact O.pd j a hj ha
/-- nothing -/
def o0 (v0 : V) : OwnP where
  ok := fun F H v qs => v = v0 ∧ qs = []
  step := fun _ _ h => h
theorem As.putNew (A : As w G σ F H) (hi : i < G.length) (x : OwnP) {v : V} {qs : List Addr} (s : Same H H') (hq : ∀ a, a ∈ qs → H a = none ∧ H' a ≠ none) (hx : x.ok (extBut F H H' qs) H' v qs) :
    As w (G.set i (.o x)) (σ.set i (some v)) (extBut F H H' qs) H' ∧ Same F (extBut F H H' qs) := by
  have A0 := A.put i (s := some v) (e := .o (o0 v)) ⟨v, rfl, rfl, rfl⟩
  have h0 : (G.set i (.o (o0 v)))[i]? = some (.o (o0 v)) := List.getElem?_set_self hi
  obtain ⟨v', qs', h1, ⟨rfl, rfl⟩, h3, up⟩ := A0.own1 h0
  have := up x H' qs (fun b u _ e => s b u e) (fun b hb => nomatch hb) (fun a ha => ⟨.inr (hq a ha).1, (hq a ha).2⟩) hx
  rw [List.set_set] at this
  exact this
def drP (p c : Addr) : OwnP where
  ok := fun F H v qs => v = .ref p ∧ qs = [p, c] ∧ Dr H p c
  step := fun {F F' H H' v qs} f k h => by
    obtain ⟨rfl, rfl, h1, i, m, ns, h2, h3, r⟩ := h
    exact ⟨rfl, rfl, h1, i, m, ns, k _ _ (by simp) h2, k _ _ (by simp) h3, r⟩
end

/-! ### what a script gives -/
/-- a def of the script alone -/
def startV (n : Nat) (a : Addr) : List Ent := .v (.ref a) :: List.replicate (n - 1) .no
theorem as_script {K : PySem.W.Frag} {N : List Str} {H : Hp} {a : Addr} (hN : 1 ≤ N.length) : As ⟨K, fun _ => none, H, [], []⟩ (startV N.length a) (start N [.ref a]) (fun _ => none) H := by
  refine ⟨?_, ⟨Same.refl _, (fun b o h => nomatch h), (fun b o h => nomatch h), fun b o _ h => h, (fun b h => nomatch h), fun b o h => nomatch h⟩, fun _ => [], fun j e h => ?_, fun j b _ h => (nomatch h), fun i j b _ _ h => (nomatch h), fun i b _ h => (nomatch h)⟩
  · unfold startV L2.start
    simp <;> omega
  · cases j with
    | zero =>
      cases h
      exact ⟨rfl, start_at rfl⟩
    | succ j =>
      change (List.replicate (N.length - 1) Ent.no)[j]? = some e at h
      rw [List.getElem?_replicate] at h
      split at h
      · cases h; rfl
      · cases h
def spState (K : PySem.W.Frag) : Sp := fun vs H Q _ => ∃ (a : Addr) (ns : List Int), vs = [.ref a] ∧ SqL K H a (ns.map V.int) ∧ ns.length ≤ 63 ∧ ∀ (H' : Hp) (p c : Addr), Same H H' → H p = none → H c = none → Dr H' p c → Q (.ref p) H'
def drD (d : D) : Prop := ∃ ns : List Int, d = .lst [.lst (ns.map .int), .int 0, .int 1] ∧ ns ≠ [] ∧ ns.length ≤ 63 ∧ ∀ n ∈ ns, 0 ≤ n
theorem rpl_ints {K : PySem.W.Frag} {F : Hp} : ∀ {ns : List Int} {vs : List V}, RpL K F vs (ns.map .int) → vs = ns.map V.int
  | [], _, .nil => rfl
  | n :: ns, _, .cons r t => by
    cases r
    rw [List.map_cons, rpl_ints t]
theorem spState_body {K : PySem.W.Frag} {N : List Str} (hN : 1 ≤ N.length) {t : TS} {vs : List V} {H : Hp} {Q : VK} {E : XK}
    (b : ∀ (H0 : Hp) (a : Addr) (ns : List Int), SqL K H0 a (ns.map V.int) → ns.length ≤ 63 → wps ⟨K, fun _ => none, H0, [], []⟩ t (startV N.length a) (fun _ => False) (fun _ d => drD d)) (h : spState K vs H Q E) :
    t { nx := fun _ H' => Q .non H', rt := Q } (start N vs) H := by
  obtain ⟨a, ns, rfl, hs, hl, q⟩ := h
  refine b H a ns hs hl _ _ _ _ (as_script hN) (fun _ _ _ _ _ _ z => z.elim) fun G' σ' v d F' H' s A r z => ?_
  obtain ⟨ms, rfl, h1, h2, h3⟩ := z
  have new : ∀ b o, F' b = some o → H b = none := fun b o e => by
    rcases A.base.src b o e with z | z
    · cases z
    · exact z
  cases r with
  | lst e r =>
    rename_i p us
    cases r with
    | cons r1 r =>
      cases r with
      | cons r2 r =>
        cases r with
        | cons r3 r =>
          cases r
          cases r2
          cases r3
          cases r1 with
          | lst e1 r1 =>
            rename_i c ws
            cases rpl_ints r1
            refine q H' p c (fun b o e => A.base.keep b o (by simp) e) (new _ _ e) (new _ _ e1) ⟨fun z => ?_, 0, 1, ms, A.fh _ _ e, A.fh _ _ e1, h1, h2, h3, by omega, by omega, by omega⟩
            subst z
            rw [e] at e1
            cases ms with
            | nil => exact h1 rfl
            | cons m ms => cases e1
section
variable {w : Wd} {G : List Ent} {i j : Nat} {N : List Ent → Prop} {R : List Ent → D → Prop} {E : XK}
/-- draws = state(script) -/
theorem wps_state {a : Addr} {ns : List Int} (e : G[j]? = some (.v (.ref a))) (hi : i < G.length) (hO : a ∉ w.O) (hs : SqL w.K w.H0 a (ns.map V.int)) (hl : ns.length ≤ 63) (h : ∀ p c, N (G.set i (.dr p c))) :
    wps w (tAsg (tCall (spState w.K) [] E (tCons (tVar j) tNil)) (gName i)) G N R := fun σ F H En A n r => by
  refine ⟨.ref a, A.val e, a, ns, rfl, sq_at A hO hs, hl, fun H' p c s hp hc hd => ?_⟩
  have hq : ∀ b, b ∈ [p, c] → H b = none ∧ H' b ≠ none := fun b hb => by
    obtain ⟨h1, i, m, ms, h2, h3, _⟩ := hd
    rcases List.mem_cons.mp hb with rfl | hb
    · exact ⟨hp, by rw [h2]; exact fun z => nomatch z⟩
    · obtain rfl : b = c := by simpa using hb
      exact ⟨hc, by rw [h3]; exact fun z => nomatch z⟩
  obtain ⟨A1, s1⟩ := A.putNew hi (drP p c) s hq ⟨rfl, rfl, hd⟩
  have A2 := A1.conv (i := i) (e' := .dr p c) (List.getElem?_set_self hi) fun s qs ⟨v, h1, h2, h3, h4⟩ => ⟨h3, by rw [h1, h2], h4⟩
  rw [List.set_set] at A2
  exact n _ _ _ _ s1 A2 (h p c)
/-- script[lo:hi] -/
theorem wpl_slV {a : Addr} {ns : List Int} {Q : List D → Prop} {tl th : TO} (e : G[j]? = some (.v (.ref a))) (hO : a ∉ w.O) (hs : SqL w.K w.H0 a (ns.map V.int)) (h : wpo w tl G fun lo => wpo w th G fun hi => Q (cutD (ns.map .int) lo hi)) :
    wpl w (tSl (rSlL w.K) (tVar j) tl th) G Q := fun σ F H A k z => by
  refine ⟨.ref a, A.val e, h σ F H A _ fun lo F1 H1 s1 A1 q => q σ F1 H1 A1 _ fun hi F2 H2 s2 A2 q2 => ⟨a, _, rfl, sq_at A2 hO hs, fun p hp => ?_⟩⟩
  have r : RpL w.K F2 (ns.map V.int) (ns.map D.int) := by
    clear hs q2 q h z
    induction ns with
    | nil => exact .nil
    | cons n ns ih => exact .cons (.int n) ih
  have := z p _ _ F2 (upd H2 p (.lst (cutV (ns.map V.int) lo hi))) (s1.trans s2) (A2.pend hp) (fun u hu => A2.fresh hp u hu) (r.cut lo hi) q2
  exact this
end
end Sd
set_option Elab.async false
set_option linter.all false
set_option maxRecDepth 100000
set_option maxHeartbeats 4000000
namespace Sd
open PySem PySem.Spec L2
section
variable {w : Wd} {G : List Ent} {i j : Nat} {N : List Ent → Prop} {R : List Ent → D → Prop} {te : TE}
/-- a, b = e, [] by a tuple -/
theorem wps_asgT2 (h : wp w te G fun d => N ((G.set i (.d d)).set j (.l []))) : wps w (tAsg (tTup (tCons te (tCons (tLst tNil) tNil))) (gTup w.K 2 (gCons (gName i) (gCons (gName j) gNil)))) G N R := fun σ F H E A n r =>
  h σ F H A _ fun v d F1 H1 s1 A1 r1 q => by
    refine ⟨line_ok (by simp), fun p hp => ⟨line_ok (by simp), fun t ht => ⟨t, _, rfl, .inl (.inl upd_same), rfl, v, _, rfl, .ref p, _, rfl, rfl, ?_⟩⟩⟩
    have A2 := (A1.pend (o := .lst []) hp).new (o := .tup [v, .ref p]) ht
    have ft : F1 t = none := (A1.pend (o := .lst []) hp).fh.free ht
    have s2 : Same F1 (upd F1 t (.tup [v, .ref p])) := same_new ft
    have A3 := A2.putD i (r1.mono s2)
    have A4 := A3.putL j (fun u hu => A1.fresh hp u hu) .nil
    exact n _ _ _ _ (s1.trans s2) A4 q
end
end Sd
set_option Elab.async false
set_option linter.all false
set_option maxRecDepth 100000
set_option maxHeartbeats 4000000
namespace Sd
open PySem PySem.Spec L2
open SX (S S_len S_cat S_inj)
open TL (numL joinL spl)
structure LapOk (size starts most : Nat) (p : Pas) : Prop where
  b : p.1.length = starts
  r0 : 1 ≤ p.2.length
  r1 : p.2.length ≤ most
  s : ∀ i ∈ p.1, 0 ≤ i ∧ i < p.2.length
  w : ∀ x ∈ p.2, x.length = size ∧ ∀ q ∈ x, (0 ≤ q.1 ∧ q.1 < p.2.length) ∧ -999 ≤ q.2 ∧ q.2 ≤ 999
theorem ints_of {P : Int → Prop} : ∀ {ys : List D}, (∀ y ∈ ys, ∃ k, y = .int k ∧ P k) → ∃ ks : List Int, ys = ks.map .int ∧ ks.length = ys.length ∧ ∀ k ∈ ks, P k
  | [], _ => ⟨[], rfl, rfl, by simp⟩
  | y :: ys, h => by
    obtain ⟨ks, h1, h2, h3⟩ := ints_of (ys := ys) fun z hz => h z (by simp [hz])
    obtain ⟨k, rfl, hk⟩ := h y (by simp)
    exact ⟨k :: ks, by rw [h1]; rfl, by simp [h2], fun z hz => by
      rcases List.mem_cons.mp hz with rfl | hz
      · exact hk
      · exact h3 z hz⟩
theorem strs_of {P : List Nat → Prop} : ∀ {ys : List D}, (∀ y ∈ ys, ∃ k, y = strD k ∧ P k) → ∃ ks : List (List Nat), ys = ks.map strD ∧ ks.length = ys.length ∧ ∀ k ∈ ks, P k
  | [], _ => ⟨[], rfl, rfl, by simp⟩
  | y :: ys, h => by
    obtain ⟨ks, h1, h2, h3⟩ := strs_of (ys := ys) fun z hz => h z (by simp [hz])
    obtain ⟨k, rfl, hk⟩ := h y (by simp)
    exact ⟨k :: ks, by rw [h1]; rfl, by simp [h2], fun z hz => by
      rcases List.mem_cons.mp hz with rfl | hz
      · exact hk
      · exact h3 z hz⟩
theorem tels_of {P : Tel → Prop} : ∀ {ys : List D}, (∀ y ∈ ys, ∃ k, y = telD k ∧ P k) → ∃ ks : List Tel, ys = ks.map telD ∧ ks.length = ys.length ∧ ∀ k ∈ ks, P k
  | [], _ => ⟨[], rfl, rfl, by simp⟩
  | y :: ys, h => by
    obtain ⟨ks, h1, h2, h3⟩ := tels_of (ys := ys) fun z hz => h z (by simp [hz])
    obtain ⟨k, rfl, hk⟩ := h y (by simp)
    exact ⟨k :: ks, by rw [h1]; rfl, by simp [h2], fun z hz => by
      rcases List.mem_cons.mp hz with rfl | hz
      · exact hk
      · exact h3 z hz⟩
end Sd
set_option Elab.async false
set_option linter.all false
set_option maxRecDepth 100000
set_option maxHeartbeats 4000000
namespace Sd
open PySem PySem.Spec L2
open SX (S S_len S_cat S_inj)
open TL (numL joinL spl)
theorem nodup_sub {α : Type} [DecidableEq α] : ∀ {l m : List α}, l.Nodup → (∀ x ∈ l, x ∈ m) → l.length ≤ m.length
  | [], _, _, _ => Nat.zero_le _
  | x :: l, m, nd, h => by
    have hx := h x (by simp)
    have nd' := List.nodup_cons.mp nd
    have ih := nodup_sub (l := l) (m := m.erase x) nd'.2 fun y hy => (List.mem_erase_of_ne fun e => nd'.1 (by rw [← e]; exact hy)).mpr (h y (by simp [hy]))
    have hl := List.length_erase_of_mem hx
    have hp : 0 < m.length := List.length_pos_iff.mpr fun e => by rw [e] at hx; cases hx
    rw [List.length_cons]
    omega
theorem pigeon {fs : List (List Nat)} {cs : List Nat} (p : List Nat) (nd : cs.Nodup) (h : fs.length < cs.length) : ∃ c ∈ cs, p ++ [c] ∉ fs := by
  by_cases z : ∃ c ∈ cs, p ++ [c] ∉ fs
  · exact z
  · have all : ∀ x ∈ cs.map (fun c => p ++ [c]), x ∈ fs := fun x hx => by
      obtain ⟨c, hc, rfl⟩ := List.mem_map.mp hx
      by_cases y : p ++ [c] ∈ fs
      · exact y
      · exact absurd ⟨c, hc, y⟩ z
    have nd2 : (cs.map (fun c => p ++ [c])).Nodup := List.Pairwise.map _ (fun a b hab e => hab (by simpa using e)) nd
    have := nodup_sub nd2 all
    rw [List.length_map] at this
    omega
def letL : List Nat := [97, 98, 99, 100, 101, 102, 103, 104, 105, 106, 107, 108, 109, 110, 111, 112, 113, 114, 115, 116, 117, 118, 119, 120, 121, 122]
theorem tl_letters : TL.tl letters = letL := by decide +kernel
theorem letL_nd : letL.Nodup := by decide
theorem letL_in {c : Nat} (h : c ∈ letL) : 97 ≤ c ∧ c ≤ 122 := by
  have : letL.all (fun c => decide (97 ≤ c ∧ c ≤ 122)) = true := by decide
  exact of_decide_eq_true (List.all_eq_true.mp this c h)
theorem in_letL {c : Nat} (h : 97 ≤ c ∧ c ≤ 122) : c ∈ letL := by
  have : ∀ k : Nat, k < 26 → 97 + k ∈ letL := by decide
  have := this (c - 97) (by omega)
  rwa [show 97 + (c - 97) = c by omega] at this
theorem nameC_iff {l : List Nat} : nameC l = true ↔ (1 ≤ l.length ∧ l.length ≤ 8) ∧ ∀ c ∈ l, 97 ≤ c ∧ c ≤ 122 := by
  unfold nameC
  rw [Bool.and_eq_true, Bool.and_eq_true, decide_eq_true_eq, decide_eq_true_eq, List.all_eq_true]
  simp
theorem nameC_app {l : List Nat} {c : Nat} (h : nameC l = true) (hc : 97 ≤ c ∧ c ≤ 122) : nameC (l.take 7 ++ [c]) = true := by
  obtain ⟨⟨h1, h2⟩, h3⟩ := nameC_iff.mp h
  refine nameC_iff.mpr ⟨⟨by simp, by rw [List.length_append, List.length_take]; simp; omega⟩, fun x hx => ?_⟩
  rcases List.mem_append.mp hx with hx | hx
  · exact h3 x (List.mem_of_mem_take hx)
  · obtain rfl : x = c := by simpa using hx
    exact hc
def ownL : List Str := ["a", "b", "kinds", "pass", "tell", "run", "swap", "none", "same", "undo", "text", "zzzzzzzz"]
theorem own_names : ∀ y ∈ ownL, nameC (TL.tl y) = true := by
  have h : (ownL.all fun y => nameC (TL.tl y)) = true := by decide +kernel
  exact fun y hy => List.all_eq_true.mp h y hy
theorem flat_ones : ∀ {ws : List (List Nat)}, (∀ w ∈ ws, ∃ c ∈ letL, w = [c]) → ws.flatten.length = ws.length ∧ ∀ c ∈ ws.flatten, c ∈ letL
  | [], _ => ⟨rfl, by simp⟩
  | w :: ws, h => by
    obtain ⟨h1, h2⟩ := flat_ones (ws := ws) fun x hx => h x (by simp [hx])
    obtain ⟨c, hc, rfl⟩ := h w (by simp)
    rw [List.flatten_cons, List.length_append, h1]
    refine ⟨by simp; omega, fun x hx => ?_⟩
    rcases List.mem_append.mp hx with hx | hx
    · obtain rfl : x = c := by simpa using hx
      exact hc
    · exact h2 x hx
end Sd
set_option Elab.async false
set_option linter.all false
set_option maxRecDepth 100000
set_option maxHeartbeats 4000000
namespace Sd
open PySem PySem.Spec L2
open SX (S S_len S_cat S_inj)
open TL (numL joinL spl)
open PyProof.Rows (sortedS risingS ltCps_eq)
theorem ltc_eq : ∀ {a b : List Nat}, ltCps a b = false → ltCps b a = false → a = b
  | [], [], _, _ => rfl
  | [], _ :: _, h, _ => by simp [ltCps] at h
  | _ :: _, [], _, h => by simp [ltCps] at h
  | x :: a, y :: b, h1, h2 => by
    simp only [ltCps, Bool.or_eq_false_iff, decide_eq_false_iff_not, Bool.and_eq_false_iff, beq_eq_false_iff_ne] at h1 h2
    have e : x = y := by omega
    subst e
    rw [ltc_eq (h1.2.resolve_left (by simp)) (h2.2.resolve_left (by simp))]
theorem asc_rising : ∀ {r : List Str} {x : Str}, risingS x r = true → (x :: r).Nodup → ascD ((x :: r).map .str) = true
  | [], x, _, _ => rfl
  | y :: r, x, h, nd => by
    have h' : (!ltCps y.cps.toList x.cps.toList) = true ∧ risingS y r = true := by
      have : ((!ltCps y.cps.toList x.cps.toList) && risingS y r) = true := h
      rwa [Bool.and_eq_true] at this
    have nd' := List.nodup_cons.mp nd
    have ih := asc_rising h'.2 nd'.2
    show (decide (x.cps.toList < y.cps.toList) && ascD ((y :: r).map .str)) = true
    rw [ih, Bool.and_true, ← ltCps_eq]
    cases e : ltCps x.cps.toList y.cps.toList with
    | true => rfl
    | false =>
      have := ltc_eq e (nb_t h'.1)
      exact absurd (TL.ext_tl this) fun z => nd'.1 (by rw [z]; simp)
theorem asc_sorted {ys : List Str} (h : sortedS ys = true) (nd : ys.Nodup) : ascD (ys.map .str) = true := by
  cases ys with
  | nil => rfl
  | cons x r => exact asc_rising h nd
/-- what the law's programs are -/
structure PgOk (g : Pg) : Prop where
  k1 : 1 ≤ g.ks.length
  k4 : g.ks.length ≤ 4
  kn : ∀ x ∈ g.ks, nameC x = true
  ka : ascD (g.ks.map strD) = true
  ps : (∃ p, g.ps = [p] ∧ LapOk g.ks.length 1 6 p ∧ g.ts.length = p.2.length) ∨ ∃ p q, g.ps = [p, q] ∧ LapOk g.ks.length 1 6 p ∧ LapOk g.ks.length p.2.length 6 q ∧ g.ts.length = q.2.length
  ts : ∀ t ∈ g.ts, nameC t.1 = true ∧ -999 ≤ t.2 ∧ t.2 ≤ 999
theorem LapOk.size {a b c : Nat} {p : Pas} (h : LapOk a b c p) (ha : a ≤ 4) (hb : b ≤ 100) (hc : c ≤ 100) : PasS p where
  b := by rw [h.b]; exact hb
  r := by have := h.r1; omega
  w := fun x hx => ⟨by have := (h.w x hx).1; omega, fun q hq => by
    have := (h.w x hx).2 q hq
    have hr := h.r1
    constructor <;> show _ < 1000000 <;> omega⟩
  s := fun i hi => by
    have := h.s i hi
    have hr := h.r1
    show _ < 1000000
    omega
theorem PgOk.size {g : Pg} (h : PgOk g) : PgS g where
  k := h.k4
  kw := fun x hx => (nameC_iff.mp (h.kn x hx)).1.2
  p := by rcases h.ps with ⟨p, e, _⟩ | ⟨p, q, e, _⟩ <;> rw [e] <;> simp
  pw := fun x hx => by
    have h4 := h.k4
    rcases h.ps with ⟨p, e, h1, _⟩ | ⟨p, q, e, h1, h2, _⟩
    · rw [e] at hx
      obtain rfl : x = p := by simpa using hx
      exact h1.size h4 (by omega) (by omega)
    · have := h1.r1
      rw [e] at hx
      rcases List.mem_cons.mp hx with rfl | hx
      · exact h1.size h4 (by omega) (by omega)
      · obtain rfl : x = q := by simpa using hx
        exact h2.size h4 (by omega) (by omega)
  t := by rcases h.ps with ⟨p, e, h1, h2⟩ | ⟨p, q, e, h1, h2, h3⟩
          · have := h1.r1; omega
          · have := h2.r1; omega
  tw := fun x hx => ⟨(nameC_iff.mp (h.ts x hx).1).1.2, by have := (h.ts x hx).2; show _ < 1000000; omega⟩

/-! ### as data -/
abbrev Fd (n : Nat) (d : D) : Prop := okD d = true ∧ dep d ≤ n
theorem fd_ok {n : Nat} {d : D} (h : Fd n d) (hn : n ≤ 60) : Ok d := ⟨h.1, by have := h.2; omega⟩
theorem fd_int (i : Int) {n : Nat} : Fd n (.int i) := ⟨by simp [okD], by simp [dep]⟩
theorem fd_str {l : List Nat} {n : Nat} (h : l.length ≤ 1000000) (hc : ∀ c ∈ l, c < 1114112) : Fd n (strD l) := by
  refine ⟨?_, by simp [dep]⟩
  have e : PyData.strOk (S l) = true := by
    unfold PyData.strOk
    simpa using hc
  simp only [okD, S_len, decide_eq_true h, e, Bool.and_self]
theorem fd_tup {xs : List D} {n : Nat} (hl : xs.length ≤ 1000000) (h : ∀ x ∈ xs, Fd n x) : Fd (n + 1) (.tup xs) := ok_tup hl h
theorem fd_name {l : List Nat} {n : Nat} (h : nameC l = true) : Fd n (strD l) := by
  obtain ⟨h1, h2⟩ := nameC_iff.mp h
  exact fd_str (by omega) fun c hc => by have := h2 c hc; omega
theorem fd_ints {l : List Int} (h : l.length ≤ 1000000) : Fd 1 (intsD l) := fd_tup (by rw [List.length_map]; exact h) fun x hx => by
  obtain ⟨i, _, rfl⟩ := List.mem_map.mp hx
  exact fd_int i
theorem fd_row {r : Row} (h : r.length ≤ 1000000) : Fd 2 (rowD r) := fd_tup (by rw [List.length_map]; exact h) fun x hx => by
  obtain ⟨p, _, rfl⟩ := List.mem_map.mp hx
  exact fd_tup (by simp) fun y hy => by
    simp only [List.mem_cons, List.not_mem_nil, or_false] at hy
    rcases hy with rfl | rfl <;> exact fd_int _
theorem Fd.mono {n m : Nat} {d : D} (h : Fd n d) (hm : n ≤ m) : Fd m d := ⟨h.1, Nat.le_trans h.2 hm⟩
theorem fd_pas {p : Pas} (h : PasS p) : Fd 4 (pasD p) := fd_tup (by simp) fun x hx => by
  simp only [List.mem_cons, List.not_mem_nil, or_false] at hx
  rcases hx with rfl | rfl
  · exact (fd_ints (by have := h.b; omega)).mono (by omega)
  · exact fd_tup (n := 2) (by rw [List.length_map]; have := h.r; omega) fun x hx => by
      obtain ⟨r, hr, rfl⟩ := List.mem_map.mp hx
      exact fd_row (by have := (h.w r hr).1; omega)
theorem fd_tel {t : Tel} (h : nameC t.1 = true) : Fd 1 (telD t) := fd_tup (by simp) fun x hx => by
  simp only [List.mem_cons, List.not_mem_nil, or_false] at hx
  rcases hx with rfl | rfl
  · exact fd_name h
  · exact fd_int _
theorem name_is {l : List Nat} : isNameD (strD l) = nameC l := by
  show isNameS (S l) = nameC l
  unfold isNameS nameC
  rw [S_len]
  congr 1
  show l.all _ = l.all _
  congr 1
  funext c
  have e : letters.cps.toList = letL := tl_letters
  rw [e]
  exact decide_eq_decide.mpr ⟨letL_in, in_letL⟩
theorem lap_pass {a b c : Nat} {p : Pas} (h : LapOk a b c p) : isPassD a b (pasD p) = true := by
  show (areRowsD a (rowsD p.2) && decide (((p.1.map D.int).length : Int) = b) && (p.1.map D.int).all (isStateD (lenT (rowsD p.2)))) = true
  have e : lenT (rowsD p.2) = p.2.length := List.length_map _
  have h1 : areRowsD a (rowsD p.2) = true := by
    show (!(p.2.map rowD).isEmpty && (p.2.map rowD).all (isRowD a (p.2.map rowD).length)) = true
    have hne : (p.2.map rowD).isEmpty = false := by
      cases e : p.2 with
      | nil => have := h.r0; rw [e] at this; cases this
      | cons x r => rfl
    rw [hne, List.length_map]
    refine List.all_eq_true.mpr fun x hx => ?_
    obtain ⟨r, hr, rfl⟩ := List.mem_map.mp hx
    obtain ⟨hw, hq⟩ := h.w r hr
    show (decide (((r.map pairD).length : Int) = a) && (r.map pairD).all (isPairD p.2.length)) = true
    rw [List.length_map, decide_eq_true (by omega), Bool.true_and]
    refine List.all_eq_true.mpr fun y hy => ?_
    obtain ⟨q, hq2, rfl⟩ := List.mem_map.mp hy
    show (decide (0 ≤ q.1) && decide (q.1 < (p.2.length : Int)) && true) = true
    have := (hq q hq2).1
    rw [decide_eq_true this.1, decide_eq_true this.2]
    rfl
  rw [h1, e, List.length_map, h.b, decide_eq_true rfl]
  refine List.all_eq_true.mpr fun x hx => ?_
  obtain ⟨i, hi, rfl⟩ := List.mem_map.mp hx
  have := h.s i hi
  show (decide (0 ≤ i) && decide (i < (p.2.length : Int))) = true
  rw [decide_eq_true this.1, decide_eq_true this.2]
  rfl
theorem PgOk.ok {g : Pg} (h : PgOk g) : ProgOk g.kD g.pD g.tD where
  ok := fd_ok (n := 1) (fd_tup (by rw [List.length_map]; have := h.k4; omega) fun x hx => by
    obtain ⟨l, hl, rfl⟩ := List.mem_map.mp hx
    exact fd_name (h.kn l hl)) (by omega)
  op := fd_ok (n := 5) (fd_tup (by rw [List.length_map]; have := h.size.p; omega) fun x hx => by
    obtain ⟨l, hl, rfl⟩ := List.mem_map.mp hx
    exact fd_pas (h.size.pw l hl)) (by omega)
  ot := fd_ok (n := 2) (fd_tup (by rw [List.length_map]; have := h.size.t; omega) fun x hx => by
    obtain ⟨l, hl, rfl⟩ := List.mem_map.mp hx
    exact fd_tel (h.ts l hl).1) (by omega)
  hk := by
    show (decide (1 ≤ (g.ks.map strD).length) && decide ((g.ks.map strD).length ≤ 4) && (g.ks.map strD).all isNameD && ascD (g.ks.map strD)) = true
    rw [List.length_map, decide_eq_true h.k1, decide_eq_true h.k4, h.ka, show (g.ks.map strD).all isNameD = true from List.all_eq_true.mpr fun x hx => by
      obtain ⟨l, hl, rfl⟩ := List.mem_map.mp hx
      rw [name_is]; exact h.kn l hl]
    rfl
  hp := by
    have e : lenT g.kD = g.ks.length := List.length_map _
    rw [e]
    rcases h.ps with ⟨p, e, h1, _⟩ | ⟨p, q, e, h1, h2, _⟩
    · show arePassesD _ (.tup (g.ps.map pasD)) = true
      rw [e]
      show (decide (([] : List D).length ≤ 1) && isPassD g.ks.length 1 (pasD p) && true) = true
      rw [show isPassD g.ks.length 1 (pasD p) = true from lap_pass h1]
      rfl
    · show arePassesD _ (.tup (g.ps.map pasD)) = true
      rw [e]
      show (decide (([pasD q] : List D).length ≤ 1) && isPassD g.ks.length 1 (pasD p) && (isPassD g.ks.length (lenT (rowsOf (pasD p))) (pasD q) && true)) = true
      have e2 : lenT (rowsOf (pasD p)) = p.2.length := List.length_map _
      rw [e2, show isPassD g.ks.length 1 (pasD p) = true from lap_pass h1, lap_pass h2]
      rfl
  ht := by
    have hts : (g.ts.map telD).all isTellD = true := List.all_eq_true.mpr fun x hx => by
      obtain ⟨t, ht, rfl⟩ := List.mem_map.mp hx
      show (isNameD (strD t.1) && true) = true
      rw [name_is, (h.ts t ht).1]
      rfl
    show (decide ((g.ts.map telD).length = lenT (rowsOf (lastD g.pD))) && (g.ts.map telD).all isTellD) = true
    rw [hts, List.length_map, Bool.and_true]
    refine decide_eq_true ?_
    rcases h.ps with ⟨p, e, h1, h2⟩ | ⟨p, q, e, h1, h2, h3⟩
    · have : lenT (rowsOf (lastD g.pD)) = p.2.length := by
        show lenT (rowsOf (lastD (.tup (g.ps.map pasD)))) = _
        rw [e]
        exact List.length_map _
      rw [this, h2]
    · have : lenT (rowsOf (lastD g.pD)) = q.2.length := by
        show lenT (rowsOf (lastD (.tup (g.ps.map pasD)))) = _
        rw [e]
        exact List.length_map _
      rw [this, h3]
end Sd
set_option Elab.async false
set_option linter.all false
set_option maxRecDepth 100000
set_option maxHeartbeats 4000000
/-! Sd11: expressions that change a thing of one's own. -/
namespace Sd
open PySem PySem.Spec L2
/-- an expression, and what the slots tell behind it -/
def wpx (w : Wd) (te : TE) (G : List Ent) (Q : List Ent → D → Prop) : Prop := ∀ σ F H, As w G σ F H → ∀ k : VK, (∀ G' v d F' H', Same F F' → As w G' σ F' H' → Rp w.K F' v d → Q G' d → k v H') → te σ H k
section
variable {w : Wd} {G : List Ent} {Q : List Ent → D → Prop} {te ta tb : TE} {tas : TA} {t u : TS} {N : List Ent → Prop} {R : List Ent → D → Prop} {E : XK} {i : Nat}
theorem wpx_wp (h : wp w te G fun d => Q G d) : wpx w te G Q := fun σ F H A k z => h σ F H A k fun v d F' H' s A' r q => z G v d F' H' s A' r q
theorem wpx.imp {Q' : List Ent → D → Prop} (h : wpx w te G Q) (i : ∀ G d, Q G d → Q' G d) : wpx w te G Q' := fun σ F H A k z => h σ F H A k fun G' v d F' H' s A' r q => z G' v d F' H' s A' r (i _ _ q)
theorem wps_retX (h : wpx w te G R) : wps w (tRet te) G N R := fun σ F H E A n r => h σ F H A _ fun G' v d F' H' s A' rp q => r G' σ v d F' H' s A' rp q
theorem wps_dropX (h : wpx w te G fun G' _ => N G') : wps w (tDrop te) G N R := fun σ F H E A n r => h σ F H A _ fun G' v d F' H' s A' rp q => n G' σ F' H' s A' q
theorem wps_asgX (h : wpx w te G fun G' d => N (G'.set i (.d d))) : wps w (tAsg te (gName i)) G N R := fun σ F H E A n r => h σ F H A _ fun G' v d F' H' s A' rp q => n _ _ F' H' s (A'.putD i rp) q
theorem wps_ifNX (h : wpx w te G fun G' x => ∃ b, x = .bl b ∧ if b = true then wps w u G' N R else wps w t G' N R) : wps w (tIfS (tNot (tB te)) t u) G N R := fun σ F H E A n r =>
  h σ F H A _ fun G' v d F' H' s A' rp q => by
    obtain ⟨b, rfl, q⟩ := q
    cases rp
    refine ⟨b, rfl, ?_⟩
    cases b with
    | true => exact iteF (q σ F' H' E A' (fun G2 σ2 F2 H2 s2 => n G2 σ2 F2 H2 (s.trans s2)) fun G2 σ2 v d F2 H2 s2 => r G2 σ2 v d F2 H2 (s.trans s2))
    | false => exact iteT (q σ F' H' E A' (fun G2 σ2 F2 H2 s2 => n G2 σ2 F2 H2 (s.trans s2)) fun G2 σ2 v d F2 H2 s2 => r G2 σ2 v d F2 H2 (s.trans s2))
theorem wpx_orV (h : wpx w ta G fun G' x => ∃ b, x = .bl b ∧ if b = true then Q G' (.bl true) else wpx w tb G' Q) : wpx w (tOrV ta tb) G Q := fun σ F H A k z =>
  h σ F H A _ fun G1 v x F1 H1 s1 A1 r1 q => by
    obtain ⟨b, rfl, q⟩ := q
    cases r1
    refine ⟨b, rfl, ?_⟩
    cases b with
    | true => exact iteT (z G1 _ _ F1 H1 s1 A1 (.bl true) q)
    | false => exact iteF (q σ F1 H1 A1 _ fun G2 v d F2 H2 s2 A2 r2 q2 => z G2 v d F2 H2 (s1.trans s2) A2 r2 q2)
/-- own(a, s) is an instance of the class at C without an attribute m of its own -/
def InsO {S : Type} (own : Addr → S → OwnP) (C : Addr) (m : Str) : Prop := ∀ a s F H v qs, (own a s).ok F H v qs → v = .ref a ∧ ∃ dx fs, H a = some (.ins C dx fs) ∧ fs.lookup m = none
/-- x.m(..), x a thing of one's own -/
theorem wpx_methO {S : Type} {own : Addr → S → OwnP} {C a : Addr} {m : Str} {s : S} {pre : S → List D → Prop} {post : S → List D → D → S → Prop} (I : InsO own C m) (e : G[i]? = some (.o (own a s)))
    (h : wpa w tas G fun ds => pre s ds ∧ ∀ d s', post s ds d s' → Q (G.set i (.o (own a s'))) d) : wpx w (tMeth C m (spO w.K own pre post) [] E (tVar i) tas) G Q := fun σ F H A k z => by
  obtain ⟨v, qs, h1, hok, h5, _⟩ := A.own1 e
  obtain ⟨rfl, dx, fs, h2, h3⟩ := I _ _ _ _ _ _ hok
  refine ⟨.ref a, h1, a, dx, fs, rfl, h2, h3, h σ F H A _ fun vs ds F1 H1 s1 A1 r1 q => ?_⟩
  obtain ⟨v', qs', g1, gok, g5, up⟩ := A1.own1 e
  rw [h1] at g1
  cases g1
  rw [List.append_nil]
  refine ⟨a, vs, F1, ds, s, qs', rfl, A1.fh, fun b hb => g5 b hb, gok, r1, q.1, fun r d s' H' qs2 k1 k2 k3 ok' rr ps => ?_⟩
  obtain ⟨A2, s2⟩ := up (own a s') H' qs2 k1 k2 k3 ok'
  exact z _ r d _ H' (s1.trans s2) A2 rr (q.2 d s' ps)
end

/-! ### the reader of a text -/
structure RSt where
  k : D
  ps : List (D × List D)
  ts : List D
def PassAt (K : PySem.W.Frag) (F H : Hp) : List (Addr × Addr) → List (D × List D) → Prop
  | [], [] => True
  | x :: tr, p :: ps => (∃ bv rvs, H x.1 = some (.tup [bv, .ref x.2]) ∧ Rp K F bv p.1 ∧ H x.2 = some (.lst rvs) ∧ RpL K F rvs p.2) ∧ PassAt K F H tr ps
  | _, _ => False
def qsT (tr : List (Addr × Addr)) : List Addr := tr.flatMap fun x => [x.1, x.2]
theorem qsT_cons (x : Addr × Addr) (tr : List (Addr × Addr)) : qsT (x :: tr) = x.1 :: x.2 :: qsT tr := by simp [qsT]
theorem qsT_app (tr tr2 : List (Addr × Addr)) : qsT (tr ++ tr2) = qsT tr ++ qsT tr2 := by simp [qsT]
theorem PassAt.step {K : PySem.W.Frag} {F F' H H' : Hp} (f : Same F F') : ∀ {tr : List (Addr × Addr)} {ps : List (D × List D)}, (∀ a o, a ∈ qsT tr → H a = some o → H' a = some o) → PassAt K F H tr ps → PassAt K F' H' tr ps
  | [], [], _, h => h
  | x :: tr, p :: ps, k, ⟨⟨bv, rvs, h1, h2, h3, h4⟩, t⟩ => ⟨⟨bv, rvs, k _ _ (by rw [qsT_cons]; simp) h1, h2.mono f, k _ _ (by rw [qsT_cons]; simp) h3, h4.mono f⟩, PassAt.step f (fun a o ha => k a o (by rw [qsT_cons]; simp [ha])) t⟩
  | [], _ :: _, _, h => h.elim
  | _ :: _, [], _, h => h.elim
theorem PassAt.len {K : PySem.W.Frag} {F H : Hp} : ∀ {tr : List (Addr × Addr)} {ps : List (D × List D)}, PassAt K F H tr ps → tr.length = ps.length
  | [], [], _ => rfl
  | _ :: _, _ :: _, ⟨_, t⟩ => by rw [List.length_cons, List.length_cons, PassAt.len t]
  | [], _ :: _, h => h.elim
  | _ :: _, [], h => h.elim
theorem PassAt.snoc {K : PySem.W.Frag} {F H : Hp} {x : Addr × Addr} {p : D × List D} (hx : ∃ bv rvs, H x.1 = some (.tup [bv, .ref x.2]) ∧ Rp K F bv p.1 ∧ H x.2 = some (.lst rvs) ∧ RpL K F rvs p.2) : ∀ {tr : List (Addr × Addr)} {ps : List (D × List D)}, PassAt K F H tr ps → PassAt K F H (tr ++ [x]) (ps ++ [p])
  | [], [], _ => ⟨hx, trivial⟩
  | _ :: _, _ :: _, ⟨h, t⟩ => ⟨h, PassAt.snoc hx t⟩
  | [], _ :: _, h => h.elim
  | _ :: _, [], h => h.elim
theorem PassAt.unsnoc {K : PySem.W.Frag} {F H : Hp} {p : D × List D} : ∀ {tr : List (Addr × Addr)} {ps : List (D × List D)}, PassAt K F H tr (ps ++ [p]) → ∃ tr' x, tr = tr' ++ [x] ∧ PassAt K F H tr' ps ∧ ∃ bv rvs, H x.1 = some (.tup [bv, .ref x.2]) ∧ Rp K F bv p.1 ∧ H x.2 = some (.lst rvs) ∧ RpL K F rvs p.2
  | [], [], h => h.elim
  | [], _ :: _, h => h.elim
  | x :: [], [], ⟨h, _⟩ => ⟨[], x, rfl, trivial, h⟩
  | _ :: _ :: _, [], ⟨_, h⟩ => h.elim
  | x :: tr, q :: ps, ⟨h, t⟩ => by
    obtain ⟨tr', y, rfl, h2, h3⟩ := PassAt.unsnoc t
    exact ⟨x :: tr', y, rfl, ⟨h, h2⟩, h3⟩
def rdF (kv : V) (lp lt : Addr) : List (Str × V) := [("r_kinds", kv), ("r_passes", .ref lp), ("r_tells", .ref lt)]
structure RdAt (K : PySem.W.Frag) (C a : Addr) (st : RSt) (F H : Hp) (qs : List Addr) (dx lp lt : Addr) (kv : V) (tvs : List V) (tr : List (Addr × Addr)) : Prop where
  q : qs = a :: lp :: lt :: qsT tr
  nd : qs.Nodup
  ha : H a = some (.ins C dx (rdF kv lp lt))
  k : Rp K F kv st.k
  hp : H lp = some (.lst (tr.map fun x => .ref x.1))
  ht : H lt = some (.lst tvs)
  t : RpL K F tvs st.ts
  p : PassAt K F H tr st.ps
def readerP (K : PySem.W.Frag) (C : Addr) (a : Addr) (st : RSt) : OwnP where
  ok := fun F H v qs => v = .ref a ∧ ∃ dx lp lt kv tvs tr, RdAt K C a st F H qs dx lp lt kv tvs tr
  step := fun {F F' H H' v qs} f k h => by
    obtain ⟨rfl, dx, lp, lt, kv, tvs, tr, R⟩ := h
    have q := R.q
    exact ⟨rfl, dx, lp, lt, kv, tvs, tr, R.q, R.nd, k _ _ (by rw [q]; simp) R.ha, R.k.mono f, k _ _ (by rw [q]; simp) R.hp, k _ _ (by rw [q]; simp) R.ht, R.t.mono f, R.p.step f fun a o ha => k a o (by rw [q]; simp [ha])⟩
theorem readerP_at {K : PySem.W.Frag} {C : Addr} : AtRef (readerP K C) := fun a s F H v qs h => h.1
abbrev rdD (C : Addr) (st : RSt) : D := .obj C ["r_kinds", "r_passes", "r_tells"] [st.k, .lst (st.ps.map fun p => .tup [p.1, .lst p.2]), .lst st.ts]
theorem PassAt.rp {K : PySem.W.Frag} {F F2 H : Hp} (f : Same F F2) : ∀ {tr : List (Addr × Addr)} {ps : List (D × List D)}, (∀ a, a ∈ qsT tr → F2 a = H a) → PassAt K F H tr ps → RpL K F2 (tr.map fun x => .ref x.1) (ps.map fun p => .tup [p.1, .lst p.2])
  | [], [], _, _ => .nil
  | x :: tr, p :: ps, k, ⟨⟨bv, rvs, h1, h2, h3, h4⟩, t⟩ => .cons (.tup ((k _ (by rw [qsT_cons]; simp)).trans h1) (.cons (h2.mono f) (.one (.lst ((k _ (by rw [qsT_cons]; simp)).trans h3) (h4.mono f))))) (PassAt.rp f (fun a ha => k a (by rw [qsT_cons]; simp [ha])) t)
  | [], _ :: _, _, h => h.elim
  | _ :: _, [], _, h => h.elim
theorem rd_rp {K : PySem.W.Frag} {C a : Addr} {st : RSt} {F F2 H : Hp} {qs : List Addr} {dx lp lt : Addr} {kv : V} {tvs : List V} {tr : List (Addr × Addr)} (R : RdAt K C a st F H qs dx lp lt kv tvs tr) (f : Same F F2) (k : ∀ b, b ∈ qs → F2 b = H b) : Rp K F2 (.ref a) (rdD C st) := by
  have q := R.q
  refine .obj (dx := dx) (vs := [kv, .ref lp, .ref lt]) ((k a (by rw [q]; simp)).trans R.ha) rfl (.cons (R.k.mono f) (.cons (.lst ((k lp (by rw [q]; simp)).trans R.hp) (R.p.rp f fun b hb => k b (by rw [q]; simp [hb]))) (.one (.lst ((k lt (by rw [q]; simp)).trans R.ht) (R.t.mono f)))))
theorem pk_rd {K : PySem.W.Frag} {C a : Addr} {st : RSt} : PkOk K (.o (readerP K C a st)) (.d (rdD C st)) := fun w w' F H F2 s qs hw hw' h f q => by
  obtain ⟨v, h1, rfl, dx, lp, lt, kv, tvs, tr, R⟩ := h
  exact ⟨rfl, .ref a, h1, by rw [hw']; exact rd_rp R f q⟩
theorem rdF_no {kv : V} {lp lt : Addr} {m : Str} (h1 : m ≠ "r_kinds") (h2 : m ≠ "r_passes") (h3 : m ≠ "r_tells") : (rdF kv lp lt).lookup m = none := by
  unfold rdF
  rw [List.lookup_cons, beq_eq_false_iff_ne.mpr h1, List.lookup_cons, beq_eq_false_iff_ne.mpr h2, List.lookup_cons, beq_eq_false_iff_ne.mpr h3]
  rfl
theorem rd_ins {K : PySem.W.Frag} {C : Addr} {m : Str} (h1 : m ≠ "r_kinds") (h2 : m ≠ "r_passes") (h3 : m ≠ "r_tells") : InsO (readerP K C) C m := fun a s F H v qs h => by
  obtain ⟨rfl, dx, lp, lt, kv, tvs, tr, R⟩ := h
  exact ⟨rfl, dx, _, R.ha, rdF_no h1 h2 h3⟩
/-! ### peeking with the reader -/
inductive PkL (K : PySem.W.Frag) : List Ent → List Ent → Prop
  | nil : PkL K [] []
  | cons {e e' : Ent} {G G' : List Ent} : PkOk K e e' → PkL K G G' → PkL K (e :: G) (e' :: G')
theorem PkL.len {K : PySem.W.Frag} {G G' : List Ent} (h : PkL K G G') : G'.length = G.length := by
  induction h with
  | nil => rfl
  | cons _ _ ih => rw [List.length_cons, List.length_cons, ih]
theorem PkL.ok {K : PySem.W.Frag} {G G' : List Ent} (h : PkL K G G') : ∀ (i : Nat) (e e' : Ent), G[i]? = some e → G'[i]? = some e' → PkOk K e e' := by
  induction h with
  | nil => intro i e e' h; simp at h
  | cons hp _ ih =>
    intro i e e' h h'
    cases i with
    | zero =>
      cases h
      cases h'
      exact hp
    | succ i => exact ih i e e' h h'
section
variable {w : Wd} {G G' : List Ent} {te : TE} {tt : TT} {tas : TA}
theorem wpt_pkL {Q : Bool → Prop} (hk : PkL w.K G G') (h : ∀ F0 H0, wpt ⟨w.K, F0, H0, [], []⟩ tt G' Q) : wpt w tt G Q := wpt_pk hk.len hk.ok h
theorem wp_pkL {Q : D → Prop} (hk : PkL w.K G G') (h : ∀ F0 H0, wp ⟨w.K, F0, H0, [], []⟩ te G' fun d => flatD d = true ∧ Q d) : wp w te G Q := wp_pk hk.len hk.ok h
theorem flat_rpl {K : PySem.W.Frag} {F F' : Hp} : ∀ {vs : List V} {ds : List D}, ds.all flatD = true → RpL K F vs ds → RpL K F' vs ds
  | _, _, _, .nil => .nil
  | _, _, h, .cons r t => by
    rw [List.all_cons, Bool.and_eq_true] at h
    exact .cons (flat_rp h.1 r) (flat_rpl h.2 t)
theorem wpa_pkL {Q : List D → Prop} (hk : PkL w.K G G') (h : ∀ F0 H0, wpa ⟨w.K, F0, H0, [], []⟩ tas G' fun ds => ds.all flatD = true ∧ Q ds) : ∀ σ F H, As w G σ F H → ∀ k : List V → Hp → Prop, (∀ vs ds H', Same H H' → As w G σ (ext F H H') H' → RpL w.K (ext F H H') vs ds → Q ds → k vs H') → tas σ H k := fun σ F H A k z => by
  obtain ⟨F2, sm, A2⟩ := A.peek hk.len hk.ok
  exact h F2 H σ F2 H A2 _ fun vs ds F' H' s' A' r q => z vs ds H' (fun b o e => A'.base.keep b o (by simp) e) (A.back A') (flat_rpl q.1 r) q.2
end

/-! ### the reader is changed -/
theorem same_extBut {F H H' : Hp} {qs : List Addr} (fh : Same F H) (hq : ∀ a, a ∈ qs → F a = none) : Same F (extBut F H H' qs) := fun b o e => by
  unfold extBut
  rw [if_neg fun z => by rw [hq b z] at e; cases e]
  exact ext_same fh b o e
theorem putF_k {kv y : V} {lp lt : Addr} : putF "r_kinds" y (rdF kv lp lt) = rdF y lp lt := by
  show (if ("r_kinds" : Str) = "r_kinds" then _ else _) = _
  rw [if_pos rfl]
  rfl
theorem rdF_k {kv : V} {lp lt : Addr} : (rdF kv lp lt).lookup ("r_kinds" : Str) = some kv := by
  unfold rdF
  rw [List.lookup_cons, beq_self_eq_true]
theorem rdF_p {kv : V} {lp lt : Addr} : (rdF kv lp lt).lookup ("r_passes" : Str) = some (V.ref lp) := by
  unfold rdF
  rw [List.lookup_cons, show (("r_passes" : Str) == "r_kinds") = false by decide +kernel, List.lookup_cons, beq_self_eq_true]
theorem rdF_t {kv : V} {lp lt : Addr} : (rdF kv lp lt).lookup ("r_tells" : Str) = some (V.ref lt) := by
  unfold rdF
  rw [List.lookup_cons, show (("r_tells" : Str) == "r_kinds") = false by decide +kernel, List.lookup_cons, show (("r_tells" : Str) == "r_passes") = false by decide +kernel, List.lookup_cons, beq_self_eq_true]
section
variable {w : Wd} {G : List Ent} {N : List Ent → Prop} {R : List Ent → D → Prop} {te tv : TE} {tas : TA} {i j : Nat} {C a : Addr} {st : RSt}
/-- self.r_kinds = e -/
theorem wps_rdK (e : G[i]? = some (.o (readerP w.K C a st))) (c : Cls w.K C) (na : NoAttr w.K C "r_kinds") (h : wp w tv G fun d => N (G.set i (.o (readerP w.K C a { st with k := d })))) : wps w (sFld w.K (tVar i) tv "r_kinds") G N R := fun σ F H E A n r =>
  h σ F H A _ fun y d F1 H1 s1 A1 r1 q => by
    obtain ⟨v, qs, h1, ⟨rfl, dx, lp, lt, kv, tvs, tr, X⟩, h5, up⟩ := A1.own1 e
    refine ⟨.ref a, h1, a, C, dx, _, rfl, X.ha, c, na, (by show 3 < 1000; omega), ?_⟩
    rw [putF_k]
    have hq := X.q
    have nd := X.nd
    rw [hq] at nd
    have nd1 := List.nodup_cons.mp nd
    have nea : ∀ b, b ∈ lp :: lt :: qsT tr → b ≠ a := fun b hb z => nd1.1 (by rw [← z]; exact hb)
    have keep : ∀ b u, b ≠ a → H1 b = some u → upd H1 a (.ins C dx (rdF y lp lt)) b = some u := fun b u z e => by rw [upd_ne z]; exact e
    have sm : Same F1 (extBut F1 H1 (upd H1 a (.ins C dx (rdF y lp lt))) qs) := same_extBut A1.fh fun b hb => (h5 b hb).1
    obtain ⟨A2, s2⟩ := up (readerP w.K C a { st with k := d }) (upd H1 a (.ins C dx (rdF y lp lt))) qs (fun b u hb e => keep b u (fun z => hb (by rw [z, hq]; simp)) e) (fun b hb => by
        by_cases z : b = a
        · rw [z, upd_same]; exact fun z => nomatch z
        · rw [upd_ne z]; exact (h5 b hb).2)
      (fun b hb => ⟨.inl hb, by
        by_cases z : b = a
        · rw [z, upd_same]; exact fun z => nomatch z
        · rw [upd_ne z]; exact (h5 b hb).2⟩)
      ⟨rfl, dx, lp, lt, y, tvs, tr, hq, X.nd, upd_same, r1.mono sm, keep _ _ (nea _ (by simp)) X.hp, keep _ _ (nea _ (by simp)) X.ht, X.t.mono sm, X.p.step sm fun b o hb e => keep _ _ (nea _ (by simp [hb])) e⟩
    exact n _ _ _ _ (s1.trans s2) A2 q
/-- self.r_passes.append((e, [])) -/
theorem wps_rdPass {b : D} (e : G[i]? = some (.o (readerP w.K C a st))) (ej : G[j]? = some (.d b)) (c : Cls w.K C) (na : NoAttr w.K C "r_passes") (hz : st.ps.length < 1000000) (h : N (G.set i (.o (readerP w.K C a { st with ps := st.ps ++ [(b, [])] })))) :
    wps w (tDrop (tBM w.K "list" rAppend (tFld w.K (tVar i) "r_passes") (tCons (tTup (tCons (tVar j) (tCons (tLst tNil) tNil))) tNil))) G N R := fun σ F H E A n r => by
  obtain ⟨v, qs, h1, ⟨rfl, dx, lp, lt, kv, tvs, tr, X⟩, h5, up⟩ := A.own1 e
  obtain ⟨bv, hbv, rb⟩ := A.dat ej
  refine ⟨.ref a, h1, a, C, dx, _, _, rfl, X.ha, c, na, rdF_p, .inl ⟨rfl, _, .inl (.inl X.hp)⟩, bv, hbv, line_ok (by simp), fun rl hrl => ⟨line_ok (by simp), fun tp htp => ?_⟩⟩
  have hq := X.q
  have nd := X.nd
  have ntl : tp ≠ rl := fun z => by rw [z, upd_same] at htp; cases htp
  have htp0 : H tp = none := by rwa [upd_ne ntl] at htp
  have hlp : lp ∈ qs := by rw [hq]; simp
  have old : ∀ x, x ∈ qs → x ≠ rl ∧ x ≠ tp := fun x hx => ⟨fun z => (h5 x hx).2 (by rw [z]; exact hrl), fun z => (h5 x hx).2 (by rw [z]; exact htp0)⟩
  have k2 : ∀ x u, H x = some u → upd (upd H rl (.lst [])) tp (.tup [bv, .ref rl]) x = some u := fun x u e => by
    rw [upd_ne (fun z => by rw [z, htp0] at e; cases e), upd_ne (fun z => by rw [z, hrl] at e; cases e)]; exact e
  refine ⟨lp, _, .ref tp, rfl, rfl, k2 _ _ X.hp, line_lt (by rw [List.length_map, X.p.len]; omega), ?_⟩
  let H' := upd (upd (upd H rl (.lst [])) tp (.tup [bv, .ref rl])) lp (.lst (tr.map (fun x => V.ref x.1) ++ [.ref tp]))
  have k3 : ∀ x u, x ≠ lp → H x = some u → H' x = some u := fun x u z e => by
    show upd _ lp _ x = some u
    rw [upd_ne z]; exact k2 x u e
  let qs' := a :: lp :: lt :: qsT (tr ++ [(tp, rl)])
  have hqs' : ∀ x, x ∈ qs' ↔ x ∈ qs ∨ x = tp ∨ x = rl := fun x => by
    show x ∈ a :: lp :: lt :: qsT (tr ++ [(tp, rl)]) ↔ _
    rw [hq, qsT_app]
    simp [qsT]
    constructor
    · rintro (h | h | h | h | h | h)
      · exact .inl (.inl h)
      · exact .inl (.inr (.inl h))
      · exact .inl (.inr (.inr (.inl h)))
      · exact .inl (.inr (.inr (.inr h)))
      · exact .inr (.inl h)
      · exact .inr (.inr h)
    · rintro ((h | h | h | h) | h | h)
      · exact .inl h
      · exact .inr (.inl h)
      · exact .inr (.inr (.inl h))
      · exact .inr (.inr (.inr (.inl h)))
      · exact .inr (.inr (.inr (.inr (.inl h))))
      · exact .inr (.inr (.inr (.inr (.inr h))))
  have frl : F rl = none := A.fh.free hrl
  have ftp : F tp = none := A.fh.free htp0
  have fq : ∀ x, x ∈ qs' → F x = none := fun x hx => by
    rcases (hqs' x).mp hx with h | rfl | rfl
    · exact (h5 x h).1
    · exact ftp
    · exact frl
  have sm : Same F (extBut F H H' qs') := same_extBut A.fh fq
  have hn : ∀ x, x ∈ qs' → H' x ≠ none := fun x hx => by
    show upd _ lp _ x ≠ none
    by_cases z : x = lp
    · rw [z, upd_same]; exact fun z => nomatch z
    · rw [upd_ne z]
      by_cases z2 : x = tp
      · rw [z2, upd_same]; exact fun z => nomatch z
      · rw [upd_ne z2]
        by_cases z3 : x = rl
        · rw [z3, upd_same]; exact fun z => nomatch z
        · rw [upd_ne z3]
          rcases (hqs' x).mp hx with h | h | h
          · exact (h5 x h).2
          · exact absurd h z2
          · exact absurd h z3
  have nelp : ∀ x, x ∈ a :: lt :: qsT tr → x ≠ lp := fun x hx z => by
    rw [hq] at nd
    subst z
    have n1 := List.nodup_cons.mp nd
    have n2 := List.nodup_cons.mp n1.2
    rcases List.mem_cons.mp hx with rfl | hx
    · exact n1.1 (by simp)
    · exact n2.1 hx
  have nd' : qs'.Nodup := by
    show (a :: lp :: lt :: qsT (tr ++ [(tp, rl)])).Nodup
    have e : a :: lp :: lt :: qsT (tr ++ [(tp, rl)]) = qs ++ [tp, rl] := by rw [hq, qsT_app]; simp [qsT]
    rw [e]
    refine List.nodup_append.mpr ⟨nd, by simpa using ntl, fun x hx y hy z => ?_⟩
    subst z
    simp only [List.mem_cons, List.not_mem_nil, or_false] at hy
    rcases hy with h | h
    · exact (old x hx).2 h
    · exact (old x hx).1 h
  have nlp2 : tp ≠ lp := fun z => (old lp hlp).2 z.symm
  have nlp3 : rl ≠ lp := fun z => (old lp hlp).1 z.symm
  obtain ⟨A2, s2⟩ := up (readerP w.K C a { st with ps := st.ps ++ [(b, [])] }) H' qs' (fun x u hx e => k3 x u (fun z => hx (by rw [z]; exact hlp)) e) (fun x hx => hn x ((hqs' x).mpr (.inl hx)))
    (fun x hx => ⟨by
      rcases (hqs' x).mp hx with h | rfl | rfl
      · exact .inl h
      · exact .inr htp0
      · exact .inr hrl, hn x hx⟩)
    ⟨rfl, dx, lp, lt, kv, tvs, tr ++ [(tp, rl)], rfl, nd', k3 _ _ (nelp a (by simp)) X.ha, X.k.mono sm, (by show upd _ lp _ lp = _; rw [upd_same, List.map_append]; rfl), k3 _ _ (nelp lt (by simp)) X.ht, X.t.mono sm,
      (X.p.step sm fun x o hx e => k3 x o (nelp x (by simp [hx])) e).snoc ⟨bv, [], (by show upd _ lp _ tp = _; rw [upd_ne nlp2, upd_same]), rb.mono sm, (by show upd _ lp _ rl = _; rw [upd_ne nlp3, upd_ne (Ne.symm ntl), upd_same]), .nil⟩⟩
  exact n _ _ _ _ s2 A2 h
end
end Sd
set_option Elab.async false
set_option linter.all false
set_option maxRecDepth 100000
set_option maxHeartbeats 4000000
/-! Sd12: the reader: rows, tells, its making, its end. -/
namespace Sd
open PySem PySem.Spec L2
theorem qsT_mem1 {tr : List (Addr × Addr)} {x : Addr × Addr} (h : x ∈ tr) : x.1 ∈ qsT tr ∧ x.2 ∈ qsT tr := by
  unfold qsT
  exact ⟨List.mem_flatMap.mpr ⟨x, h, by simp⟩, List.mem_flatMap.mpr ⟨x, h, by simp⟩⟩
theorem HT_last {α : Type} (xs : List α) (x : α) : L2.atI (xs ++ [x]) (-1) = some x := by
  unfold L2.atI L2.ixN
  rw [List.length_append, List.length_singleton, if_neg (by omega), if_pos (by omega)]
  have e : ((-1 : Int) + ((xs.length + 1 : Nat) : Int)).toNat = xs.length := by omega
  rw [e, Option.bind_some]
  simp
theorem rd_nd {C a : Addr} {qs : List Addr} {lp lt : Addr} {tr : List (Addr × Addr)} (q : qs = a :: lp :: lt :: qsT tr) (nd : qs.Nodup) : a ≠ lp ∧ a ≠ lt ∧ lp ≠ lt ∧ a ∉ qsT tr ∧ lp ∉ qsT tr ∧ lt ∉ qsT tr ∧ (qsT tr).Nodup := by
  rw [q] at nd
  have n1 := List.nodup_cons.mp nd
  have n2 := List.nodup_cons.mp n1.2
  have n3 := List.nodup_cons.mp n2.2
  refine ⟨fun z => n1.1 (by simp [z]), fun z => n1.1 (by simp [z]), fun z => n2.1 (by simp [z]), fun z => n1.1 (by simp [z]), fun z => n2.1 (by simp [z]), n3.1, n3.2⟩
section
variable {w : Wd} {G : List Ent} {N : List Ent → Prop} {R : List Ent → D → Prop} {te tv : TE} {tas : TA} {i j : Nat} {C a : Addr} {st : RSt}
/-- self.r_passes[-1][1].append(row) -/
theorem wps_rdRow {d : D} {p : D × List D} {ps : List (D × List D)} (e : G[i]? = some (.o (readerP w.K C a st))) (ej : G[j]? = some (.d d)) (c : Cls w.K C) (na : NoAttr w.K C "r_passes") (hps : st.ps = ps ++ [p]) (hz : p.2.length < 1000000)
    (h : N (G.set i (.o (readerP w.K C a { st with ps := ps ++ [(p.1, p.2 ++ [d])] })))) :
    wps w (tDrop (tBM w.K "list" rAppend (tOp (rIxT w.K) (tOp (rIxL w.K) (tFld w.K (tVar i) "r_passes") (tUn (rU fun i => .int (-i)) (tC (.int 1)))) (tC (.int 1))) (tCons (tVar j) tNil))) G N R := fun σ F H E A n r => by
  obtain ⟨v, qs, h1, ⟨rfl, dx, lp, lt, kv, tvs, tr, X⟩, h5, up⟩ := A.own1 e
  obtain ⟨bv, hbv, rb⟩ := A.dat ej
  have hp0 := X.p
  rw [hps] at hp0
  obtain ⟨tr', x, rfl, hp1, bv', rvs, e1, e2, e3, e4⟩ := hp0.unsnoc
  obtain ⟨n1, n2, n3, n4, n5, n6, n7⟩ := rd_nd (C := C) X.q X.nd
  have hx := qsT_mem1 (tr := tr' ++ [x]) (x := x) (by simp)
  have hx2q : x.2 ∈ qs := by rw [X.q]; simp [hx.2]
  have hlast : L2.atI ((tr' ++ [x]).map fun x => V.ref x.1) (-1) = some (.ref x.1) := by
    rw [List.map_append]
    exact HT_last _ _
  refine ⟨.ref a, h1, a, C, dx, _, _, rfl, X.ha, c, na, rdF_p, 1, rfl, lp, _, -1, _, rfl, rfl, .inl (.inl X.hp), hlast, x.1, _, 1, _, rfl, rfl, .inl (.inl e1), rfl, .inl ⟨rfl, _, .inl (.inl e3)⟩, bv, hbv, x.2, _, bv, rfl, rfl, e3, line_lt (by rw [e4.length]; omega), ?_⟩
  let H' := upd H x.2 (.lst (rvs ++ [bv]))
  have k3 : ∀ y u, y ≠ x.2 → H y = some u → H' y = some u := fun y u z e => by
    show upd H x.2 _ y = some u
    rw [upd_ne z]; exact e
  have ne2 : ∀ y, y ∈ qsT tr' ∨ y = x.1 → y ≠ x.2 := fun y hy z => by
    rw [qsT_app] at n7
    have := List.nodup_append.mp n7
    rcases hy with hy | rfl
    · exact this.2.2 y hy x.2 (by simp [qsT]) z
    · have h2 : (qsT [x]).Nodup := this.2.1
      rw [show qsT [x] = [x.1, x.2] by simp [qsT]] at h2
      have := (List.nodup_cons.mp h2).1
      exact this (by simp [z])
  have sm : Same F (extBut F H H' qs) := same_extBut A.fh fun b hb => (h5 b hb).1
  have hn : ∀ y, y ∈ qs → H' y ≠ none := fun y hy => by
    show upd H x.2 _ y ≠ none
    by_cases z : y = x.2
    · rw [z, upd_same]; exact fun z => nomatch z
    · rw [upd_ne z]; exact (h5 y hy).2
  obtain ⟨A2, s2⟩ := up (readerP w.K C a { st with ps := ps ++ [(p.1, p.2 ++ [d])] }) H' qs (fun y u hy e => k3 y u (fun z => hy (by rw [z]; exact hx2q)) e) hn (fun y hy => ⟨.inl hy, hn y hy⟩)
    ⟨rfl, dx, lp, lt, kv, tvs, tr' ++ [x], X.q, X.nd, k3 _ _ (fun z => n4 (by rw [z]; exact hx.2)) X.ha, X.k.mono sm, k3 _ _ (fun z => n5 (by rw [z]; exact hx.2)) X.hp, k3 _ _ (fun z => n6 (by rw [z]; exact hx.2)) X.ht, X.t.mono sm,
      (hp1.step sm fun y o hy e => k3 y o (ne2 y (.inl hy)) e).snoc (p := (p.1, p.2 ++ [d])) ⟨bv', rvs ++ [bv], k3 _ _ (ne2 _ (.inr rfl)) e1, e2.mono sm, upd_same, (e4.mono sm).append (.one (rb.mono sm))⟩⟩
  exact n _ _ _ _ s2 A2 h
/-- self.r_tells.append((.., ..)) -/
theorem wps_rdTell {G' : List Ent} (hk : PkL w.K G G') (e : G[i]? = some (.o (readerP w.K C a st))) (c : Cls w.K C) (na : NoAttr w.K C "r_tells") (hz : st.ts.length < 1000000)
    (h : ∀ F0 H0, wpa ⟨w.K, F0, H0, [], []⟩ tas G' fun ds => ds.all flatD = true ∧ ds.length ≤ 1000000 ∧ N (G.set i (.o (readerP w.K C a { st with ts := st.ts ++ [.tup ds] })))) :
    wps w (tDrop (tBM w.K "list" rAppend (tFld w.K (tVar i) "r_tells") (tCons (tTup tas) tNil))) G N R := fun σ F H E A n r => by
  obtain ⟨v, qs, h1, ⟨rfl, dx, lp, lt, kv, tvs, tr, X⟩, h5, _⟩ := A.own1 e
  refine ⟨.ref a, h1, a, C, dx, _, _, rfl, X.ha, c, na, rdF_t, .inl ⟨rfl, _, .inl (.inl X.ht)⟩, wpa_pkL hk h σ F H A _ fun vs ds H1 s1 A1 rv q => ⟨by rw [rv.length]; exact line_ok q.1, fun tp htp => ?_⟩⟩
  obtain ⟨v', qs', g1, ⟨rfl, dx', lp', lt', kv', tvs', tr', X'⟩, g5, up⟩ := A1.own1 e
  have ea := X'.ha
  rw [s1 _ _ X.ha] at ea
  cases ea
  have et := X'.ht
  rw [s1 _ _ X.ht] at et
  cases et
  have ntt : tp ≠ lt := fun z => by rw [z, X'.ht] at htp; cases htp
  have kt : upd H1 tp (.tup vs) lt = some (.lst tvs) := by rw [upd_ne (Ne.symm ntt)]; exact X'.ht
  refine ⟨lt, tvs, .ref tp, rfl, rfl, kt, line_lt (by rw [X'.t.length]; omega), ?_⟩
  obtain ⟨n1, n2, n3, n4, n5, n6, n7⟩ := rd_nd (C := C) X'.q X'.nd
  let H' := upd (upd H1 tp (.tup vs)) lt (.lst (tvs ++ [.ref tp]))
  have k3 : ∀ y u, y ≠ lt → H1 y = some u → H' y = some u := fun y u z e => by
    show upd _ lt _ y = some u
    rw [upd_ne z, upd_ne (fun z => by rw [z, htp] at e; cases e)]; exact e
  have sm : Same (ext F H H1) (extBut (ext F H H1) H1 H' qs') := same_extBut A1.fh fun b hb => (g5 b hb).1
  have hn : ∀ y, y ∈ qs' → H' y ≠ none := fun y hy => by
    by_cases z : y = lt
    · show upd _ lt _ y ≠ none
      rw [z, upd_same]; exact fun z => nomatch z
    · cases e : H1 y with
      | none => exact absurd e (g5 y hy).2
      | some u => rw [k3 y u z e]; exact fun z => nomatch z
  have ftp : extBut (ext F H H1) H1 H' qs' tp = some (.tup vs) := by
    unfold extBut
    rw [if_neg fun z => (g5 tp z).2 htp, ext_none htp]
    show upd _ lt _ tp = _
    rw [upd_ne ntt, upd_same]
  obtain ⟨A2, s2⟩ := up (readerP w.K C a { st with ts := st.ts ++ [.tup ds] }) H' qs' (fun y u hy e => k3 y u (fun z => hy (by rw [z, X'.q]; simp)) e) hn (fun y hy => ⟨.inl hy, hn y hy⟩)
    ⟨rfl, dx, lp, lt, kv, tvs ++ [.ref tp], tr', X'.q, X'.nd, k3 _ _ n2 X'.ha, X'.k.mono sm, k3 _ _ n3 X'.hp, upd_same, (X'.t.mono sm).append (.one (.tup ftp (rv.mono sm))), X'.p.step sm fun y o hy e => k3 y o (fun z => n6 (by rw [← z]; exact hy)) e⟩
  exact n _ _ _ _ (A.same.trans s2) A2 q.2
/-- a thing of one's own is known from now on -/
theorem As.knowO {σ : L2.St} {F H : Hp} {e0 : Ent} {d : D} (A : As w G σ F H) (hO : w.O = []) (e : G[i]? = some e0) (pk : PkOk w.K e0 (.d d)) : ∃ F2, Same F F2 ∧ As w (G.set i (.d d)) σ F2 H := by
  obtain ⟨q, O⟩ := A.get
  have hi := (List.getElem?_eq_some_iff.mp e).1
  let F2 : Hp := fun b => if b ∈ q i then H b else F b
  have sm : Same F F2 := fun b o eb => by
    show (if b ∈ q i then H b else F b) = some o
    rw [if_neg fun z => by rw [(O.at_ i b hi z).1] at eb; cases eb]
    exact eb
  have inq : ∀ b, b ∈ q i → F2 b = H b := fun b hb => if_pos hb
  have out : ∀ b, b ∉ q i → F2 b = F b := fun b hb => if_neg hb
  refine ⟨F2, sm, .mk' (q := qput q i []) (by simp [A.len]) ⟨A.base.f0.trans sm, fun b o eb => ?_, fun b o eb => ?_, A.base.keep, (fun b hb => by rw [hO] at hb; cases hb), fun b o hb => ?_⟩ ⟨fun k u hk => ?_, fun k b hk hb => ?_, fun k m b hk hm hb hc => ?_, fun k b hk hb => ?_⟩⟩
  · by_cases z : b ∈ q i
    · rw [inq b z] at eb; exact eb
    · rw [out b z] at eb; exact A.base.fh b o eb
  · by_cases z : b ∈ q i
    · rcases (O.at_ i b hi z).2.2 with y | y
      · rw [hO] at y; cases y
      · exact .inr y
    · rw [out b z] at eb; exact A.base.src b o eb
  · obtain ⟨h1, h2, h3⟩ := A.base.pend b o hb
    exact ⟨by rw [out b (fun z => O.pd i b hi z o hb)]; exact h1, h2, h3⟩
  · by_cases z : k = i
    · subst z
      rw [List.getElem?_set_self hi] at hk
      cases hk
      rw [qput_same]
      exact pk w w F H F2 _ _ rfl rfl (O.ok k _ e) sm inq
    · rw [List.getElem?_set_ne (Ne.symm z)] at hk
      rw [qput_ne z]
      exact (O.ok k u hk).step sm fun b o _ e => e
  · rw [List.length_set] at hk
    by_cases z : k = i
    · subst z
      rw [qput_same] at hb
      cases hb
    · rw [qput_ne z] at hb
      obtain ⟨h1, h2⟩ := O.at_ k b hk hb
      exact ⟨by rw [out b (fun y => z (O.dis k i b hk hi hb y))]; exact h1, h2⟩
  · rw [List.length_set] at hk hm
    by_cases z : k = i
    · subst z
      rw [qput_same] at hb
      cases hb
    · by_cases y : m = i
      · subst y
        rw [qput_same] at hc
        cases hc
      · rw [qput_ne z] at hb
        rw [qput_ne y] at hc
        exact O.dis k m b hk hm hb hc
  · rw [List.length_set] at hk
    by_cases z : k = i
    · subst z
      rw [qput_same] at hb
      cases hb
    · rw [qput_ne z] at hb
      exact O.pd k b hk hb
theorem wps_knowO {t : TS} {e0 : Ent} {d : D} (i : Nat) (hO : w.O = []) (e : G[i]? = some e0) (pk : PkOk w.K e0 (.d d)) (h : wps w t (G.set i (.d d)) N R) : wps w t G N R := fun σ F H E A n r => by
  obtain ⟨F2, s, A2⟩ := A.knowO hO e pk
  exact h σ F2 H E A2 (fun G' σ' F' H' s' => n G' σ' F' H' (s.trans s')) fun G' σ' v d F' H' s' => r G' σ' v d F' H' (s.trans s')
end
end Sd
set_option Elab.async false
set_option linter.all false
set_option maxRecDepth 100000
set_option maxHeartbeats 4000000
/-! M9: reading a program's lines. -/
namespace Sd
open PySem PySem.Spec L2
open SX (S S_len S_cat S_inj)
open TL (numL joinL spl)
structure RS where
  ks : List (List Nat)
  ps : List Pas
  ts : List Tel
def RS.st (s : RS) : RSt := ⟨.tup (s.ks.map strD), s.ps.map fun p => (intsD p.1, p.2.map rowD), s.ts.map telD⟩
def takesK (s : RS) (ws : List (List Nat)) : Option RS := if ws.head? = some wKinds ∧ ws.length ≠ 1 ∧ ws.tail.all nameC = true then some { s with ks := ws.tail } else none
def takesP (s : RS) (ws : List (List Nat)) : Option RS := match numsC ws.tail with
  | none => none
  | some bs => if ws.head? = some wPass ∧ ws.length ≠ 1 ∧ s.ts = [] then some { s with ps := s.ps ++ [(bs, [])] } else none
def addRow (ps : List Pas) (r : Row) : List Pas := match ps.getLast? with
  | none => ps
  | some p => ps.dropLast ++ [(p.1, p.2 ++ [r])]
def takesR (s : RS) (l : List Nat) : Option RS := match rowOf s.ks.length l with
  | none => none
  | some r => if s.ps ≠ [] ∧ s.ts = [] then some { s with ps := addRow s.ps r } else none
def takesT (s : RS) (ws : List (List Nat)) : Option RS := match ws with
  | [a, b, c] => if a = wTell ∧ nameC b = true ∧ numC c = true ∧ s.ps ≠ [] then some { s with ts := s.ts ++ [(b, valC c)] } else none
  | _ => none
def takesC (s : RS) (l : List Nat) : Option RS := if s.ks = [] then takesK s (splitC l 32) else match takesP s (splitC l 32) with
  | some s' => some s'
  | none => match takesR s l with
    | some s' => some s'
    | none => takesT s (splitC l 32)
def readC : RS → List (List Nat) → Option RS
  | s, [] => some s
  | s, l :: ls => match takesC s l with
    | some s' => readC s' ls
    | none => none
theorem readC_app : ∀ {xs ys : List (List Nat)} {s : RS}, readC s (xs ++ ys) = (readC s xs).bind fun s' => readC s' ys
  | [], ys, s => rfl
  | x :: xs, ys, s => by
    show (match takesC s x with | some s' => readC s' (xs ++ ys) | none => none) = (match takesC s x with | some s' => readC s' xs | none => none).bind fun s' => readC s' ys
    cases takesC s x with
    | none => rfl
    | some s' => exact readC_app
/-! numerals -/
theorem digits_num (n : Nat) : (numL n).all digC = true := List.all_eq_true.mpr fun c hc => decide_eq_true (TL.numL_digits n c hc)
theorem num_head {n : Nat} : (numL n).head? = some 48 → n = 0 := by
  intro h
  induction n using Nat.strongRecOn with
  | _ n ih =>
    by_cases hn : n < 10
    · rw [TL.numL_lt hn] at h
      simp at h
      exact h
    · rw [TL.numL_step (by omega)] at h
      have hne := TL.numL_ne (n / 10)
      have : (numL (n / 10)).head? = some 48 := by
        cases e : numL (n / 10) with
        | nil => exact absurd e hne
        | cons a b => rw [e] at h; exact h
      have := ih (n / 10) (by omega) this
      omega
theorem num_first {n c : Nat} (h : (numL n).head? = some c) : 48 ≤ c ∧ c ≤ 57 := by
  cases e : numL n with
  | nil => exact absurd e (TL.numL_ne n)
  | cons a b =>
    rw [e] at h
    cases h
    exact TL.numL_digits n _ (by rw [e]; simp)
theorem take1 {l : List Nat} : l.take 1 = [45] ↔ l.head? = some 45 := by
  cases l with
  | nil => simp
  | cons a b => simp
theorem num_not45 (n : Nat) : ¬ (numL n).take 1 = [45] := fun h => by
  have := num_first (take1.mp h)
  omega
theorem intL_num {i : Int} (h : smI i) : numC (intL i) = true ∧ valC (intL i) = i := by
  cases i with
  | ofNat n =>
    have hl : (numL n).length ≤ 6 := TL.numL_len (k := 6) (by decide) h
    have h1 : 1 ≤ (numL n).length := List.length_pos_iff.mpr (TL.numL_ne n)
    have ea : absC (numL n) = numL n := if_neg (num_not45 n)
    refine ⟨?_, ?_⟩
    · show (decide (1 ≤ (absC (numL n)).length) && decide ((absC (numL n)).length ≤ 6) && (absC (numL n)).all digC && (decide (numL n = [48]) || !decide ((absC (numL n)).head? = some 48))) = true
      rw [ea, decide_eq_true h1, decide_eq_true hl, digits_num]
      by_cases z : (numL n).head? = some 48
      · have := num_head z
        subst this
        decide +kernel
      · rw [decide_eq_false z]
        simp
    · show (if (numL n).take 1 = [45] then -((NumText.digitsVal ((numL n).drop 1) : Nat) : Int) else ((NumText.digitsVal (numL n) : Nat) : Int)) = _
      rw [if_neg (num_not45 n), TL.numL_val]
      rfl
  | negSucc n =>
    have hl : (numL (n + 1)).length ≤ 6 := TL.numL_len (k := 6) (by decide) h
    have h1 : 1 ≤ (numL (n + 1)).length := List.length_pos_iff.mpr (TL.numL_ne _)
    have ea : absC (45 :: numL (n + 1)) = numL (n + 1) := by unfold absC; rw [if_pos (by simp)]; rfl
    refine ⟨?_, ?_⟩
    · show (decide (1 ≤ (absC (45 :: numL (n + 1))).length) && decide ((absC (45 :: numL (n + 1))).length ≤ 6) && (absC (45 :: numL (n + 1))).all digC && (decide (45 :: numL (n + 1) = [48]) || !decide ((absC (45 :: numL (n + 1))).head? = some 48))) = true
      rw [ea, decide_eq_true h1, decide_eq_true hl, digits_num, decide_eq_false (show ¬ (numL (n + 1)).head? = some 48 from fun z => by have := num_head z; omega)]
      simp
    · show (if (45 :: numL (n + 1)).take 1 = [45] then _ else _) = _
      rw [if_pos (by simp)]
      show -((NumText.digitsVal (numL (n + 1)) : Nat) : Int) = _
      rw [TL.numL_val]
      rfl
theorem nums_ints {l : List Int} (h : ∀ i ∈ l, smI i) : numsC (l.map intL) = some l := by
  unfold numsC
  rw [if_pos (List.all_eq_true.mpr fun x hx => by
    obtain ⟨i, hi, rfl⟩ := List.mem_map.mp hx
    exact (intL_num (h i hi)).1), List.map_map]
  congr 1
  refine (List.map_congr_left fun i hi => ?_).trans (List.map_id l)
  exact (intL_num (h i hi)).2
/-! the lines split -/
theorem split_join1 {c : Nat} {ws : List (List Nat)} (hne : ws ≠ []) (h : ∀ w ∈ ws, c ∉ w) : splitC (joinL [c] ws) c = ws := TL.spl_join hne h
theorem name_free {l : List Nat} {c : Nat} (h : nameC l = true) (hc : c < 97) : c ∉ l := fun z => by have := (nameC_iff.mp h).2 c z; omega
theorem joinL_free {s c : Nat} : ∀ {ws : List (List Nat)}, c ≠ s → (∀ w ∈ ws, c ∉ w) → c ∉ joinL [s] ws
  | [], _, _ => by rw [joinL]; simp
  | [w], _, h => by rw [joinL]; exact h w (by simp)
  | w :: v :: r, hs, h => by
    rw [joinL]
    have ih := joinL_free (ws := v :: r) hs fun x hx => h x (by simp [hx])
    simp only [List.mem_append, List.mem_singleton, not_or]
    exact ⟨h w (by simp), hs, ih⟩
theorem page_join : ∀ ls : List (List Nat), pageC ls = joinL [10] (ls ++ [[]])
  | [] => rfl
  | l :: ls => by
    have ih := page_join ls
    unfold pageC at ih ⊢
    rw [joinL_nil] at ih ⊢
    rw [List.map_cons, List.flatten_cons, ih]
    cases ls with
    | nil => show (l ++ [10]) ++ joinL [10] [[]] = joinL [10] [l, []]; rw [joinL, joinL, joinL]; simp
    | cons m ms => show (l ++ [10]) ++ joinL [10] (m :: (ms ++ [[]])) = joinL [10] (l :: m :: (ms ++ [[]])); rw [List.append_assoc]; rfl
end Sd
set_option Elab.async false
set_option linter.all false
set_option maxRecDepth 100000
set_option maxHeartbeats 4000000
namespace Sd
open PySem PySem.Spec L2
open SX (S S_len S_cat S_inj)
open TL (numL joinL spl)
theorem split_kinds {ks : List (List Nat)} (h : ∀ k ∈ ks, nameC k = true) : splitC (kindsC ks) 32 = wKinds :: ks :=
  split_join1 (by simp) fun w hw => by
    rcases List.mem_cons.mp hw with rfl | hw
    · decide
    · exact name_free (h w hw) (by omega)
theorem split_beg (l : List Int) : splitC (begC l) 32 = wPass :: l.map intL :=
  split_join1 (by simp) fun w hw => by
    rcases List.mem_cons.mp hw with rfl | hw
    · decide
    · obtain ⟨i, _, rfl⟩ := List.mem_map.mp hw
      exact intL_free (by omega)
theorem joinL_cons {s : List Nat} {a : List Nat} {r : List (List Nat)} (h : r ≠ []) : joinL s (a :: r) = a ++ (s ++ joinL s r) := by
  cases r with
  | nil => exact absurd rfl h
  | cons b r => rfl
theorem tel_join (t : Tel) : telC t = joinL [32] [wTell, t.1, intL t.2] := rfl
theorem split_tel {t : Tel} (h : nameC t.1 = true) : splitC (telC t) 32 = [wTell, t.1, intL t.2] := by
  rw [tel_join]
  refine split_join1 (by simp) fun w hw => ?_
  simp only [List.mem_cons, List.not_mem_nil, or_false] at hw
  rcases hw with rfl | rfl | rfl
  · decide
  · exact name_free h (by omega)
  · exact intL_free (by omega)
def rowW (r : Row) : List (List Nat) := r.flatMap fun p => [intL p.1, intL p.2]
theorem row_join : ∀ {r : Row}, joinL [32] (r.map pairC) = joinL [32] (rowW r)
  | [] => rfl
  | [p] => rfl
  | p :: q :: r => by
    have ih := row_join (r := q :: r)
    show pairC p ++ ([32] ++ joinL [32] ((q :: r).map pairC)) = joinL [32] (intL p.1 :: intL p.2 :: rowW (q :: r))
    have hne : rowW (q :: r) ≠ [] := by simp [rowW]
    rw [ih, joinL_cons (by simp), joinL_cons hne]
    unfold pairC
    simp [List.append_assoc]
theorem split_row {r : Row} (h : r ≠ []) : splitC ((rowC r).drop 2) 32 = rowW r := by
  have e : (rowC r).drop 2 = joinL [32] (r.map pairC) := rfl
  rw [e, row_join]
  refine split_join1 ?_ fun w hw => ?_
  · cases r with
    | nil => exact absurd rfl h
    | cons p r => simp [rowW]
  · obtain ⟨p, _, hp⟩ := List.mem_flatMap.mp hw
    simp only [List.mem_cons, List.not_mem_nil, or_false] at hp
    rcases hp with rfl | rfl <;> exact intL_free (by omega)
theorem nums_row : ∀ {r : Row}, (∀ q ∈ r, smI q.1 ∧ smI q.2) → numsC (rowW r) = some (r.flatMap fun p => [p.1, p.2]) := fun {r} h => by
  have e : rowW r = (r.flatMap fun p => [p.1, p.2]).map intL := by
    unfold rowW
    rw [List.map_flatMap]
    rfl
  rw [e]
  refine nums_ints fun i hi => ?_
  obtain ⟨p, hp, hi⟩ := List.mem_flatMap.mp hi
  simp only [List.mem_cons, List.not_mem_nil, or_false] at hi
  rcases hi with rfl | rfl
  · exact (h p hp).1
  · exact (h p hp).2
theorem flat2_len : ∀ r : Row, (r.flatMap fun p => [p.1, p.2]).length = 2 * r.length
  | [] => rfl
  | p :: r => by rw [List.flatMap_cons, List.length_append, flat2_len r, List.length_cons]; simp; omega
theorem pairs_back : ∀ r : Row, pairsC r.length (r.flatMap fun p => [p.1, p.2]) = r
  | [] => rfl
  | p :: r => by
    unfold pairsC
    rw [List.length_cons, List.range_succ_eq_map, List.map_cons, List.map_map]
    have ih := pairs_back r
    unfold pairsC at ih
    rw [show p :: r = (p.1, p.2) :: r from rfl]
    congr 1
theorem row_of {r : Row} {n : Nat} (hn : r.length = n) (h1 : 1 ≤ n) (h : ∀ q ∈ r, smI q.1 ∧ smI q.2) : rowOf n (rowC r) = some r := by
  have hne : r ≠ [] := fun e => by rw [e] at hn; simp at hn; omega
  unfold rowOf
  rw [split_row hne, nums_row h]
  show (if (rowC r).take 2 = [32, 32] ∧ (r.flatMap fun p => [p.1, p.2]).length = 2 * n then some (pairsC n _) else none) = _
  rw [if_pos ⟨rfl, by rw [flat2_len, hn]⟩, ← hn, pairs_back]
theorem takes_kinds {ks : List (List Nat)} (h1 : 1 ≤ ks.length) (h : ∀ k ∈ ks, nameC k = true) : takesC ⟨[], [], []⟩ (kindsC ks) = some ⟨ks, [], []⟩ := by
  unfold takesC
  rw [if_pos rfl, split_kinds h]
  unfold takesK
  rw [if_pos ⟨rfl, by rw [List.length_cons]; omega, List.all_eq_true.mpr h⟩]
  rfl
theorem takes_beg {ks : List (List Nat)} {ps : List Pas} {l : List Int} (hk : ks ≠ []) (hl : l ≠ []) (h : ∀ i ∈ l, smI i) : takesC ⟨ks, ps, []⟩ (begC l) = some ⟨ks, ps ++ [(l, [])], []⟩ := by
  unfold takesC
  rw [if_neg hk, split_beg]
  have e : takesP ⟨ks, ps, []⟩ (wPass :: l.map intL) = some ⟨ks, ps ++ [(l, [])], []⟩ := by
    unfold takesP
    rw [List.tail_cons, nums_ints h]
    show (if _ then _ else _) = _
    rw [if_pos ⟨rfl, by
      rw [List.length_cons, List.length_map]
      have : 0 < l.length := List.length_pos_iff.mpr hl
      omega, rfl⟩]
  rw [e]
theorem add_last {ps : List Pas} {p : Pas} {r : Row} : addRow (ps ++ [p]) r = ps ++ [(p.1, p.2 ++ [r])] := by
  unfold addRow
  rw [List.getLast?_concat]
  simp
theorem takes_row {ks : List (List Nat)} {ps : List Pas} {p : Pas} {r : Row} (hk : ks ≠ []) (hn : r.length = ks.length) (h : ∀ q ∈ r, smI q.1 ∧ smI q.2) : takesC ⟨ks, ps ++ [p], []⟩ (rowC r) = some ⟨ks, ps ++ [(p.1, p.2 ++ [r])], []⟩ := by
  unfold takesC
  rw [if_neg hk]
  have h1 : 1 ≤ ks.length := List.length_pos_iff.mpr hk
  have e : takesP ⟨ks, ps ++ [p], []⟩ (splitC (rowC r) 32) = none := by
    have hh : (splitC (rowC r) 32).head? = some [] := rfl
    unfold takesP
    cases numsC (splitC (rowC r) 32).tail with
    | none => rfl
    | some bs =>
      show (if _ then _ else _) = _
      rw [if_neg fun z => by have := z.1; rw [hh] at this; cases this]
  have e2 : takesR ⟨ks, ps ++ [p], []⟩ (rowC r) = some ⟨ks, ps ++ [(p.1, p.2 ++ [r])], []⟩ := by
    unfold takesR
    rw [row_of hn h1 h]
    show (if _ then _ else _) = _
    rw [if_pos ⟨by simp, rfl⟩, add_last]
  rw [e, e2]
theorem takes_tel {ks : List (List Nat)} {ps : List Pas} {ts : List Tel} {t : Tel} (hk : ks ≠ []) (hp : ps ≠ []) (h : nameC t.1 = true ∧ smI t.2) : takesC ⟨ks, ps, ts⟩ (telC t) = some ⟨ks, ps, ts ++ [t]⟩ := by
  unfold takesC
  rw [if_neg hk, split_tel h.1]
  have e : takesP ⟨ks, ps, ts⟩ [wTell, t.1, intL t.2] = none := by
    unfold takesP
    cases numsC ([wTell, t.1, intL t.2] : List (List Nat)).tail with
    | none => rfl
    | some bs =>
      show (if _ then _ else _) = _
      rw [if_neg fun z => by have := z.1; simp [wTell, wPass] at this]
  have e2 : takesR ⟨ks, ps, ts⟩ (telC t) = none := by
    unfold takesR rowOf
    cases numsC (splitC ((telC t).drop 2) 32) with
    | none => rfl
    | some ns =>
      dsimp only
      rw [if_neg fun z => absurd z.1 (by show ¬ ([116, 101] : List Nat) = [32, 32]; decide)]
  obtain ⟨h1, h2⟩ := intL_num h.2
  have e3 : takesT ⟨ks, ps, ts⟩ [wTell, t.1, intL t.2] = some ⟨ks, ps, ts ++ [t]⟩ := by
    show (if _ then _ else _) = _
    rw [if_pos ⟨rfl, h.1, h1, hp⟩, h2]
  rw [e, e2, e3]
theorem read_rows {ks : List (List Nat)} {ps : List Pas} (hk : ks ≠ []) : ∀ {rs : List Row} {p : Pas}, (∀ r ∈ rs, r.length = ks.length ∧ ∀ q ∈ r, smI q.1 ∧ smI q.2) → readC ⟨ks, ps ++ [p], []⟩ (rs.map rowC) = some ⟨ks, ps ++ [(p.1, p.2 ++ rs)], []⟩
  | [], p, _ => by
    show some _ = some _
    rw [List.append_nil]
  | r :: rs, p, h => by
    obtain ⟨h1, h2⟩ := h r (by simp)
    show (match takesC ⟨ks, ps ++ [p], []⟩ (rowC r) with | some s' => readC s' (rs.map rowC) | none => none) = _
    rw [takes_row hk h1 h2]
    show readC ⟨ks, ps ++ [(p.1, p.2 ++ [r])], []⟩ (rs.map rowC) = _
    rw [read_rows hk (p := (p.1, p.2 ++ [r])) fun x hx => h x (by simp [hx])]
    simp
theorem read_pas {ks : List (List Nat)} {ps : List Pas} {p : Pas} (hk : ks ≠ []) (hb : p.1 ≠ []) (hs : ∀ i ∈ p.1, smI i) (h : ∀ r ∈ p.2, r.length = ks.length ∧ ∀ q ∈ r, smI q.1 ∧ smI q.2) : readC ⟨ks, ps, []⟩ (pasC p) = some ⟨ks, ps ++ [p], []⟩ := by
  show (match takesC ⟨ks, ps, []⟩ (begC p.1) with | some s' => readC s' (p.2.map rowC) | none => none) = _
  rw [takes_beg hk hb hs]
  exact read_rows hk (p := (p.1, [])) h
theorem read_tels {ks : List (List Nat)} {ps : List Pas} (hk : ks ≠ []) (hp : ps ≠ []) : ∀ {us ts : List Tel}, (∀ t ∈ us, nameC t.1 = true ∧ smI t.2) → readC ⟨ks, ps, ts⟩ (us.map telC) = some ⟨ks, ps, ts ++ us⟩
  | [], ts, _ => by
    show some _ = some _
    rw [List.append_nil]
  | t :: us, ts, h => by
    show (match takesC ⟨ks, ps, ts⟩ (telC t) with | some s' => readC s' (us.map telC) | none => none) = _
    rw [takes_tel hk hp (h t (by simp))]
    show readC ⟨ks, ps, ts ++ [t]⟩ (us.map telC) = _
    rw [read_tels hk hp fun x hx => h x (by simp [hx])]
    simp
theorem lap_ok {a b c : Nat} {p : Pas} (h : LapOk a b c p) (hb : 1 ≤ b) (hc : c ≤ 100) : p.1 ≠ [] ∧ (∀ i ∈ p.1, smI i) ∧ ∀ r ∈ p.2, r.length = a ∧ ∀ q ∈ r, smI q.1 ∧ smI q.2 := by
  have hr := h.r1
  refine ⟨fun z => by have := h.b; rw [z] at this; simp at this; omega, fun i hi => by have := h.s i hi; show _ < 1000000; omega, fun r hr2 => ⟨(h.w r hr2).1, fun q hq => by
    have := (h.w r hr2).2 q hq
    constructor <;> show _ < 1000000 <;> omega⟩⟩
theorem read_lines {g : Pg} (h : PgOk g) : readC ⟨[], [], []⟩ g.lines = some ⟨g.ks, g.ps, g.ts⟩ := by
  have hk : g.ks ≠ [] := List.length_pos_iff.mp h.k1
  have htl : ∀ t ∈ g.ts, nameC t.1 = true ∧ smI t.2 := fun t ht => ⟨(h.ts t ht).1, by have := (h.ts t ht).2; show _ < 1000000; omega⟩
  show (match takesC ⟨[], [], []⟩ (kindsC g.ks) with | some s' => readC s' (g.ps.flatMap pasC ++ g.ts.map telC) | none => none) = _
  rw [takes_kinds h.k1 h.kn]
  show readC ⟨g.ks, [], []⟩ (g.ps.flatMap pasC ++ g.ts.map telC) = _
  have hps : readC ⟨g.ks, [], []⟩ (g.ps.flatMap pasC) = some ⟨g.ks, g.ps, []⟩ ∧ g.ps ≠ [] := by
    rcases h.ps with ⟨p, e, h1, _⟩ | ⟨p, q, e, h1, h2, _⟩
    · obtain ⟨b1, b2, b3⟩ := lap_ok h1 (by omega) (by omega)
      rw [e]
      refine ⟨?_, by simp⟩
      show readC ⟨g.ks, [], []⟩ (pasC p ++ []) = _
      rw [List.append_nil]
      exact read_pas hk b1 b2 b3
    · obtain ⟨b1, b2, b3⟩ := lap_ok h1 (by omega) (by omega)
      obtain ⟨c1, c2, c3⟩ := lap_ok h2 h1.r0 (by omega)
      rw [e]
      refine ⟨?_, by simp⟩
      show readC ⟨g.ks, [], []⟩ (pasC p ++ (pasC q ++ [])) = _
      rw [List.append_nil, readC_app, read_pas hk b1 b2 b3]
      exact read_pas hk c1 c2 c3
  rw [readC_app, hps.1]
  show readC ⟨g.ks, g.ps, []⟩ (g.ts.map telC) = _
  exact read_tels hk hps.2 htl
theorem nl_free {g : Pg} (h : PgOk g) : ∀ l ∈ g.lines, 10 ∉ l := fun l hl => by
  have hs := h.size
  rcases List.mem_cons.mp hl with rfl | hl
  · refine joinL_free (by decide) fun w hw => ?_
    rcases List.mem_cons.mp hw with rfl | hw
    · decide
    · exact name_free (h.kn w hw) (by omega)
  · rcases List.mem_append.mp hl with hl | hl
    · obtain ⟨p, hp, hl⟩ := List.mem_flatMap.mp hl
      rcases List.mem_cons.mp hl with rfl | hl
      · refine joinL_free (by decide) fun w hw => ?_
        rcases List.mem_cons.mp hw with rfl | hw
        · decide
        · obtain ⟨i, _, rfl⟩ := List.mem_map.mp hw
          exact intL_free (by omega)
      · obtain ⟨r, hr, rfl⟩ := List.mem_map.mp hl
        show 10 ∉ [32, 32] ++ joinL [32] (r.map pairC)
        rw [row_join, List.mem_append, not_or]
        refine ⟨by decide, joinL_free (by decide) fun w hw => ?_⟩
        obtain ⟨p, _, hp⟩ := List.mem_flatMap.mp hw
        simp only [List.mem_cons, List.not_mem_nil, or_false] at hp
        rcases hp with rfl | rfl <;> exact intL_free (by omega)
    · obtain ⟨t, ht, rfl⟩ := List.mem_map.mp hl
      rw [tel_join]
      refine joinL_free (by decide) fun w hw => ?_
      simp only [List.mem_cons, List.not_mem_nil, or_false] at hw
      rcases hw with rfl | rfl | rfl
      · decide
      · exact name_free (h.ts t ht).1 (by omega)
      · exact intL_free (by omega)
theorem split_page {ls : List (List Nat)} (h : ∀ l ∈ ls, 10 ∉ l) : splitC (pageC ls) 10 = ls ++ [[]] := by
  rw [page_join]
  refine split_join1 (by simp) fun w hw => ?_
  rcases List.mem_append.mp hw with hw | hw
  · exact h w hw
  · obtain rfl : w = [] := by simpa using hw
    simp
theorem page_inj {g g' : Pg} (h : PgOk g) (h' : PgOk g') (e : pageC g.lines = pageC g'.lines) : g = g' := by
  have h1 := split_page (nl_free h)
  have h2 := split_page (nl_free h')
  rw [e, h2] at h1
  have e2 : g'.lines = g.lines := List.append_cancel_right h1
  have r1 := read_lines h
  have r2 := read_lines h'
  rw [e2, r1] at r2
  cases g
  cases g'
  simpa using r2
end Sd
set_option Elab.async false
set_option linter.all false
set_option maxRecDepth 100000
set_option maxHeartbeats 4000000
namespace Sd
open PySem PySem.Spec L2
open SX (S S_len S_cat S_inj)
open TL (numL joinL spl)
/-- a line, a word: of a usual size, of signs -/
def LnOk (l : List Nat) : Prop := l.length ≤ 2000 ∧ ∀ c ∈ l, c < 1114112
structure RsOk (n : Nat) (s : RS) : Prop where
  k : s.ks.length ≤ 3000 ∧ ∀ w ∈ s.ks, nameC w = true
  p : s.ps.length ≤ n ∧ ∀ p ∈ s.ps, p.1.length ≤ 3000 ∧ p.2.length ≤ n ∧ ∀ r ∈ p.2, r.length ≤ 3000
  t : s.ts.length ≤ n ∧ ∀ t ∈ s.ts, nameC t.1 = true
theorem spl_sub {c : Nat} : ∀ {l acc w : List Nat}, w ∈ spl [c] 0 acc l → ∀ x ∈ w, x ∈ acc ∨ x ∈ l
  | [], acc, w, h, x, hx => by
    rw [TL.spl_nil] at h
    rw [List.mem_singleton.mp h] at hx
    exact .inl hx
  | y :: l, acc, w, h, x, hx => by
    by_cases hy : TL.pre [c] (y :: l) = true
    · rw [TL.spl_hit hy] at h
      rcases List.mem_cons.mp h with rfl | h
      · exact .inl hx
      · rcases spl_sub (acc := []) h x hx with z | z
        · cases z
        · exact .inr (by simp [z])
    · rw [TL.spl_miss (by simpa using hy)] at h
      rcases spl_sub h x hx with z | z
      · rcases List.mem_append.mp z with z | z
        · exact .inl z
        · exact .inr (by simp at z; simp [z])
      · exact .inr (by simp [z])
theorem spl_ne {c : Nat} : ∀ {l acc : List Nat}, spl [c] 0 acc l ≠ []
  | [], acc => by rw [TL.spl_nil]; simp
  | x :: l, acc => by
    by_cases hy : TL.pre [c] (x :: l) = true
    · rw [TL.spl_hit hy]; simp
    · rw [TL.spl_miss (by simpa using hy)]
      exact spl_ne
theorem fd_lst {xs : List D} {n : Nat} (hl : xs.length ≤ 1000000) (h : ∀ x ∈ xs, Fd n x) : Fd (n + 1) (.lst xs) := by
  refine ⟨?_, ?_⟩
  · rw [okD, okL_of fun x hx => (h x hx).1, decide_eq_true hl]; rfl
  · rw [dep]
    have := depL_of fun x hx => (h x hx).2
    omega
theorem words_ok {l : List Nat} (h : LnOk l) : (splitC l 32).length ≤ 2001 ∧ splitC l 32 ≠ [] ∧ ∀ w ∈ splitC l 32, LnOk w := by
  refine ⟨by have := spl_cnt (l := l) (acc := []) (c := 32); have := h.1; unfold splitC; omega, ?_, fun w hw => ⟨?_, fun c hc => ?_⟩⟩
  · exact spl_ne
  · have := spl_len (l := l) (acc := []) hw
    have := h.1
    simp only [List.length_nil] at *
    omega
  · rcases spl_sub hw c hc with z | z
    · cases z
    · exact h.2 c z
theorem LnOk.ok {l : List Nat} (h : LnOk l) : Ok (strD l) := fd_ok (n := 0) (fd_str (by have := h.1; omega) h.2) (by omega)
theorem RsOk.okT {n : Nat} {s : RS} (h : RsOk n s) (hn : n ≤ 100000) : Ok (.lst (s.ts.map telD)) := fd_ok (n := 2) (fd_lst (by rw [List.length_map]; have := h.t.1; omega) fun x hx => by
  obtain ⟨t, ht, rfl⟩ := List.mem_map.mp hx
  exact fd_tel (h.t.2 t ht)) (by omega)
theorem RsOk.okK {n : Nat} {s : RS} (h : RsOk n s) : Ok (.tup (s.ks.map strD)) := fd_ok (n := 1) (fd_tup (by rw [List.length_map]; have := h.k.1; omega) fun x hx => by
  obtain ⟨t, ht, rfl⟩ := List.mem_map.mp hx
  exact fd_name (h.k.2 t ht)) (by omega)
theorem RsOk.okP {n : Nat} {s : RS} (h : RsOk n s) (hn : n ≤ 100000) : Ok (.lst (s.st.ps.map fun p => .tup [p.1, .lst p.2])) := fd_ok (n := 6) (fd_lst (by rw [List.length_map]; show (s.ps.map _).length ≤ _; rw [List.length_map]; have := h.p.1; omega) fun x hx => by
  obtain ⟨q, hq, rfl⟩ := List.mem_map.mp hx
  obtain ⟨p, hp, rfl⟩ := List.mem_map.mp (show q ∈ s.ps.map fun p => (intsD p.1, p.2.map rowD) from hq)
  obtain ⟨h1, h2, h3⟩ := h.p.2 p hp
  refine fd_tup (by simp) fun y hy => ?_
  simp only [List.mem_cons, List.not_mem_nil, or_false] at hy
  rcases hy with rfl | rfl
  · show Fd 4 (intsD p.1)
    exact (fd_ints (by omega)).mono (by omega)
  · show Fd 4 (.lst (p.2.map rowD))
    exact fd_lst (n := 3) (by rw [List.length_map]; omega) fun z hz => by
      obtain ⟨r, hr, rfl⟩ := List.mem_map.mp hz
      exact (fd_row (by have := h3 r hr; omega)).mono (by omega)) (by omega)
theorem rowOf_len {n : Nat} {l : List Nat} {r : Row} (h : rowOf n l = some r) : r.length = n := by
  unfold rowOf at h
  cases e : numsC (splitC (l.drop 2) 32) with
  | none => rw [e] at h; cases h
  | some ns =>
    rw [e] at h
    dsimp only at h
    split at h
    · cases h
      simp [pairsC]
    · cases h
theorem RsOk.mono {n : Nat} {s : RS} (h : RsOk n s) : RsOk (n + 1) s := ⟨h.k, ⟨by have := h.p.1; omega, fun p hp => by have := h.p.2 p hp; exact ⟨this.1, by have := this.2.1; omega, this.2.2⟩⟩, ⟨by have := h.t.1; omega, h.t.2⟩⟩
theorem takesC_ok {n : Nat} {s s' : RS} {l : List Nat} (h : RsOk n s) (hl : LnOk l) (e : takesC s l = some s') : RsOk (n + 1) s' := by
  obtain ⟨w1, w2, w3⟩ := words_ok hl
  unfold takesC at e
  split at e
  · unfold takesK at e
    split at e
    · rename_i z
      cases e
      exact ⟨⟨by show (splitC l 32).tail.length ≤ 3000; rw [List.length_tail]; omega, List.all_eq_true.mp z.2.2⟩, h.mono.p, h.mono.t⟩
    · cases e
  · cases e1 : takesP s (splitC l 32) with
    | some s2 =>
      rw [e1] at e
      cases e
      unfold takesP at e1
      cases e2 : numsC (splitC l 32).tail with
      | none => rw [e2] at e1; cases e1
      | some bs =>
        rw [e2] at e1
        dsimp only at e1
        split at e1
        · cases e1
          have hb : bs.length ≤ 3000 := by
            unfold numsC at e2
            split at e2
            · cases e2
              rw [List.length_map, List.length_tail]
              omega
            · cases e2
          refine ⟨h.k, ⟨?_, fun p hp => ?_⟩, h.mono.t⟩
          · show (s.ps ++ [(bs, [])]).length ≤ n + 1
            rw [List.length_append]
            have := h.p.1
            simp only [List.length_cons, List.length_nil]
            omega
          · rcases List.mem_append.mp (show p ∈ s.ps ++ [(bs, [])] from hp) with hp | hp
            · exact h.mono.p.2 p hp
            · obtain rfl : p = (bs, []) := by simpa using hp
              exact ⟨hb, by simp, by simp⟩
        · cases e1
    | none =>
      rw [e1] at e
      dsimp only at e
      cases e2 : takesR s l with
      | some s2 =>
        rw [e2] at e
        cases e
        unfold takesR at e2
        cases e3 : rowOf s.ks.length l with
        | none => rw [e3] at e2; cases e2
        | some r =>
          rw [e3] at e2
          dsimp only at e2
          split at e2
          · rename_i z
            cases e2
            have hr := rowOf_len e3
            have hk := h.k.1
            obtain ⟨ps, p, hps⟩ : ∃ ps p, s.ps = ps ++ [p] := ⟨_, _, (List.dropLast_concat_getLast z.1).symm⟩
            refine ⟨h.k, ?_, h.mono.t⟩
            show (addRow s.ps r).length ≤ n + 1 ∧ ∀ p ∈ addRow s.ps r, _
            rw [hps, add_last]
            have hp := h.p
            rw [hps] at hp
            refine ⟨by have := hp.1; simp at this ⊢; omega, fun q hq => ?_⟩
            rcases List.mem_append.mp hq with hq | hq
            · have := hp.2 q (by simp [hq])
              exact ⟨this.1, by have := this.2.1; omega, this.2.2⟩
            · obtain rfl : q = (p.1, p.2 ++ [r]) := by simpa using hq
              have := hp.2 p (by simp)
              refine ⟨this.1, by have := this.2.1; simp; omega, fun x hx => ?_⟩
              rcases List.mem_append.mp hx with hx | hx
              · exact this.2.2 x hx
              · obtain rfl : x = r := by simpa using hx
                omega
          · cases e2
      | none =>
        rw [e2] at e
        dsimp only at e
        unfold takesT at e
        split at e
        · split at e
          · rename_i z
            cases e
            refine ⟨h.k, h.mono.p, ⟨?_, fun t ht => ?_⟩⟩
            · show (s.ts ++ [_]).length ≤ n + 1
              have := h.t.1
              simp
              omega
            · rcases List.mem_append.mp (show t ∈ s.ts ++ [_] from ht) with ht | ht
              · exact h.t.2 t ht
              · obtain rfl : t = _ := by simpa using ht
                exact z.2.1
          · cases e
        · cases e
theorem eqv_nilL {xs : List D} : eqvD (.lst xs) (.lst []) = xs.isEmpty := by
  cases xs with
  | nil => simp [eqvD, toPy, toPyL, PyData.eqv, PyData.eqvAll]
  | cons x xs => simp [eqvD, toPy, toPyL, PyData.eqv, PyData.eqvAll]
theorem ok_nilL : Ok (.lst []) := ⟨by rw [okD, okL]; decide, by decide +kernel⟩
end Sd
set_option Elab.async false
set_option linter.all false
set_option maxRecDepth 100000
set_option maxHeartbeats 4000000
namespace Sd
open PySem PySem.Spec L2
def rdO (K : PySem.W.Frag) (C : Addr) : Addr → RS → OwnP := fun a s => readerP K C a s.st
theorem rdO_at {K : PySem.W.Frag} {C : Addr} : AtRef (rdO K C) := fun a s => readerP_at a s.st
theorem rdO_ins {K : PySem.W.Frag} {C : Addr} {m : Str} (h1 : m ≠ "r_kinds") (h2 : m ≠ "r_passes") (h3 : m ≠ "r_tells") : InsO (rdO K C) C m := fun a s => rd_ins h1 h2 h3 a s.st
theorem pk_rdO {K : PySem.W.Frag} {C a : Addr} {s : RS} : PkOk K (.o (rdO K C a s)) (.d (rdD C s.st)) := pk_rd
/-- the reader's __init__ -/
def spRd (K : PySem.W.Frag) (C : Addr) : Sp := fun vs H Q _ => ∃ a dx, vs = [.ref a] ∧ H a = some (.ins C dx []) ∧ ∀ H' lp lt t, (∀ b u, b ≠ a → H b = some u → H' b = some u) → H lp = none → H lt = none → H t = none → lp ≠ lt → lp ≠ t → lt ≠ t →
  H' a = some (.ins C dx (rdF (.ref t) lp lt)) → H' t = some (.tup []) → H' lp = some (.lst []) → H' lt = some (.lst []) → Q .non H'
theorem spRd_body {K : PySem.W.Frag} {C : Addr} {N : List Str} {vs : List V} {H : Hp} {Q : VK} {E : XK} (hN : 1 ≤ N.length) (c : Cls K C) (n1 : NoAttr K C "r_kinds") (n2 : NoAttr K C "r_passes") (n3 : NoAttr K C "r_tells") (h : spRd K C vs H Q E) :
    (tSeq (sFld K (tVar 0) (tTup tNil) "r_kinds") (tSeq (sFld K (tVar 0) (tLst tNil) "r_passes") (sFld K (tVar 0) (tLst tNil) "r_tells"))) { nx := fun _ H' => Q .non H', rt := Q } (start N vs) H := by
  obtain ⟨a, dx, rfl, ha, q⟩ := h
  have h0 : (start N [V.ref a])[0]? = some (some (.ref a)) := start_at rfl
  have e1 : ∀ t, putF "r_kinds" (V.ref t) [] = [(("r_kinds" : Str), V.ref t)] := fun t => rfl
  have e2 : ∀ t lp, putF "r_passes" (V.ref lp) [(("r_kinds" : Str), V.ref t)] = [(("r_kinds" : Str), V.ref t), ("r_passes", .ref lp)] := fun t lp => by
    show (if ("r_kinds" : Str) = "r_passes" then _ else _ :: _) = _
    rw [if_neg (by decide +kernel)]
    rfl
  have e3 : ∀ t lp lt, putF "r_tells" (V.ref lt) [(("r_kinds" : Str), V.ref t), ("r_passes", .ref lp)] = rdF (.ref t) lp lt := fun t lp lt => by
    show (if ("r_kinds" : Str) = "r_tells" then _ else _ :: (if ("r_passes" : Str) = "r_tells" then _ else _ :: _)) = _
    rw [if_neg (by decide +kernel), if_neg (by decide +kernel)]
    rfl
  refine ⟨line_ok (by simp), fun t ht => ⟨_, h0, a, C, dx, [], rfl, ?_, c, n1, by decide, ?_⟩⟩
  · rw [upd_ne fun z => by rw [← z, ha] at ht; cases ht]; exact ha
  have nat : a ≠ t := fun z => by rw [← z, ha] at ht; cases ht
  rw [e1]
  refine ⟨line_ok (by simp), fun lp hlp => ⟨_, h0, a, C, dx, [(("r_kinds" : Str), V.ref t)], rfl, ?_, c, n2, by show 1 < 1000; omega, ?_⟩⟩
  · have : a ≠ lp := fun z => by rw [← z, upd_same] at hlp; cases hlp
    rw [upd_ne this, upd_same]
  have nalp : a ≠ lp := fun z => by rw [← z, upd_same] at hlp; cases hlp
  have ntlp : t ≠ lp := fun z => by rw [← z, upd_ne (Ne.symm nat), upd_same] at hlp; cases hlp
  rw [e2]
  have hlp0 : H lp = none := by rwa [upd_ne (Ne.symm nalp), upd_ne (Ne.symm ntlp)] at hlp
  refine ⟨line_ok (by simp), fun lt hlt => ⟨_, h0, a, C, dx, [(("r_kinds" : Str), V.ref t), ("r_passes", .ref lp)], rfl, ?_, c, n3, by show 2 < 1000; omega, ?_⟩⟩
  · have : a ≠ lt := fun z => by rw [← z, upd_same] at hlt; cases hlt
    rw [upd_ne this, upd_same]
  have nalt : a ≠ lt := fun z => by rw [← z, upd_same] at hlt; cases hlt
  have nlplt : lp ≠ lt := fun z => by rw [← z, upd_ne (Ne.symm nalp), upd_same] at hlt; cases hlt
  have ntlt : t ≠ lt := fun z => by rw [← z, upd_ne (Ne.symm nat), upd_ne ntlp, upd_ne (Ne.symm nat), upd_same] at hlt; cases hlt
  rw [e3]
  have hlt0 : H lt = none := by rwa [upd_ne (Ne.symm nalt), upd_ne (Ne.symm nlplt), upd_ne (Ne.symm nalt), upd_ne (Ne.symm ntlt)] at hlt
  refine q _ lp lt t (fun b u hb e => ?_) hlp0 hlt0 ht nlplt (Ne.symm ntlp) (Ne.symm ntlt) upd_same ?_ ?_ ?_
  · rw [upd_ne hb, upd_ne (fun z => by rw [z, hlt0] at e; cases e), upd_ne hb, upd_ne (fun z => by rw [z, hlp0] at e; cases e), upd_ne hb, upd_ne (fun z => by rw [z, ht] at e; cases e)]
    exact e
  · rw [upd_ne (Ne.symm nat), upd_ne ntlt, upd_ne (Ne.symm nat), upd_ne ntlp, upd_ne (Ne.symm nat), upd_same]
  · rw [upd_ne (Ne.symm nalp), upd_ne nlplt, upd_ne (Ne.symm nalp), upd_same]
  · rw [upd_ne (Ne.symm nalt), upd_same]
section
variable {w : Wd} {G : List Ent} {N : List Ent → Prop} {R : List Ent → D → Prop} {ta : TE} {i j : Nat} {C : Addr} {E : XK}
/-- a, b = e, Reader() -/
theorem wps_parRd (hj : j < G.length) (h : wp w ta G fun d => ∀ x, N ((G.set i (.d d)).set j (.o (rdO w.K C x ⟨[], [], []⟩)))) : wps w (tPar i j (tCons ta (tCons (tMake C (spRd w.K C) [] E tNil) tNil))) G N R := fun σ F H En A n r =>
  h σ F H A _ fun v d F1 H1 s1 A1 rp q => by
    intro x dx hx hd hne
    have nx : upd H1 dx (.own x) x = none := by rw [upd_ne (Ne.symm hne)]; exact hx
    have s2 : Same H1 (upd (upd H1 dx (.own x)) x (.ins C dx [])) := (same_new hd).trans (same_new nx)
    refine ⟨x, dx, rfl, upd_same, fun H' lp lt t k hlp hlt ht n1 n2 n3 ha h1 h2 h3 => ⟨rfl, v, .ref x, rfl, ?_⟩⟩
    have back : ∀ b, upd (upd H1 dx (.own x)) x (.ins C dx []) b = none → H1 b = none := fun b hb => by
      cases e : H1 b with
      | none => rfl
      | some u => rw [s2 b u e] at hb; cases hb
    have ne : ∀ b, upd (upd H1 dx (.own x)) x (.ins C dx []) b = none → b ≠ x := fun b hb z => by rw [z, upd_same] at hb; cases hb
    have s3 : Same H1 H' := fun b u e => k b u (fun z => by rw [z, hx] at e; cases e) (s2 b u e)
    let qs : List Addr := [x, lp, lt]
    have hq : ∀ b, b ∈ qs → H1 b = none ∧ H' b ≠ none := fun b hb => by
      simp only [qs, List.mem_cons, List.not_mem_nil, or_false] at hb
      rcases hb with rfl | rfl | rfl
      · exact ⟨hx, by rw [ha]; exact fun z => nomatch z⟩
      · exact ⟨back _ hlp, by rw [h2]; exact fun z => nomatch z⟩
      · exact ⟨back _ hlt, by rw [h3]; exact fun z => nomatch z⟩
    have A2 := A1.putD i rp
    have ft : extBut F1 H1 H' qs t = some (.tup []) := by
      unfold extBut
      rw [if_neg (by simp only [qs, List.mem_cons, List.not_mem_nil, or_false]; rintro (z | z | z); exact ne t ht z; exact n2 z.symm; exact n3 z.symm), ext_none (back t ht)]
      exact h1
    obtain ⟨A3, s4⟩ := A2.putNew (i := j) (by rw [List.length_set]; exact hj) (rdO w.K C x ⟨[], [], []⟩) s3 hq
      ⟨rfl, dx, lp, lt, .ref t, [], [], rfl, by
        simp only [qs, List.nodup_cons, List.mem_cons, List.not_mem_nil, or_false, not_or, not_false_eq_true, List.nodup_nil, and_true]
        exact ⟨⟨fun z => ne lp hlp z.symm, fun z => ne lt hlt z.symm⟩, n1⟩, ha, .tup ft .nil, h2, h3, .nil, trivial⟩
    exact n _ _ _ _ (s1.trans s4) A3 (q x)
end
/-- what a takes says of the state -/
def outc (o : Option RS) (s : RS) (d : D) (s' : RS) : Prop := match o with
  | some s2 => d = .bl true ∧ s' = s2
  | none => d = .bl false ∧ s' = s
def wordsP (x : D) : Prop := ∃ ws : List (List Nat), x = .lst (ws.map strD) ∧ ws ≠ [] ∧ ws.length ≤ 2001 ∧ ∀ w ∈ ws, LnOk w
theorem st_ps {ks : List (List Nat)} {ps : List Pas} {ts : List Tel} : ((RS.st ⟨ks, ps, ts⟩).ps.map fun p => D.tup [p.1, .lst p.2]) = ps.map fun p => .tup [intsD p.1, .lst (p.2.map rowD)] := by
  show List.map _ (List.map _ _) = _
  rw [List.map_map]
  rfl
end Sd
set_option Elab.async false
set_option linter.all false
set_option maxRecDepth 100000
set_option maxHeartbeats 4000000
namespace Sd
open PySem PySem.Spec L2
open SX (S S_len S_cat S_inj)
open TL (numL joinL spl)
theorem joinL_mem {s c : Nat} : ∀ {ws : List (List Nat)}, c ∈ joinL [s] ws → c = s ∨ ∃ w ∈ ws, c ∈ w
  | [], h => by rw [joinL] at h; cases h
  | [w], h => .inr ⟨w, by simp, h⟩
  | w :: v :: r, h => by
    have h' : c ∈ w ++ ([s] ++ joinL [s] (v :: r)) := h
    simp only [List.mem_append, List.mem_singleton] at h'
    rcases h' with h | h | h
    · exact .inr ⟨w, by simp, h⟩
    · exact .inl h
    · rcases joinL_mem h with h | ⟨x, hx, h⟩
      · exact .inl h
      · exact .inr ⟨x, by simp [hx], h⟩
theorem intL_sign {i : Int} {c : Nat} (h : c ∈ intL i) : c < 1114112 := by
  by_cases z : c < 45 ∨ 57 < c
  · exact absurd h (intL_free z)
  · omega
theorem lits_sign {l : List Nat} (h : l.all (fun c => decide (c < 1114112)) = true) : ∀ c ∈ l, c < 1114112 := fun c hc => of_decide_eq_true (List.all_eq_true.mp h c hc)
theorem name_sign {l : List Nat} (h : nameC l = true) : ∀ c ∈ l, c < 1114112 := fun c hc => by have := (nameC_iff.mp h).2 c hc; omega
theorem join_sign {ws : List (List Nat)} (h : ∀ w ∈ ws, ∀ c ∈ w, c < 1114112) : ∀ c ∈ joinL [32] ws, c < 1114112 := fun c hc => by
  rcases joinL_mem hc with rfl | ⟨w, hw, hc⟩
  · omega
  · exact h w hw c hc
theorem lines_ok {g : Pg} (h : PgOk g) : ∀ l ∈ g.lines, LnOk l := fun l hl => by
  have hlen := (lines_len h.size).2 l hl
  refine ⟨by omega, ?_⟩
  rcases List.mem_cons.mp hl with rfl | hl
  · refine join_sign fun w hw => ?_
    rcases List.mem_cons.mp hw with rfl | hw
    · exact lits_sign (by decide)
    · exact name_sign (h.kn w hw)
  · rcases List.mem_append.mp hl with hl | hl
    · obtain ⟨p, hp, hl⟩ := List.mem_flatMap.mp hl
      rcases List.mem_cons.mp hl with rfl | hl
      · refine join_sign fun w hw => ?_
        rcases List.mem_cons.mp hw with rfl | hw
        · exact lits_sign (by decide)
        · obtain ⟨i, _, rfl⟩ := List.mem_map.mp hw
          exact fun c hc => intL_sign hc
      · obtain ⟨r, hr, rfl⟩ := List.mem_map.mp hl
        intro c hc
        have hc' : c ∈ [32, 32] ++ joinL [32] (r.map pairC) := hc
        rw [row_join] at hc'
        rcases List.mem_append.mp hc' with hc | hc
        · exact lits_sign (l := [32, 32]) (by decide) c hc
        · refine join_sign (fun w hw => ?_) c hc
          obtain ⟨p, _, hp⟩ := List.mem_flatMap.mp hw
          simp only [List.mem_cons, List.not_mem_nil, or_false] at hp
          rcases hp with rfl | rfl <;> exact fun c hc => intL_sign hc
    · obtain ⟨t, ht, rfl⟩ := List.mem_map.mp hl
      rw [tel_join]
      refine join_sign fun w hw => ?_
      simp only [List.mem_cons, List.not_mem_nil, or_false] at hw
      rcases hw with rfl | rfl | rfl
      · exact lits_sign (by decide)
      · exact name_sign (h.ts t ht).1
      · exact fun c hc => intL_sign hc
/-- up to a line -/
theorem readC_at {f : RS} : ∀ {ls : List (List Nat)} {s : RS} {i : Nat} {l : List Nat}, readC s ls = some f → ls[i]? = some l → ∃ s1 s2, readC s (ls.take i) = some s1 ∧ takesC s1 l = some s2 ∧ readC s (ls.take (i + 1)) = some s2
  | [], s, i, l, _, h => by simp at h
  | l :: ls, s, 0, _, h, rfl => by
    cases e : takesC s l with
    | none =>
      have h' : (match takesC s l with | some s' => readC s' ls | none => none) = some f := h
      rw [e] at h'
      cases h'
    | some s' =>
      refine ⟨s, s', rfl, e, ?_⟩
      show (match takesC s l with | some s' => readC s' (ls.take 0) | none => none) = some s'
      rw [e]
      rfl
  | x :: ls, s, i + 1, l, h, hl => by
    cases e : takesC s x with
    | none =>
      have h' : (match takesC s x with | some s' => readC s' ls | none => none) = some f := h
      rw [e] at h'
      cases h'
    | some s' =>
      have h' : (match takesC s x with | some s' => readC s' ls | none => none) = some f := h
      rw [e] at h'
      obtain ⟨s1, s2, h1, h2, h3⟩ := readC_at h' (show ls[i]? = some l from hl)
      refine ⟨s1, s2, ?_, h2, ?_⟩
      · show (match takesC s x with | some s' => readC s' (ls.take i) | none => none) = some s1
        rw [e]; exact h1
      · show (match takesC s x with | some s' => readC s' (ls.take (i + 1)) | none => none) = some s2
        rw [e]; exact h3
theorem cutm1 (xs : List D) (x : D) : cutD (xs ++ [x]) none (some (-1)) = xs := by
  unfold cutD
  have e1 : HT.sIx (xs ++ [x]).length 0 none = 0 := rfl
  have e2 : HT.sIx (xs ++ [x]).length (xs ++ [x]).length (some (-1)) = xs.length := by
    show (if (-1 : Int) < 0 then ((-1 : Int) + ((xs ++ [x]).length : Int)).toNat else min (-1 : Int).toNat (xs ++ [x]).length) = xs.length
    rw [if_pos (by decide), List.length_append, List.length_singleton]
    omega
  rw [e1, e2, List.drop_zero, Nat.sub_zero, List.take_left]
theorem rs0_ok : RsOk 0 ⟨[], [], []⟩ := ⟨⟨by simp, by simp⟩, ⟨by simp, by simp⟩, ⟨by simp, by simp⟩⟩
end Sd
set_option Elab.async false
set_option linter.all false
set_option maxRecDepth 100000
set_option maxHeartbeats 4000000
/-! Sd14: repr where no repr is under way; the law's def, run where no repr is under way. -/
namespace Sd
open PySem PySem.Spec L2
open PyProof.Rows
section
variable {X : Cx}
/-- repr(x) of nested lists, tuples, texts, numbers -/
theorem call_reprD (hg : X.A.guards = some []) (hu : X.A.units + 66 < cLine) : CallR X (.builtin "repr") (fun xs H Q => ∃ a d, xs = [.ref a] ∧ Dp X.K H (.ref a) d ∧ d.showable = true ∧ d.hasDict = false ∧ d.depth ≤ 64 ∧ d.shown.length ≤ sizeLine ∧ Q (.str d.shown) H) := fun pins s σ H xs us Q I r h => by
  obtain ⟨a, d, rfl, hd, h1, h2, h3, h4, q⟩ := h
  cases r with
  | cons rv rr =>
    cases rr
    cases rv
    obtain ⟨as, rd⟩ := Dp.reads I d _ _ hd rfl
    exact repr_of_reads' rd h1 (PyData.noDict_hsm h2) hg (by omega) (fun _ _ e => e) (fun h' u tk hk => ⟨.str d.shown, H, I.kept hk, ⟨u, rfl⟩, q⟩) h4
end
section
variable {K : PySem.W.Frag} {Q : D → Prop}
theorem rc_repr {x : D} (hx : ∃ xs, x = .lst xs ∨ x = .tup xs) (h0 : pl x = true) (h1 : (toPy x).showable = true) (h2 : (toPy x).hasDict = false) (h3 : (toPy x).depth ≤ 64) (h4 : (toPy x).shown.length ≤ sizeLine) (q : Q (.str (toPy x).shown)) :
    RCD K (fun xs H Q => ∃ a d, xs = [.ref a] ∧ Dp K H (.ref a) d ∧ d.showable = true ∧ d.hasDict = false ∧ d.depth ≤ 64 ∧ d.shown.length ≤ sizeLine ∧ Q (.str d.shown) H) [x] Q := fun F H vs s r1 k z => by
  cases r1 with
  | cons r rr =>
    cases rr
    have hdp := rp_dp _ (r.mono s) h0
    obtain ⟨xs, rfl | rfl⟩ := hx <;> cases r <;> exact ⟨_, _, rfl, hdp, h1, h2, h3, h4, z _ _ H (Same.refl _) (.str _) q⟩
end
/-! ### the law's def -/
structure LawRun (P : Program) (w : World) (K : PySem.W.Frag) (mg : Str → Option Value) (base : Heap) (k : Nat) (f : Addr) (fd : FuncData) (ps : List Str) (sp : Sp) : Prop where
  run : ∀ (A : Around) (outer : List Env) (s : Shared) (H : Hp) (args : Args) (us : List Value) (vs : List V) (Q : VK) (E : XK), A.guards = some [] → Room k A → Env0 P w K mg base A outer s H → BindsTo s fd args (ps.zip us) → Vals vs us → sp vs H Q E → codeAny (model P w) A (.call (.ref f) args) (CR CX0 outer P w H s Q E) s
theorem law_fn {P : Program} {w : World} {K : PySem.W.Frag} {mg : Str → Option Value} {base : Heap} {k : Nat} {x qual : Str} {st : Stmt} {f : Addr} {fd : FuncData} {N ps : List Str} {sp : Sp} (F : Fun K x qual st f fd) (S : FnScope N ps (defScope st)) (len : ∀ vs H Q E, sp vs H Q E → vs.length = ps.length)
    (hbody : ∀ (cdv : Value) (A : Around) (outer : List Env) (s : Shared) (H : Hp) (vs : List V) (Q : VK) (E : XK), (A.deeper (envOfC qual (defScope st) s.heap.objs.size f cdv)).guards = some [] → Room k (A.deeper (envOfC qual (defScope st) s.heap.objs.size f cdv)) → sp vs H Q E →
      ∃ t, PSs (cxOf CX0 P w K mg base N qual (defScope st) f cdv A outer s H E).nox (defBody st) t ∧ t { nx := fun _ H' => Q .non H', rt := Q } (start N vs) H) : LawRun P w K mg base (k + 1) f fd ps sp := by
  obtain ⟨oc, od, kV, doc, pm, an, cdv, ct, osl, rfl, lk, hcd⟩ := F.ex
  refine ⟨fun A outer s H args us vs Q E hgd hr e0 hb r hsp => ?_⟩
  have hl := len _ _ _ _ hsp
  have keep : ∀ b o, base.get? b = some o → s.heap.get? b = some o := fun b o e => (e0.bs b o e).1
  have KX := e0.mod.kin.keeps keep
  refine codeAny_call_function hr.depth (KX _ _ lk) rfl S.co S.gen rfl (PySem.W.codeRec_of KX hcd) (hb _ _ _ _ (wpAny_newFunctionEnv_cells S.kind (fun y hy => ?_) fun env he s1 x => ?_))
  · obtain ⟨n, v⟩ := y
    exact (S.par n (List.of_mem_zip hy).1).elim .inl fun q => .inr ⟨q, PySem.W.cellsFrom_some _ _ _ (.inl q)⟩
  subst he
  refine ⟨(e0.mod.nolimit.keeps keep).keeps x.toInCall.keep, codeAny_func ?_⟩
  obtain ⟨t, ht, hq⟩ := hbody cdv A outer s H vs Q E hgd (hr.deeper _) hsp
  have I : Inv (cxOf CX0 P w K mg base N qual (defScope st) f cdv A outer s H E) [] (start N vs) H s1 := inv_start S hr.hd e0 hl r x
  have fin : ∀ {σ' : L2.St} {H' : Hp} {v : V} {u : Value} {s' : Shared}, Inv (cxOf CX0 P w K mg base N qual (defScope st) f cdv A outer s H E) [] σ' H' s' → RelV v u → Q v H' → CE outer P w H s Q u s' := fun J rv q => ⟨_, _, J.os, J.bare, J.base, J.hok, rv, q⟩
  refine wpAny_mono (ht.nox.run [] s1 (start N vs) H _ I hq) (fun fl s' hs => ?_) fun e s' hs => hs
  cases fl with
  | ret u =>
    obtain ⟨v, σ', H', J, rv, q⟩ := hs
    exact fin J rv q
  | next =>
    obtain ⟨σ', H', J, q⟩ := hs
    exact fin (v := V.non) (u := Value.none) J rfl q
  | _ => obtain ⟨_, _, _, q⟩ := hs; exact False.elim q
/-- the law's promise at the heap behind the top, no repr under way -/
theorem law_callR {P : Program} {w : World} {K : PySem.W.Frag} {mg mb : Str → Option Value} {k : Nat} {fa a : Addr} {fd : FuncData} {x : Str} {sp : Sp} {s1 : Shared} {vs : List Value} {ns : List Int} (KX : K.In s1.heap) (hns : s1.heap.Ns mainGlobals mg) (hb : s1.heap.Ns builtinsNs mb)
    (hbb : ∀ y : Str, y ≠ "__name__" → mb y = bootBuiltins y) (hlim : s1.heap.NoLimit) (hg : s1.gens = #[]) (ha : s1.heap.get? a = some { cls := .type "list", data := .seq vs.toArray }) (hi : IntsAre vs ns) (hl : ns.length ≤ sizeLine) (hr : Room k callerA)
    (F : ∀ base : Heap, K.In base → base.Ns mainGlobals mg → LawRun P w K mg base k fa fd [x] sp) (hbind : ∀ (s : Shared) (u : Value), BindsTo s fd ⟨[u], []⟩ [(x, u)]) (hsp : ∀ H : Hp, Only H → SqL K H a (ns.map V.int) → sp [.ref a] H (fun v _ => v = .bl true) fun _ _ _ => False) :
    codeAny (model P w) callerA (.call (.ref fa) ⟨[.ref a], []⟩) (fun r s' => r = .ok (.ret (.bool true)) ∧ OldK s1.heap s'.heap ∧ s'.os = s1.os ∧ AllBare s'.gens) s1 := by
  have core : ∀ H : Hp, Only H → SqL K H a (ns.map V.int) → HOk P w H s1.heap → (∀ b, H b ≠ none → b = a) → (H a ≠ none → K.lookup a = none) → codeAny (model P w) callerA (.call (.ref fa) ⟨[.ref a], []⟩) (fun r s' => r = .ok (.ret (.bool true)) ∧ OldK s1.heap s'.heap ∧ s'.os = s1.os ∧ AllBare s'.gens) s1 := fun H hO hS hok hA hK => by
    have dat : ∀ {b : Addr} {o : Obj} {es : Array DictEntry} {ep : Nat}, s1.heap.get? b = some o → o.data = .dict es ep → H b = none := fun {b o es ep} e d => by
      cases q : H b with
      | none => rfl
      | some u =>
        obtain rfl := hA b (by rw [q]; exact fun z => nomatch z)
        rw [ha] at e
        cases e
        cases d
    have nsK : ∀ {b : Addr} {m : Str → Option Value}, s1.heap.Ns b m → (hidT s1.heap H).Ns b m := fun ⟨o, es, ep, e, d, r⟩ => ⟨o, es, ep, hidT_get e (dat e d), d, r⟩
    have hKb : K.In (hidT s1.heap H) := fun b o e => hidT_get (KX b o e) (by
      cases q : H b with
      | none => rfl
      | some u =>
        obtain rfl := hA b (by rw [q]; exact fun z => nomatch z)
        rw [hK (by rw [q]; exact fun z => nomatch z)] at e
        cases e)
    have hM : Mod K mg (hidT s1.heap H) := ⟨hKb, nsK hns, ⟨mb, nsK hb, hbb⟩, let ⟨mc, h1, h2⟩ := hlim; ⟨mc, nsK h1, h2⟩⟩
    have e0 : Env0 P w K mg (hidT s1.heap H) callerA [] s1 H := ⟨rfl, hM, fun b o e => of_hidT e, Nat.le_of_eq (hidT_size _ _), trivial, (fun b hb => nomatch hb), hok, .of_eq hg⟩
    refine codeAny_mono ((F _ hKb (nsK hns)).run callerA [] s1 H ⟨[.ref a], []⟩ [.ref a] [.ref a] _ _ rfl hr e0 (hbind s1 (.ref a)) (.cons rfl .nil) (hsp H hO hS)) fun r s' h => ?_
    rcases r with er | fl
    · exact (show False from h).elim
    · cases fl with
      | ret u =>
        obtain ⟨v, H', os, bare, un, hok', r', q⟩ := h
        have q' : v = .bl true := q
        subst q'
        obtain rfl : u = Value.bool true := r'
        refine ⟨rfl, OldK.of_keep fun b o e => ?_, os, bare⟩
        cases q : H b with
        | none => exact un.keep b o e q (fun z => nomatch z) (fun z => nomatch z)
        | some u =>
          rcases hO b with z | ⟨ob, xs, z⟩
          · rw [q] at z; cases z
          · obtain ⟨e1, _⟩ := hok b _ z
            obtain ⟨e2, _⟩ := hok' b _ (un.frzs b ob _ z)
            rw [e] at e1
            cases e1
            exact e2
      | next => exact False.elim h
      | brk => exact False.elim h
      | cont => exact False.elim h
  have rv := vals_ints hi
  cases hk : K.lookup a with
  | some o =>
    have e := KX a o hk
    rw [ha] at e
    cases e
    exact core (fun _ => none) (fun _ => .inl rfl) (.inr ⟨_, vs.toArray, _, hk, rfl, rfl, rfl, by rw [List.size_toArray, hi.length]; exact hl, by simpa using rv⟩) (fun b u z => nomatch z) (fun b z => absurd rfl z) fun z => absurd rfl z
  | none =>
    let o : Obj := { cls := .type "list", data := .seq vs.toArray }
    let H : Hp := fun b => if b = a then some (.frz o (.lst (ns.map V.int))) else none
    have Ha : H a = some (.frz o (.lst (ns.map V.int))) := if_pos rfl
    have Hb : ∀ b, b ≠ a → H b = none := fun b hb => if_neg hb
    refine core H (fun b => ?_) (.inl (.inr ⟨o, Ha⟩)) (fun b u z => ?_) (fun b z => ?_) fun _ => hk
    · by_cases hb : b = a
      · exact .inr ⟨_, _, by rw [hb]; exact Ha⟩
      · exact .inl (Hb b hb)
    · by_cases hb : b = a
      · subst hb
        rw [Ha] at z
        cases z
        exact ⟨ha, by rw [List.length_map]; exact hl, vs, _, rv, ha⟩
      · rw [Hb b hb] at z
        cases z
    · by_cases hb : b = a
      · exact hb
      · exact absurd (Hb b hb) z
theorem walk_ofR {l : PySem.W.OpenLaw} {n k : Nat} {q : Program} {loose : List Str} {XP : (Str → Option Value) → Heap → Prop} {YP : World → Heap → Prop} {d : DefRec} {K : Params → PySem.W.Frag} {sp : PySem.W.Frag → Sp} {x : Str} (hn : l.most = some n) (hn2 : n ≤ sizeLine) (hdf : d.params.defaults = []) (hr : Room k callerA)
    (hY : ∀ (w : World) (h : Heap), YP w h → (K w.params).In h) (F : ∀ (w : World) (mg : Str → Option Value) (fa : Addr) (h : Heap), (K w.params).In h → h.Ns mainGlobals mg → mg d.name = some (.ref fa) →
      ∃ fd : FuncData, (∀ (s : Shared) (u : Value), BindsTo s fd ⟨[u], []⟩ [(x, u)]) ∧ ∀ base : Heap, (K w.params).In base → base.Ns mainGlobals mg → LawRun l.prog w (K w.params) mg base k fa fd [x] (sp (K w.params)))
    (hsp : ∀ (K : PySem.W.Frag) (H : Hp) (a : Addr) (ns : List Int), ns.length ≤ n → Only H → SqL K H a (ns.map V.int) → sp K [.ref a] H (fun v _ => v = .bl true) fun _ _ _ => False) : PySem.W.WalkO q loose XP YP l.row.toRowW d [] (fun f vs => PySem.call f vs) :=
  Att.attach_call hn hdf fun w s0 s1 mg mb fa o pm cd doc a vs ns G Y ho hd hcd hmg hobj hints hlen hg => by
    have KX := hY w _ Y
    obtain ⟨fd, hb, hF⟩ := F w mg fa _ KX G.T.g hmg
    exact law_callR KX G.T.g G.T.b G.T.builtins G.T.nolimit hg hobj hints (Nat.le_trans hlen hn2) hr hF hb fun H hO hS => hsp _ H a ns hlen hO hS
end Sd
set_option Elab.async false
set_option linter.all false
set_option maxRecDepth 100000
set_option maxHeartbeats 4000000
/-! M13: equality of data without truth values; what repr shows is short. -/
namespace Sd
open PySem PySem.Spec L2
open SX (S S_len S_cat S_inj)
open TL (numL joinL spl)
mutual
def nbl : D → Bool
  | .bl _ => false
  | .obj .. => false
  | .tup xs => nblL xs
  | .lst xs => nblL xs
  | _ => true
def nblL : List D → Bool
  | [] => true
  | x :: xs => nbl x && nblL xs
end
mutual
theorem eqv_iff : ∀ {d e : D}, nbl d = true → nbl e = true → (eqvD d e = true ↔ d = e)
  | .non, e, _, he => by cases e <;> simp_all [eqvD, toPy, PyData.eqv, nbl]
  | .bl _, _, h, _ => by simp [nbl] at h
  | .obj .., _, h, _ => by simp [nbl] at h
  | .int i, e, _, he => by cases e <;> simp_all [eqvD, toPy, PyData.eqv, nbl]
  | .str s, e, _, he => by cases e <;> simp_all [eqvD, toPy, PyData.eqv, nbl]
  | .tup xs, .tup ys, hd, he => by
    have h1 : nblL xs = true := by simpa [nbl] using hd
    have h2 : nblL ys = true := by simpa [nbl] using he
    have ih := eqvL_iff h1 h2
    simp only [eqvD, toPy, PyData.eqv, D.tup.injEq]
    exact ih
  | .lst xs, .lst ys, hd, he => by
    have h1 : nblL xs = true := by simpa [nbl] using hd
    have h2 : nblL ys = true := by simpa [nbl] using he
    have ih := eqvL_iff h1 h2
    simp only [eqvD, toPy, PyData.eqv, D.lst.injEq]
    exact ih
  | .tup xs, .non, _, _ => by simp [eqvD, toPy, PyData.eqv]
  | .tup xs, .int _, _, _ => by simp [eqvD, toPy, PyData.eqv]
  | .tup xs, .str _, _, _ => by simp [eqvD, toPy, PyData.eqv]
  | .tup xs, .lst _, _, _ => by simp [eqvD, toPy, PyData.eqv]
  | .tup xs, .bl _, _, h => by simp [nbl] at h
  | .tup xs, .obj .., _, h => by simp [nbl] at h
  | .lst xs, .non, _, _ => by simp [eqvD, toPy, PyData.eqv]
  | .lst xs, .int _, _, _ => by simp [eqvD, toPy, PyData.eqv]
  | .lst xs, .str _, _, _ => by simp [eqvD, toPy, PyData.eqv]
  | .lst xs, .tup _, _, _ => by simp [eqvD, toPy, PyData.eqv]
  | .lst xs, .bl _, _, h => by simp [nbl] at h
  | .lst xs, .obj .., _, h => by simp [nbl] at h
theorem eqvL_iff : ∀ {d e : List D}, nblL d = true → nblL e = true → (PyData.eqvAll (toPyL d) (toPyL e) = true ↔ d = e)
  | [], [], _, _ => by simp [toPyL, PyData.eqvAll]
  | [], _ :: _, _, _ => by simp [toPyL, PyData.eqvAll]
  | _ :: _, [], _, _ => by simp [toPyL, PyData.eqvAll]
  | x :: xs, y :: ys, hd, he => by
    have h1 : nbl x = true ∧ nblL xs = true := by simpa [nblL] using hd
    have h2 : nbl y = true ∧ nblL ys = true := by simpa [nblL] using he
    have a := eqv_iff h1.1 h2.1
    have b := eqvL_iff h1.2 h2.2
    simp only [toPyL, PyData.eqvAll, Bool.and_eq_true, List.cons.injEq]
    exact and_congr a b
end
theorem eqv_dec {d e : D} (h1 : nbl d = true) (h2 : nbl e = true) {p : Prop} [Decidable p] (hp : d = e ↔ p) : eqvD d e = decide p := by
  have h := (eqv_iff h1 h2).trans hp
  cases z : eqvD d e with
  | true => exact (decide_eq_true (h.mp z)).symm
  | false => exact (decide_eq_false fun y => by rw [h.mpr y] at z; cases z).symm
theorem nblL_of : ∀ {xs : List D}, (∀ x ∈ xs, nbl x = true) → nblL xs = true
  | [], _ => by simp [nblL]
  | x :: xs, h => by
    rw [nblL, h x (by simp), nblL_of fun y hy => h y (by simp [hy])]
    rfl
theorem nbl_tup {xs : List D} (h : ∀ x ∈ xs, nbl x = true) : nbl (.tup xs) = true := by rw [nbl]; exact nblL_of h
theorem nbl_map {α : Type} {f : α → D} {l : List α} (h : ∀ a, nbl (f a) = true) : nbl (.tup (l.map f)) = true := nbl_tup fun x hx => by
  obtain ⟨a, _, rfl⟩ := List.mem_map.mp hx
  exact h a
theorem nbl_int (i : Int) : nbl (.int i) = true := by simp [nbl]
theorem nbl_str (l : List Nat) : nbl (strD l) = true := by simp [nbl]
theorem nbl_pair (p : Int × Int) : nbl (pairD p) = true := nbl_tup fun x hx => by
  simp only [List.mem_cons, List.not_mem_nil, or_false] at hx
  rcases hx with rfl | rfl <;> exact nbl_int _
theorem nbl_pas (p : Pas) : nbl (pasD p) = true := nbl_tup fun x hx => by
  simp only [List.mem_cons, List.not_mem_nil, or_false] at hx
  rcases hx with rfl | rfl
  · exact nbl_map nbl_int
  · exact nbl_map fun r => nbl_map nbl_pair
theorem nbl_tel (t : Tel) : nbl (telD t) = true := nbl_tup fun x hx => by
  simp only [List.mem_cons, List.not_mem_nil, or_false] at hx
  rcases hx with rfl | rfl
  · exact nbl_str _
  · exact nbl_int _
theorem nbl_pg (g : Pg) : nbl g.D = true ∧ nbl g.pD = true := by
  have h2 : nbl g.pD = true := nbl_map nbl_pas
  refine ⟨nbl_tup fun x hx => ?_, h2⟩
  simp only [List.mem_cons, List.not_mem_nil, or_false] at hx
  rcases hx with rfl | rfl | rfl
  · exact nbl_map nbl_str
  · exact h2
  · exact nbl_map nbl_tel
theorem nbl_strs (ws : List (List Nat)) : nbl (.tup (ws.map strD)) = true := nbl_map nbl_str
theorem pg_fd {g : Pg} (h : PgOk g) : Ok g.D := by
  have hs := h.size
  refine fd_ok (n := 6) (fd_tup (n := 5) (by simp) fun x hx => ?_) (by omega)
  simp only [List.mem_cons, List.not_mem_nil, or_false] at hx
  rcases hx with rfl | rfl | rfl
  · exact (fd_tup (n := 0) (by rw [List.length_map]; have := h.k4; omega) fun x hx => by
      obtain ⟨l, hl, rfl⟩ := List.mem_map.mp hx
      exact fd_name (h.kn l hl)).mono (by omega)
  · exact fd_tup (n := 4) (by rw [List.length_map]; have := hs.p; omega) fun x hx => by
      obtain ⟨l, hl, rfl⟩ := List.mem_map.mp hx
      exact fd_pas (hs.pw l hl)
  · exact (fd_tup (n := 1) (by rw [List.length_map]; have := hs.t; omega) fun x hx => by
      obtain ⟨l, hl, rfl⟩ := List.mem_map.mp hx
      exact fd_tel (h.ts l hl).1).mono (by omega)
theorem names_fd {ws : List (List Nat)} (hl : ws.length ≤ 1000000) (h : ∀ w ∈ ws, nameC w = true) : Ok (.tup (ws.map strD)) := fd_ok (n := 1) (fd_tup (by rw [List.length_map]; exact hl) fun x hx => by
  obtain ⟨l, hl, rfl⟩ := List.mem_map.mp hx
  exact fd_name (h l hl)) (by omega)
/-! what repr shows -/
theorem textFrom_le : ∀ (ts : List Str) (k : Nat) (acc : Str), (textFrom k acc ts).length ≤ acc.length + piled ts
  | [], k, acc => by show acc.length ≤ _; omega
  | t :: r, k, acc => by
    have ih := textFrom_le r (k + 1) (acc ++ (if k > 0 then ", " else "" : String) ++ t)
    have e : (acc ++ (if k > 0 then ", " else "" : String) ++ t).length ≤ acc.length + 2 + t.length := by
      rw [strLen_append, strLen_append]
      have : (Str.ofString (if k > 0 then ", " else "")).length ≤ 2 := by split <;> decide +kernel
      omega
    rw [piled_cons]
    show (textFrom (k + 1) _ r).length ≤ _
    omega
theorem listText_le (ts : List Str) : (listText ts).length ≤ piled ts + 2 := by
  unfold listText
  rw [strLen_append]
  have := textFrom_le ts 0 "["
  have e1 : (("[" : Str)).length = 1 := by decide +kernel
  have e2 : (("]" : Str)).length = 1 := by decide +kernel
  omega
theorem piled_le {m : Nat} : ∀ {ts : List Str}, (∀ t ∈ ts, t.length ≤ m) → piled ts ≤ ts.length * (m + 2)
  | [], _ => by rw [piled_nil]; simp
  | t :: r, h => by
    have ih := piled_le (ts := r) fun x hx => h x (by simp [hx])
    have := h t (by simp)
    rw [piled_cons, List.length_cons, Nat.succ_mul]
    omega
theorem shownAll_map : ∀ xs : List PyData, PyData.shownAll xs = xs.map PyData.shown
  | [] => rfl
  | x :: xs => by rw [PyData.shownAll, shownAll_map xs]; rfl
theorem tupText_le {ws : List (List Nat)} (hl : ws.length ≤ 8) (h : ∀ w ∈ ws, nameC w = true) : (toPy (.tup (ws.map strD))).shown.length ≤ 700 := by
  rw [toPy, toPyL_map, PyData.shown, shownAll_map]
  have h1 := fmt_text (((ws.map strD).map toPy).map PyData.shown)
  have h2 := piled_le (m := 82) (ts := ((ws.map strD).map toPy).map PyData.shown) fun t ht => by
    obtain ⟨p, hp, rfl⟩ := List.mem_map.mp ht
    obtain ⟨d, hd, rfl⟩ := List.mem_map.mp hp
    obtain ⟨w, hw, rfl⟩ := List.mem_map.mp hd
    have := StrLaws.reprText_len (S w) fun c hc => by have := (nameC_iff.mp (h w hw)).2 c hc; omega
    have e := S_len w
    have := (nameC_iff.mp (h w hw)).1
    show (reprText (S w)).length ≤ 82
    omega
  rw [List.length_map, List.length_map, List.length_map] at h2
  have e : ws.length * 84 ≤ 8 * 84 := Nat.mul_le_mul hl (Nat.le_refl _)
  omega
theorem repr_ok {ws : List (List Nat)} (hl : ws.length ≤ 8) (h : ∀ w ∈ ws, nameC w = true) :
    pl (.lst [.tup (ws.map strD), .tup (ws.map strD)]) = true ∧ (toPy (.lst [.tup (ws.map strD), .tup (ws.map strD)])).showable = true ∧ (toPy (.lst [.tup (ws.map strD), .tup (ws.map strD)])).hasDict = false ∧ (toPy (.lst [.tup (ws.map strD), .tup (ws.map strD)])).depth ≤ 64 ∧ (toPy (.lst [.tup (ws.map strD), .tup (ws.map strD)])).shown.length ≤ sizeLine := by
  have hok := names_fd (by omega) h
  have hp : pl (.tup (ws.map strD)) = true := pl_of_ok _ hok.1
  have sA : ∀ us : List (List Nat), PyData.showableAll (toPyL (us.map strD)) = true := fun us => by
    induction us with
    | nil => simp [toPyL, PyData.showableAll]
    | cons u us ih => rw [List.map_cons, toPyL, PyData.showableAll, ih]; simp [toPy, PyData.showable]
  have dA : ∀ us : List (List Nat), PyData.hasDictAll (toPyL (us.map strD)) = false := fun us => by
    induction us with
    | nil => simp [toPyL, PyData.hasDictAll]
    | cons u us ih => rw [List.map_cons, toPyL, PyData.hasDictAll, ih]; simp [toPy, PyData.hasDict]
  refine ⟨?_, ?_, ?_, ?_, line_ok ?_⟩
  · rw [pl, plL, plL, plL, hp]; rfl
  · rw [toPy, toPyL, toPyL, toPyL, toPy, PyData.showable, PyData.showableAll, PyData.showableAll, PyData.showableAll, PyData.showable, sA]; rfl
  · rw [toPy, toPyL, toPyL, toPyL, toPy, PyData.hasDict, PyData.hasDictAll, PyData.hasDictAll, PyData.hasDictAll, PyData.hasDict, dA]; rfl
  · rw [dep_py, dep, depL, depL, depL]
    have := hok.2
    omega
  · have h1 := tupText_le hl h
    rw [toPy, toPyL, toPyL, toPyL, PyData.shown, shownAll_map]
    have h2 := listText_le (([toPy (.tup (ws.map strD)), toPy (.tup (ws.map strD))] : List PyData).map PyData.shown)
    have h3 := piled_le (m := 700) (ts := ([toPy (.tup (ws.map strD)), toPy (.tup (ws.map strD))] : List PyData).map PyData.shown) fun t ht => by
      simp only [List.map_cons, List.map_nil, List.mem_cons, List.not_mem_nil, or_false] at ht
      rcases ht with rfl | rfl <;> exact h1
    simp only [List.map_cons, List.map_nil, List.length_cons, List.length_nil] at h2 h3 ⊢
    omega
/-! an order's text -/
theorem split_tour {ws : List (List Nat)} (hne : ws ≠ []) (h : ∀ w ∈ ws, nameC w = true) : splitC (joinL [32] ws) 32 = ws ∧ joinL [32] ws ≠ [45] := by
  have h1 := split_join1 (c := 32) hne fun w hw => name_free (h w hw) (by omega)
  refine ⟨h1, fun e => ?_⟩
  rw [e] at h1
  have : splitC [45] 32 = [[45]] := by decide
  rw [this] at h1
  have := h [45] (by rw [← h1]; simp)
  exact absurd this (by decide)
/-! the law's promise -/
def spLaw (K : PySem.W.Frag) : Sp := fun vs H Q _ => ∃ (a : Addr) (ns : List Int), vs = [.ref a] ∧ SqL K H a (ns.map V.int) ∧ ns.length ≤ 63 ∧ ∀ H', Q (.bl true) H'
theorem spLaw_body {K : PySem.W.Frag} {N : List Str} (hN : 1 ≤ N.length) {t : TS} {vs : List V} {H : Hp} {Q : VK} {E : XK}
    (b : ∀ (H0 : Hp) (a : Addr) (ns : List Int), SqL K H0 a (ns.map V.int) → ns.length ≤ 63 → wps ⟨K, fun _ => none, H0, [], []⟩ t (startV N.length a) (fun _ => False) (fun _ d => d = .bl true)) (h : spLaw K vs H Q E) :
    t { nx := fun _ H' => Q .non H', rt := Q } (start N vs) H := by
  obtain ⟨a, ns, rfl, hs, hl, q⟩ := h
  refine b H a ns hs hl _ _ _ _ (as_script hN) (fun _ _ _ _ _ _ z => z.elim) fun G' σ' v d F' H' s A r z => ?_
  subst z
  cases r
  exact q H'
end Sd
set_option Elab.async false
set_option linter.all false
set_option maxRecDepth 100000
set_option maxHeartbeats 4000000
namespace Sd
open PySem PySem.Spec L2
def topS (i : Nat) : Stmt := PySem.Challenge.pw_seedless_k80_texts_of_programs.main.body.getD i (.Pass ⟨0, 0, 0, 0⟩)
abbrev s_is_integer : Stmt := topS 10
abbrev N_is_integer : List Str := ["thing"]
theorem sc_is_integer : FnScope N_is_integer ["thing"] (defScope s_is_integer) := ⟨rfl, rfl, rfl, by decide +kernel, rfl, by decide +kernel, by decide +kernel⟩
abbrev s_is_name : Stmt := topS 11
abbrev N_is_name : List Str := ["thing", "sign"]
theorem sc_is_name : FnScope N_is_name ["thing"] (defScope s_is_name) := ⟨rfl, rfl, rfl, by decide +kernel, rfl, by decide +kernel, by decide +kernel⟩
abbrev s_are_kinds : Stmt := topS 12
abbrev N_are_kinds : List Str := ["thing", "one", "other"]
theorem sc_are_kinds : FnScope N_are_kinds ["thing"] (defScope s_are_kinds) := ⟨rfl, rfl, rfl, by decide +kernel, rfl, by decide +kernel, by decide +kernel⟩
abbrev s_is_state : Stmt := topS 13
abbrev N_is_state : List Str := ["many", "thing"]
theorem sc_is_state : FnScope N_is_state ["many", "thing"] (defScope s_is_state) := ⟨rfl, rfl, rfl, by decide +kernel, rfl, by decide +kernel, by decide +kernel⟩
abbrev s_is_pair : Stmt := topS 14
abbrev N_is_pair : List Str := ["many", "thing"]
theorem sc_is_pair : FnScope N_is_pair ["many", "thing"] (defScope s_is_pair) := ⟨rfl, rfl, rfl, by decide +kernel, rfl, by decide +kernel, by decide +kernel⟩
abbrev s_are_rows : Stmt := topS 15
abbrev N_are_rows : List Str := ["size", "thing", "row", "pair"]
theorem sc_are_rows : FnScope N_are_rows ["size", "thing"] (defScope s_are_rows) := ⟨rfl, rfl, rfl, by decide +kernel, rfl, by decide +kernel, by decide +kernel⟩
abbrev s_is_pass : Stmt := topS 16
abbrev N_is_pass : List Str := ["size", "begins", "thing", "state"]
theorem sc_is_pass : FnScope N_is_pass ["size", "begins", "thing"] (defScope s_is_pass) := ⟨rfl, rfl, rfl, by decide +kernel, rfl, by decide +kernel, by decide +kernel⟩
abbrev s_are_passes : Stmt := topS 17
abbrev N_are_passes : List Str := ["size", "thing", "one"]
theorem sc_are_passes : FnScope N_are_passes ["size", "thing"] (defScope s_are_passes) := ⟨rfl, rfl, rfl, by decide +kernel, rfl, by decide +kernel, by decide +kernel⟩
abbrev s_is_tell : Stmt := topS 18
abbrev N_is_tell : List Str := ["thing"]
theorem sc_is_tell : FnScope N_is_tell ["thing"] (defScope s_is_tell) := ⟨rfl, rfl, rfl, by decide +kernel, rfl, by decide +kernel, by decide +kernel⟩
abbrev s_Program_init : Stmt := inClass (topS 19) 0
abbrev N_Program_init : List Str := ["self", "kinds", "passes", "tells", "one"]
theorem sc_Program_init : FnScope N_Program_init ["self", "kinds", "passes", "tells"] (defScope s_Program_init) := ⟨rfl, rfl, rfl, by decide +kernel, rfl, by decide +kernel, by decide +kernel⟩
abbrev s_Program_kinds : Stmt := inClass (topS 19) 2
abbrev N_Program_kinds : List Str := ["self"]
theorem sc_Program_kinds : FnScope N_Program_kinds ["self"] (defScope s_Program_kinds) := ⟨rfl, rfl, rfl, by decide +kernel, rfl, by decide +kernel, by decide +kernel⟩
abbrev s_Program_passes : Stmt := inClass (topS 19) 3
abbrev N_Program_passes : List Str := ["self"]
theorem sc_Program_passes : FnScope N_Program_passes ["self"] (defScope s_Program_passes) := ⟨rfl, rfl, rfl, by decide +kernel, rfl, by decide +kernel, by decide +kernel⟩
abbrev s_Program_tells : Stmt := inClass (topS 19) 4
abbrev N_Program_tells : List Str := ["self"]
theorem sc_Program_tells : FnScope N_Program_tells ["self"] (defScope s_Program_tells) := ⟨rfl, rfl, rfl, by decide +kernel, rfl, by decide +kernel, by decide +kernel⟩
abbrev s_Program_parts : Stmt := inClass (topS 19) 5
abbrev N_Program_parts : List Str := ["self"]
theorem sc_Program_parts : FnScope N_Program_parts ["self"] (defScope s_Program_parts) := ⟨rfl, rfl, rfl, by decide +kernel, rfl, by decide +kernel, by decide +kernel⟩
abbrev s_Program_eq : Stmt := inClass (topS 19) 6
abbrev N_Program_eq : List Str := ["self", "other"]
theorem sc_Program_eq : FnScope N_Program_eq ["self", "other"] (defScope s_Program_eq) := ⟨rfl, rfl, rfl, by decide +kernel, rfl, by decide +kernel, by decide +kernel⟩
abbrev s_row_line : Stmt := topS 25
abbrev N_row_line : List Str := ["row", "state", "gain"]
theorem sc_row_line : FnScope N_row_line ["row"] (defScope s_row_line) := ⟨rfl, rfl, rfl, by decide +kernel, rfl, by decide +kernel, by decide +kernel⟩
abbrev s_pass_lines : Stmt := topS 26
abbrev N_pass_lines : List Str := ["one", "begins", "rows", "state", "row"]
theorem sc_pass_lines : FnScope N_pass_lines ["one"] (defScope s_pass_lines) := ⟨rfl, rfl, rfl, by decide +kernel, rfl, by decide +kernel, by decide +kernel⟩
abbrev s_program_text : Stmt := topS 27
abbrev N_program_text : List Str := ["program", "lines", "one", "label", "extra", "line"]
theorem sc_program_text : FnScope N_program_text ["program"] (defScope s_program_text) := ⟨rfl, rfl, rfl, by decide +kernel, rfl, by decide +kernel, by decide +kernel⟩
abbrev s_is_numeral : Stmt := topS 28
abbrev N_is_numeral : List Str := ["word", "digits", "sign"]
theorem sc_is_numeral : FnScope N_is_numeral ["word"] (defScope s_is_numeral) := ⟨rfl, rfl, rfl, by decide +kernel, rfl, by decide +kernel, by decide +kernel⟩
abbrev s_numbers_in : Stmt := topS 29
abbrev N_numbers_in : List Str := ["words", "word"]
theorem sc_numbers_in : FnScope N_numbers_in ["words"] (defScope s_numbers_in) := ⟨rfl, rfl, rfl, by decide +kernel, rfl, by decide +kernel, by decide +kernel⟩
abbrev s_read_row : Stmt := topS 30
abbrev N_read_row : List Str := ["size", "line", "numbers", "spot"]
theorem sc_read_row : FnScope N_read_row ["size", "line"] (defScope s_read_row) := ⟨rfl, rfl, rfl, by decide +kernel, rfl, by decide +kernel, by decide +kernel⟩
abbrev s_Reader_init : Stmt := inClass (topS 31) 0
abbrev N_Reader_init : List Str := ["self"]
theorem sc_Reader_init : FnScope N_Reader_init ["self"] (defScope s_Reader_init) := ⟨rfl, rfl, rfl, by decide +kernel, rfl, by decide +kernel, by decide +kernel⟩
abbrev s_Reader_takes_kinds : Stmt := inClass (topS 31) 1
abbrev N_Reader_takes_kinds : List Str := ["self", "words", "word"]
theorem sc_Reader_takes_kinds : FnScope N_Reader_takes_kinds ["self", "words"] (defScope s_Reader_takes_kinds) := ⟨rfl, rfl, rfl, by decide +kernel, rfl, by decide +kernel, by decide +kernel⟩
abbrev s_Reader_takes_pass : Stmt := inClass (topS 31) 2
abbrev N_Reader_takes_pass : List Str := ["self", "words", "begins"]
theorem sc_Reader_takes_pass : FnScope N_Reader_takes_pass ["self", "words"] (defScope s_Reader_takes_pass) := ⟨rfl, rfl, rfl, by decide +kernel, rfl, by decide +kernel, by decide +kernel⟩
abbrev s_Reader_takes_row : Stmt := inClass (topS 31) 3
abbrev N_Reader_takes_row : List Str := ["self", "line", "row"]
theorem sc_Reader_takes_row : FnScope N_Reader_takes_row ["self", "line"] (defScope s_Reader_takes_row) := ⟨rfl, rfl, rfl, by decide +kernel, rfl, by decide +kernel, by decide +kernel⟩
abbrev s_Reader_takes_tell : Stmt := inClass (topS 31) 4
abbrev N_Reader_takes_tell : List Str := ["self", "words"]
theorem sc_Reader_takes_tell : FnScope N_Reader_takes_tell ["self", "words"] (defScope s_Reader_takes_tell) := ⟨rfl, rfl, rfl, by decide +kernel, rfl, by decide +kernel, by decide +kernel⟩
abbrev s_Reader_takes : Stmt := inClass (topS 31) 5
abbrev N_Reader_takes : List Str := ["self", "line", "words"]
theorem sc_Reader_takes : FnScope N_Reader_takes ["self", "line"] (defScope s_Reader_takes) := ⟨rfl, rfl, rfl, by decide +kernel, rfl, by decide +kernel, by decide +kernel⟩
abbrev s_Reader_result : Stmt := inClass (topS 31) 6
abbrev N_Reader_result : List Str := ["self", "passes", "begins", "rows"]
theorem sc_Reader_result : FnScope N_Reader_result ["self"] (defScope s_Reader_result) := ⟨rfl, rfl, rfl, by decide +kernel, rfl, by decide +kernel, by decide +kernel⟩
abbrev s_read_program : Stmt := topS 32
abbrev N_read_program : List Str := ["text", "lines", "reader", "is_ended", "row", "line"]
theorem sc_read_program : FnScope N_read_program ["text"] (defScope s_read_program) := ⟨rfl, rfl, rfl, by decide +kernel, rfl, by decide +kernel, by decide +kernel⟩
abbrev s_order_text : Stmt := topS 33
abbrev N_order_text : List Str := ["order"]
theorem sc_order_text : FnScope N_order_text ["order"] (defScope s_order_text) := ⟨rfl, rfl, rfl, by decide +kernel, rfl, by decide +kernel, by decide +kernel⟩
abbrev s_read_order : Stmt := topS 34
abbrev N_read_order : List Str := ["program", "text", "words", "word"]
theorem sc_read_order : FnScope N_read_order ["program", "text"] (defScope s_read_order) := ⟨rfl, rfl, rfl, by decide +kernel, rfl, by decide +kernel, by decide +kernel⟩
abbrev s__law_state : Stmt := topS 36
abbrev N__law_state : List Str := ["_law_script", "_law_cell"]
theorem sc__law_state : FnScope N__law_state ["_law_script"] (defScope s__law_state) := ⟨rfl, rfl, rfl, by decide +kernel, rfl, by decide +kernel, by decide +kernel⟩
abbrev s__law_draw : Stmt := topS 37
abbrev N__law_draw : List Str := ["_law_draws", "_law_many", "_law_cells", "_law_spot", "_law_cell", "_law_mixed"]
theorem sc__law_draw : FnScope N__law_draw ["_law_draws", "_law_many"] (defScope s__law_draw) := ⟨rfl, rfl, rfl, by decide +kernel, rfl, by decide +kernel, by decide +kernel⟩
abbrev s__law_pick : Stmt := topS 38
abbrev N__law_pick : List Str := ["_law_draws", "_law_some"]
theorem sc__law_pick : FnScope N__law_pick ["_law_draws", "_law_some"] (defScope s__law_pick) := ⟨rfl, rfl, rfl, by decide +kernel, rfl, by decide +kernel, by decide +kernel⟩
abbrev s__law_labels : Stmt := topS 39
abbrev N__law_labels : List Str := ["_law_draws", "_law_many", "_law_letters", "_law_found", "_law_own", "_law_k", "_law_label", "_law_others", "_law_j", "_law_sign", "_law_word"]
theorem sc__law_labels : FnScope N__law_labels ["_law_draws", "_law_many"] (defScope s__law_labels) := ⟨rfl, rfl, rfl, by decide +kernel, rfl, by decide +kernel, by decide +kernel⟩
abbrev s__law_gain : Stmt := topS 40
abbrev N__law_gain : List Str := ["_law_draws", "_law_far"]
theorem sc__law_gain : FnScope N__law_gain ["_law_draws"] (defScope s__law_gain) := ⟨rfl, rfl, rfl, by decide +kernel, rfl, by decide +kernel, by decide +kernel⟩
abbrev s__law_lap : Stmt := topS 41
abbrev N__law_lap : List Str := ["_law_draws", "_law_size", "_law_starts", "_law_most", "_law_many", "_law_lines_here", "_law_at", "_law_line", "_law_k"]
theorem sc__law_lap : FnScope N__law_lap ["_law_draws", "_law_size", "_law_starts", "_law_most"] (defScope s__law_lap) := ⟨rfl, rfl, rfl, by decide +kernel, rfl, by decide +kernel, by decide +kernel⟩
abbrev s__law_parts : Stmt := topS 42
abbrev N__law_parts : List Str := ["_law_draws", "_law_many", "_law_most", "_law_sorts", "_law_laps", "_law_words", "_law_extras", "_law_says", "_law_line"]
theorem sc__law_parts : FnScope N__law_parts ["_law_draws", "_law_many", "_law_most"] (defScope s__law_parts) := ⟨rfl, rfl, rfl, by decide +kernel, rfl, by decide +kernel, by decide +kernel⟩
abbrev s__law_made : Stmt := topS 43
abbrev N__law_made : List Str := ["_law_parts_here"]
theorem sc__law_made : FnScope N__law_made ["_law_parts_here"] (defScope s__law_made) := ⟨rfl, rfl, rfl, by decide +kernel, rfl, by decide +kernel, by decide +kernel⟩
abbrev s__law_tour : Stmt := topS 44
abbrev N__law_tour : List Str := ["_law_draws", "_law_sorts", "_law_most", "_law_k"]
theorem sc__law_tour : FnScope N__law_tour ["_law_draws", "_law_sorts", "_law_most"] (defScope s__law_tour) := ⟨rfl, rfl, rfl, by decide +kernel, rfl, by decide +kernel, by decide +kernel⟩
abbrev s__law_lines : Stmt := topS 45
abbrev N__law_lines : List Str := ["_law_parts_here", "_law_found", "_law_starts", "_law_lines_here", "_law_line", "_law_state_here", "_law_gain_here", "_law_label", "_law_extra"]
theorem sc__law_lines : FnScope N__law_lines ["_law_parts_here"] (defScope s__law_lines) := ⟨rfl, rfl, rfl, by decide +kernel, rfl, by decide +kernel, by decide +kernel⟩
abbrev s__law_page : Stmt := topS 46
abbrev N__law_page : List Str := ["_law_lines_here", "_law_line"]
theorem sc__law_page : FnScope N__law_page ["_law_lines_here"] (defScope s__law_page) := ⟨rfl, rfl, rfl, by decide +kernel, rfl, by decide +kernel, by decide +kernel⟩
abbrev s_law : Stmt := topS 47
abbrev N_law : List Str := ["_law_script", "_law_draws", "_law_before", "_law_turn", "_law_parts_here", "_law_made_here", "_law_due", "_law_tour_here"]
theorem sc_law : FnScope N_law ["_law_script"] (defScope s_law) := ⟨rfl, rfl, rfl, by decide +kernel, rfl, by decide +kernel, by decide +kernel⟩
structure Tx (K : PySem.W.Frag) (mg : Str → Option Value) where
  a_Program : Addr
  g_Program : mg "Program" = some (.ref a_Program)
  c_Program : Cls K a_Program
  n_Program_p_kinds : NoAttr K a_Program "p_kinds"
  n_Program_p_passes : NoAttr K a_Program "p_passes"
  n_Program_p_tells : NoAttr K a_Program "p_tells"
  i_Program : IsC K a_Program
  self_Program : PySem.W.kitOne K (.ref a_Program) (.ref a_Program) = some true
  a_Reader : Addr
  g_Reader : mg "Reader" = some (.ref a_Reader)
  c_Reader : Cls K a_Reader
  n_Reader_r_kinds : NoAttr K a_Reader "r_kinds"
  n_Reader_r_passes : NoAttr K a_Reader "r_passes"
  n_Reader_r_tells : NoAttr K a_Reader "r_tells"
  f_is_integer : Addr
  d_is_integer : FuncData
  F_is_integer : Fun K "is_integer" "is_integer" s_is_integer f_is_integer d_is_integer
  b_is_integer : Binds K d_is_integer ["thing"] []
  g_is_integer : mg "is_integer" = some (.ref f_is_integer)
  f_is_name : Addr
  d_is_name : FuncData
  F_is_name : Fun K "is_name" "is_name" s_is_name f_is_name d_is_name
  b_is_name : Binds K d_is_name ["thing"] []
  g_is_name : mg "is_name" = some (.ref f_is_name)
  f_are_kinds : Addr
  d_are_kinds : FuncData
  F_are_kinds : Fun K "are_kinds" "are_kinds" s_are_kinds f_are_kinds d_are_kinds
  b_are_kinds : Binds K d_are_kinds ["thing"] []
  g_are_kinds : mg "are_kinds" = some (.ref f_are_kinds)
  f_is_state : Addr
  d_is_state : FuncData
  F_is_state : Fun K "is_state" "is_state" s_is_state f_is_state d_is_state
  b_is_state : Binds K d_is_state ["many", "thing"] []
  g_is_state : mg "is_state" = some (.ref f_is_state)
  f_is_pair : Addr
  d_is_pair : FuncData
  F_is_pair : Fun K "is_pair" "is_pair" s_is_pair f_is_pair d_is_pair
  b_is_pair : Binds K d_is_pair ["many", "thing"] []
  g_is_pair : mg "is_pair" = some (.ref f_is_pair)
  f_are_rows : Addr
  d_are_rows : FuncData
  F_are_rows : Fun K "are_rows" "are_rows" s_are_rows f_are_rows d_are_rows
  b_are_rows : Binds K d_are_rows ["size", "thing"] []
  g_are_rows : mg "are_rows" = some (.ref f_are_rows)
  f_is_pass : Addr
  d_is_pass : FuncData
  F_is_pass : Fun K "is_pass" "is_pass" s_is_pass f_is_pass d_is_pass
  b_is_pass : Binds K d_is_pass ["size", "begins", "thing"] []
  g_is_pass : mg "is_pass" = some (.ref f_is_pass)
  f_are_passes : Addr
  d_are_passes : FuncData
  F_are_passes : Fun K "are_passes" "are_passes" s_are_passes f_are_passes d_are_passes
  b_are_passes : Binds K d_are_passes ["size", "thing"] []
  g_are_passes : mg "are_passes" = some (.ref f_are_passes)
  f_is_tell : Addr
  d_is_tell : FuncData
  F_is_tell : Fun K "is_tell" "is_tell" s_is_tell f_is_tell d_is_tell
  b_is_tell : Binds K d_is_tell ["thing"] []
  g_is_tell : mg "is_tell" = some (.ref f_is_tell)
  f_Program_init : Addr
  d_Program_init : FuncData
  F_Program_init : Fun K "__init__" "Program.__init__" s_Program_init f_Program_init d_Program_init
  b_Program_init : Binds K d_Program_init ["self", "kinds", "passes", "tells"] []
  K_Program : Mk K a_Program f_Program_init
  f_Program_kinds : Addr
  d_Program_kinds : FuncData
  F_Program_kinds : Fun K "kinds" "Program.kinds" s_Program_kinds f_Program_kinds d_Program_kinds
  b_Program_kinds : Binds K d_Program_kinds ["self"] []
  p_Program_kinds : Addr
  P_Program_kinds : PropOf K a_Program "kinds" p_Program_kinds f_Program_kinds
  f_Program_passes : Addr
  d_Program_passes : FuncData
  F_Program_passes : Fun K "passes" "Program.passes" s_Program_passes f_Program_passes d_Program_passes
  b_Program_passes : Binds K d_Program_passes ["self"] []
  p_Program_passes : Addr
  P_Program_passes : PropOf K a_Program "passes" p_Program_passes f_Program_passes
  f_Program_tells : Addr
  d_Program_tells : FuncData
  F_Program_tells : Fun K "tells" "Program.tells" s_Program_tells f_Program_tells d_Program_tells
  b_Program_tells : Binds K d_Program_tells ["self"] []
  p_Program_tells : Addr
  P_Program_tells : PropOf K a_Program "tells" p_Program_tells f_Program_tells
  f_Program_parts : Addr
  d_Program_parts : FuncData
  F_Program_parts : Fun K "parts" "Program.parts" s_Program_parts f_Program_parts d_Program_parts
  b_Program_parts : Binds K d_Program_parts ["self"] []
  M_Program_parts : Meth K a_Program "parts" f_Program_parts
  f_Program_eq : Addr
  d_Program_eq : FuncData
  F_Program_eq : Fun K "__eq__" "Program.__eq__" s_Program_eq f_Program_eq d_Program_eq
  b_Program_eq : Binds K d_Program_eq ["self", "other"] []
  e_Program : OwnCmp K a_Program f_Program_eq
  f_row_line : Addr
  d_row_line : FuncData
  F_row_line : Fun K "row_line" "row_line" s_row_line f_row_line d_row_line
  b_row_line : Binds K d_row_line ["row"] []
  g_row_line : mg "row_line" = some (.ref f_row_line)
  f_pass_lines : Addr
  d_pass_lines : FuncData
  F_pass_lines : Fun K "pass_lines" "pass_lines" s_pass_lines f_pass_lines d_pass_lines
  b_pass_lines : Binds K d_pass_lines ["one"] []
  g_pass_lines : mg "pass_lines" = some (.ref f_pass_lines)
  f_program_text : Addr
  d_program_text : FuncData
  F_program_text : Fun K "program_text" "program_text" s_program_text f_program_text d_program_text
  b_program_text : Binds K d_program_text ["program"] []
  g_program_text : mg "program_text" = some (.ref f_program_text)
  kb_program_text : KW K d_program_text ["program"] 0 ["program"] [0]
  f_is_numeral : Addr
  d_is_numeral : FuncData
  F_is_numeral : Fun K "is_numeral" "is_numeral" s_is_numeral f_is_numeral d_is_numeral
  b_is_numeral : Binds K d_is_numeral ["word"] []
  g_is_numeral : mg "is_numeral" = some (.ref f_is_numeral)
  f_numbers_in : Addr
  d_numbers_in : FuncData
  F_numbers_in : Fun K "numbers_in" "numbers_in" s_numbers_in f_numbers_in d_numbers_in
  b_numbers_in : Binds K d_numbers_in ["words"] []
  g_numbers_in : mg "numbers_in" = some (.ref f_numbers_in)
  f_read_row : Addr
  d_read_row : FuncData
  F_read_row : Fun K "read_row" "read_row" s_read_row f_read_row d_read_row
  b_read_row : Binds K d_read_row ["size", "line"] []
  g_read_row : mg "read_row" = some (.ref f_read_row)
  f_Reader_init : Addr
  d_Reader_init : FuncData
  F_Reader_init : Fun K "__init__" "Reader.__init__" s_Reader_init f_Reader_init d_Reader_init
  b_Reader_init : Binds K d_Reader_init ["self"] []
  K_Reader : Mk K a_Reader f_Reader_init
  f_Reader_takes_kinds : Addr
  d_Reader_takes_kinds : FuncData
  F_Reader_takes_kinds : Fun K "takes_kinds" "Reader.takes_kinds" s_Reader_takes_kinds f_Reader_takes_kinds d_Reader_takes_kinds
  b_Reader_takes_kinds : Binds K d_Reader_takes_kinds ["self", "words"] []
  M_Reader_takes_kinds : Meth K a_Reader "takes_kinds" f_Reader_takes_kinds
  f_Reader_takes_pass : Addr
  d_Reader_takes_pass : FuncData
  F_Reader_takes_pass : Fun K "takes_pass" "Reader.takes_pass" s_Reader_takes_pass f_Reader_takes_pass d_Reader_takes_pass
  b_Reader_takes_pass : Binds K d_Reader_takes_pass ["self", "words"] []
  M_Reader_takes_pass : Meth K a_Reader "takes_pass" f_Reader_takes_pass
  f_Reader_takes_row : Addr
  d_Reader_takes_row : FuncData
  F_Reader_takes_row : Fun K "takes_row" "Reader.takes_row" s_Reader_takes_row f_Reader_takes_row d_Reader_takes_row
  b_Reader_takes_row : Binds K d_Reader_takes_row ["self", "line"] []
  M_Reader_takes_row : Meth K a_Reader "takes_row" f_Reader_takes_row
  f_Reader_takes_tell : Addr
  d_Reader_takes_tell : FuncData
  F_Reader_takes_tell : Fun K "takes_tell" "Reader.takes_tell" s_Reader_takes_tell f_Reader_takes_tell d_Reader_takes_tell
  b_Reader_takes_tell : Binds K d_Reader_takes_tell ["self", "words"] []
  M_Reader_takes_tell : Meth K a_Reader "takes_tell" f_Reader_takes_tell
  f_Reader_takes : Addr
  d_Reader_takes : FuncData
  F_Reader_takes : Fun K "takes" "Reader.takes" s_Reader_takes f_Reader_takes d_Reader_takes
  b_Reader_takes : Binds K d_Reader_takes ["self", "line"] []
  M_Reader_takes : Meth K a_Reader "takes" f_Reader_takes
  f_Reader_result : Addr
  d_Reader_result : FuncData
  F_Reader_result : Fun K "result" "Reader.result" s_Reader_result f_Reader_result d_Reader_result
  b_Reader_result : Binds K d_Reader_result ["self"] []
  M_Reader_result : Meth K a_Reader "result" f_Reader_result
  f_read_program : Addr
  d_read_program : FuncData
  F_read_program : Fun K "read_program" "read_program" s_read_program f_read_program d_read_program
  b_read_program : Binds K d_read_program ["text"] []
  g_read_program : mg "read_program" = some (.ref f_read_program)
  kb_read_program : KW K d_read_program ["text"] 0 ["text"] [0]
  f_order_text : Addr
  d_order_text : FuncData
  F_order_text : Fun K "order_text" "order_text" s_order_text f_order_text d_order_text
  b_order_text : Binds K d_order_text ["order"] []
  g_order_text : mg "order_text" = some (.ref f_order_text)
  kb_order_text : KW K d_order_text ["order"] 0 ["order"] [0]
  f_read_order : Addr
  d_read_order : FuncData
  F_read_order : Fun K "read_order" "read_order" s_read_order f_read_order d_read_order
  b_read_order : Binds K d_read_order ["program", "text"] []
  g_read_order : mg "read_order" = some (.ref f_read_order)
  kb_read_order : KW K d_read_order ["program", "text"] 0 ["text", "program"] [1, 0]
  f__law_state : Addr
  d__law_state : FuncData
  F__law_state : Fun K "_law_state" "_law_state" s__law_state f__law_state d__law_state
  b__law_state : Binds K d__law_state ["_law_script"] []
  g__law_state : mg "_law_state" = some (.ref f__law_state)
  f__law_draw : Addr
  d__law_draw : FuncData
  F__law_draw : Fun K "_law_draw" "_law_draw" s__law_draw f__law_draw d__law_draw
  b__law_draw : Binds K d__law_draw ["_law_draws", "_law_many"] []
  g__law_draw : mg "_law_draw" = some (.ref f__law_draw)
  f__law_pick : Addr
  d__law_pick : FuncData
  F__law_pick : Fun K "_law_pick" "_law_pick" s__law_pick f__law_pick d__law_pick
  b__law_pick : Binds K d__law_pick ["_law_draws", "_law_some"] []
  g__law_pick : mg "_law_pick" = some (.ref f__law_pick)
  f__law_labels : Addr
  d__law_labels : FuncData
  F__law_labels : Fun K "_law_labels" "_law_labels" s__law_labels f__law_labels d__law_labels
  b__law_labels : Binds K d__law_labels ["_law_draws", "_law_many"] []
  g__law_labels : mg "_law_labels" = some (.ref f__law_labels)
  f__law_gain : Addr
  d__law_gain : FuncData
  F__law_gain : Fun K "_law_gain" "_law_gain" s__law_gain f__law_gain d__law_gain
  b__law_gain : Binds K d__law_gain ["_law_draws"] []
  g__law_gain : mg "_law_gain" = some (.ref f__law_gain)
  f__law_lap : Addr
  d__law_lap : FuncData
  F__law_lap : Fun K "_law_lap" "_law_lap" s__law_lap f__law_lap d__law_lap
  b__law_lap : Binds K d__law_lap ["_law_draws", "_law_size", "_law_starts", "_law_most"] []
  g__law_lap : mg "_law_lap" = some (.ref f__law_lap)
  f__law_parts : Addr
  d__law_parts : FuncData
  F__law_parts : Fun K "_law_parts" "_law_parts" s__law_parts f__law_parts d__law_parts
  b__law_parts : Binds K d__law_parts ["_law_draws", "_law_many", "_law_most"] []
  g__law_parts : mg "_law_parts" = some (.ref f__law_parts)
  f__law_made : Addr
  d__law_made : FuncData
  F__law_made : Fun K "_law_made" "_law_made" s__law_made f__law_made d__law_made
  b__law_made : Binds K d__law_made ["_law_parts_here"] []
  g__law_made : mg "_law_made" = some (.ref f__law_made)
  f__law_tour : Addr
  d__law_tour : FuncData
  F__law_tour : Fun K "_law_tour" "_law_tour" s__law_tour f__law_tour d__law_tour
  b__law_tour : Binds K d__law_tour ["_law_draws", "_law_sorts", "_law_most"] []
  g__law_tour : mg "_law_tour" = some (.ref f__law_tour)
  f__law_lines : Addr
  d__law_lines : FuncData
  F__law_lines : Fun K "_law_lines" "_law_lines" s__law_lines f__law_lines d__law_lines
  b__law_lines : Binds K d__law_lines ["_law_parts_here"] []
  g__law_lines : mg "_law_lines" = some (.ref f__law_lines)
  f__law_page : Addr
  d__law_page : FuncData
  F__law_page : Fun K "_law_page" "_law_page" s__law_page f__law_page d__law_page
  b__law_page : Binds K d__law_page ["_law_lines_here"] []
  g__law_page : mg "_law_page" = some (.ref f__law_page)
  f_law : Addr
  d_law : FuncData
  F_law : Fun K "law" "law" s_law f_law d_law
  b_law : Binds K d_law ["_law_script"] []
  g_law : mg "law" = some (.ref f_law)
  m_isinstance : mg "isinstance" = none
  m_len : mg "len" = none
  m_all : mg "all" = none
  m_abs : mg "abs" = none
  m_min : mg "min" = none
  m_int : mg "int" = none
  m_str : mg "str" = none
  m_bool : mg "bool" = none
  m_tuple : mg "tuple" = none
  m_list : mg "list" = none
  m_sorted : mg "sorted" = none
  m_repr : mg "repr" = none
  m_range : mg "range" = none
  m_enumerate : mg "enumerate" = none
  m_zip : mg "zip" = none
  m_LETTERS : ∃ t, mg "LETTERS" = some (.str "abcdefghijklmnopqrstuvwxyz" t)
  m_MOST_LETTERS : ∃ t, mg "MOST_LETTERS" = some (.int 8 t)
  m_MOST_KINDS : ∃ t, mg "MOST_KINDS" = some (.int 4 t)
  m_MOST_PASSES : ∃ t, mg "MOST_PASSES" = some (.int 2 t)
  m_DIGITS : ∃ t, mg "DIGITS" = some (.str "0123456789" t)
  m_MOST_DIGITS : ∃ t, mg "MOST_DIGITS" = some (.int 6 t)
  m_MARGIN : ∃ t, mg "MARGIN" = some (.str "  " t)
  m_EMPTY : ∃ t, mg "EMPTY" = some (.str "-" t)
end Sd
set_option Elab.async false
set_option linter.all false
set_option maxRecDepth 100000
set_option maxHeartbeats 4000000
namespace Sd
open PySem PySem.Spec L2
local macro_rules | `(tactic| walk_at "r") => `(tactic| (first | (dsimp only [cxOf, Cx.nox, Cx.wish, Cx.blk]; done) | (dsimp only [cxOf, Cx.nox, Cx.wish, Cx.blk]; rfl) | rfl))
local macro_rules | `(tactic| walk_at "k") => `(tactic| kernel_rfl)
local macro_rules | `(tactic| walk_at "s") => `(tactic| try dsimp only [cxOf, List.map_cons, List.map_nil])
local macro_rules | `(tactic| walk_at "d") => `(tactic| first
  | (with_reducible refine wps_seq ?_)
  | (with_reducible refine wps_ret ?_)
  | (with_reducible refine wps_if ?_)
  | (with_reducible refine wps_next ?_)
  | (with_reducible refine wps_drop ?_)
  | (with_reducible refine wpt_test ?_)
  | (with_reducible refine wpt_B ?_)
  | (with_reducible refine wpt_not ?_)
  | (with_reducible refine wpt_or ?_)
  | (with_reducible refine wpt_and ?_)
  | (with_reducible refine wp_andV ?_)
  | (with_reducible refine wp_orV ?_)
  | (with_reducible refine wp_notV ?_)
  | (refine wp_isiB (by decide) ?_)
  | (with_reducible refine wp_chain ?_)
  | (with_reducible refine wp_op ?_)
  | (with_reducible refine wp_tup ?_)
  | (with_reducible refine wpl_lst ?_)
  | (with_reducible refine wp_m1 ?_)
  | (with_reducible refine wp_m0 ?_)
  | (with_reducible refine wp_cb ?_)
  | (with_reducible refine wpa_cons ?_)
  | (with_reducible refine wpa_nil ?_)
  | (with_reducible refine wp_int ?_)
  | (with_reducible refine wp_str ?_)
  | (with_reducible refine wp_bl ?_)
  | (with_reducible refine wp_non ?_)
  | (refine wp_var rfl ?_)
  | (refine rc_len rfl ?_)
  | (refine r2_ii ?_)
  | (refine r2_ib ?_)
  | (refine ⟨_, rfl, ?_⟩))
variable {P : Program} {wd : World} {mg : Str → Option Value} {base : Heap} {K : PySem.W.Frag}
abbrev sp_is_integer (K : PySem.W.Frag) : Sp := spP K (pre1 Ok) (post1 fun x r => r = .bl (isIntD x))
theorem ok_is_integer (T : Tx K mg) : FnOk P wd K mg base CX0 1 T.f_is_integer T.d_is_integer ["thing"] (sp_is_integer K) := by
  refine fn_P T.F_is_integer sc_is_integer (fun ds h => by obtain ⟨_, rfl, _⟩ := pre1_inv h; rfl) (fun cdv A outer s H E hr => ⟨_, (have nd := sc_is_integer.nd; (pss_one (ps_ret (pe_and (pe_callB call_isi rfl T.m_isinstance (by decide +kernel) (pa_cons (pv 0) (pa_cons (pe_bltn (v := .ty "int") (u := .type "int") rfl T.m_int (by decide +kernel) rfl) pa_nil))) (pe_one (pe_not (pe_callB call_isi rfl T.m_isinstance (by decide +kernel) (pa_cons (pv 0) (pa_cons (pe_bltn (v := .ty "bool") (u := .type "bool") rfl T.m_bool (by decide +kernel) rfl) pa_nil))))))))), fun F0 H0 ds hp => ?_⟩)
  walk_at "s"
  obtain ⟨x, rfl, hx⟩ := pre1_inv hp
  show wps _ _ [.d x] _ _
  repeat walk_at "d"
  refine ⟨hx.noObj, _, rfl, ?_⟩
  cases x with
  | int i => exact ite_t rfl (wp_notV (wp_isiB (by decide) (wp_var rfl ⟨rfl, _, rfl, rfl⟩)))
  | bl i => exact ite_t rfl (wp_notV (wp_isiB (by decide) (wp_var rfl ⟨rfl, _, rfl, rfl⟩)))
  | obj => cases hx.noObj
  | _ => exact ite_f rfl rfl
abbrev sp_is_name (K : PySem.W.Frag) : Sp := spP K (pre1 Ok) (post1 fun x r => r = .bl (isNameD x))
theorem ok_is_name (T : Tx K mg) : FnOk P wd K mg base CX0 1 T.f_is_name T.d_is_name ["thing"] (sp_is_name K) := by
  refine fn_P T.F_is_name sc_is_name (fun ds h => by obtain ⟨_, rfl, _⟩ := pre1_inv h; rfl) (fun cdv A outer s H E hr => ⟨_, (have nd := sc_is_name.nd; (pss_cons (ps_if (PW.pt (pw_or (pt_not (pt_val (pe_callB call_isi rfl T.m_isinstance (by decide +kernel) (pa_cons (pv 0) (pa_cons (pe_bltn (v := .ty "str") (u := .type "str") rfl T.m_str (by decide +kernel) rfl) pa_nil))))) (pw_or1 (pt_not (pt_chain op_le op_le pe_int (pe_callB call_len rfl T.m_len (by decide +kernel) (pa_cons (pv 0) pa_nil)) (pe_glob (v := .int 8) rfl (T.m_MOST_LETTERS).choose_spec ⟨_, rfl⟩)))))) (pss_one (ps_ret pe_bl)) pss_nil)
      (pss_one (ps_ret (pe_callB (cr_all rfl) rfl T.m_all (by decide +kernel) (pa_cons (pe_lc (own := [("sign", 1)]) (g := gName 1) rfl nd (pi_str (pv 0)) (blkOk_by (N := N_is_name) (sc := defScope s_is_name) (by decide +kernel)) (fun _ _ _ _ _ => (pg_name (i := 1) nd rfl (.inl rfl))) (fun _ _ _ _ _ => pts_nil) (fun _ _ _ _ _ => (castE (pe_cmpR op_in_sign (pv 1) (pe_glob (v := .str "abcdefghijklmnopqrstuvwxyz") rfl (T.m_LETTERS).choose_spec ⟨_, rfl⟩) rfl) (by walk_at "r")))) pa_nil)))))), fun F0 H0 ds hp => ?_⟩)
  walk_at "s"
  obtain ⟨x, rfl, hx⟩ := pre1_inv hp
  show wps _ _ [.d x, .no] _ _
  refine wps_seq (wps_if ?_)
  refine wpt_or (wpt_not (wpt_B (wp_isiB (by decide) (wp_var rfl ⟨hx.noObj, _, rfl, ?_⟩))))
  cases hs : isT "str" x with
  | false =>
    refine ite_t rfl (ite_t rfl (wps_ret (wp_bl ?_)))
    cases x <;> first | rfl | (simp [isT] at hs)
  | true =>
    obtain ⟨s, rfl⟩ := isT_str hs
    refine ite_f rfl (wpt_not (wpt_test (wp_chainI 8 (wp_int rfl) (wp_int (wp_cb (wpa_cons (wp_var rfl (wpa_nil (rc_len (len_str hx.str.1) ⟨1, _, rfl, rfl, _, rfl, ?_⟩)))))))))
    have e0 : (decide ((1 : Int) ≤ (s.length : Nat)) && decide (((s.length : Nat) : Int) ≤ 8)) = (decide (1 ≤ s.length) && decide (s.length ≤ 8)) := by
      congr 1 <;> exact decide_eq_decide.mpr (by omega)
    rw [e0]
    refine ite_b (fun h2 => ?_) (fun h2 => ?_)
    · repeat walk_at "d"
      show D.bl false = D.bl (isNameS s)
      unfold isNameS
      rw [show (decide (1 ≤ s.length) && decide (s.length ≤ 8)) = false from nb_t h2]
      rfl
    · refine wps_next (wps_ret ?_)
      refine wp_allLc (fun d => match d with | .str ⟨⟨[c]⟩⟩ => decide (c ∈ letters.cps.toList) | _ => false) rfl (wpi_str ?_)
      refine wp_var rfl ⟨s, rfl, ?_, fun d a o hd => ?_, ?_⟩
      · rw [List.length_map]; exact hx.str.1
      · obtain ⟨c, hc, rfl⟩ := List.mem_map.mp hd
        exact wp_op (wp_var rfl (wp_glob (fun F => .str _) (r2_inS rfl)))
      · show D.bl _ = D.bl (isNameS s)
        unfold isNameS
        rw [show (decide (1 ≤ s.length) && decide (s.length ≤ 8)) = true from nb_f h2, List.all_map]
        rfl
abbrev sp_are_kinds (K : PySem.W.Frag) : Sp := spP K (pre1 Ok) (post1 fun x r => r = .bl (areKindsD x))
theorem ok_are_kinds (T : Tx K mg) : FnOk P wd K mg base CX0 2 T.f_are_kinds T.d_are_kinds ["thing"] (sp_are_kinds K) := by
  refine fn_P T.F_are_kinds sc_are_kinds (fun ds h => by obtain ⟨_, rfl, _⟩ := pre1_inv h; rfl) (fun cdv A outer s H E hr => ⟨_, (have nd := sc_are_kinds.nd; (pss_cons (ps_if (PW.pt (pw_or (pt_not (pt_val (pe_callB call_isi rfl T.m_isinstance (by decide +kernel) (pa_cons (pv 0) (pa_cons (pe_bltn (v := .ty "tuple") (u := .type "tuple") rfl T.m_tuple (by decide +kernel) rfl) pa_nil))))) (pw_or1 (pt_not (pt_chain op_le op_le pe_int (pe_callB call_len rfl T.m_len (by decide +kernel) (pa_cons (pv 0) pa_nil)) (pe_glob (v := .int 4) rfl (T.m_MOST_KINDS).choose_spec ⟨_, rfl⟩)))))) (pss_one (ps_ret pe_bl)) pss_nil)
      (pss_cons (ps_if (pt_not (pt_val (pe_callB (cr_all rfl) rfl T.m_all (by decide +kernel) (pa_cons (pe_lc (own := [("one", 1)]) (g := gName 1) rfl nd (pi_tup (pv 0)) (blkOk_by (N := N_are_kinds) (sc := defScope s_are_kinds) (by decide +kernel)) (fun _ _ _ _ _ => (pg_name (i := 1) nd rfl (.inl rfl))) (fun _ _ _ _ _ => pts_nil) (fun _ _ _ _ _ => (castE (pe_call (ok_is_name T) (hr.mono (by decide)) rfl T.g_is_name T.F_is_name.kp T.b_is_name .nil pass0 (pa_cons (pv 1) pa_nil)) (by walk_at "r")))) pa_nil)))) (pss_one (ps_ret pe_bl)) pss_nil)
      (pss_one (ps_ret (pe_callB (cr_all rfl) rfl T.m_all (by decide +kernel) (pa_cons (pe_lc (own := [("one", 1), ("other", 2)]) (g := gTup _ 2 (gCons (gName 1) (gCons (gName 2) gNil))) rfl nd (RZ.pi_zipA rfl T.m_zip (pa_cons (pv 0) (pa_cons (pe_slice sl_tupA (pv 0) (po_some pe_int) po_none) pa_nil))) (blkOk_by (N := N_are_kinds) (sc := defScope s_are_kinds) (by decide +kernel)) (fun _ _ _ _ _ => (pg_tup rfl (pgs_cons (pg_name (i := 1) nd rfl (.inl rfl)) (pgs_cons (pg_name (i := 2) nd rfl (.inl rfl)) pgs_nil)))) (fun _ _ _ _ _ => pts_nil) (fun _ _ _ _ _ => (castE (pe_cmpR op_lt_str (pv 1) (pv 2) (nomark _)) (by walk_at "r")))) pa_nil))))))), fun F0 H0 ds hp => ?_⟩)
  walk_at "s"
  obtain ⟨x, rfl, hx⟩ := pre1_inv hp
  show wps _ _ [.d x, .no, .no] _ _
  refine wps_seq (wps_if ?_)
  refine wpt_or (wpt_not (wpt_B (wp_isiB (by decide) (wp_var rfl ⟨hx.noObj, _, rfl, ?_⟩))))
  cases hs : isT "tuple" x with
  | false =>
    refine ite_t rfl (ite_t rfl (wps_ret (wp_bl ?_)))
    cases x <;> first | rfl | (simp [isT] at hs)
  | true =>
    obtain ⟨xs, rfl⟩ := isT_tup hs
    refine ite_f rfl (wpt_not (wpt_test (wp_chainI 4 (wp_int rfl) (wp_int (wp_cb (wpa_cons (wp_var rfl (wpa_nil (rc_len rfl ⟨1, _, rfl, rfl, _, rfl, ?_⟩)))))))))
    have e0 : (decide ((1 : Int) ≤ (xs.length : Nat)) && decide (((xs.length : Nat) : Int) ≤ 4)) = (decide (1 ≤ xs.length) && decide (xs.length ≤ 4)) := by
      congr 1 <;> exact decide_eq_decide.mpr (by omega)
    rw [e0]
    have key : areKindsD (.tup xs) = ((decide (1 ≤ xs.length) && decide (xs.length ≤ 4)) && xs.all isNameD && ascD xs) := rfl
    refine ite_b (fun h2 => ?_) (fun h2 => ?_)
    · repeat walk_at "d"
      show D.bl false = D.bl _
      rw [key, nb_t h2]
      rfl
    · rw [nb_f h2] at key
      refine wps_next (wps_seq (wps_if ?_))
      refine wpt_not (wpt_B ?_)
      refine wp_allLc isNameD rfl (wpi_tup ?_)
      refine wp_var rfl ⟨xs, rfl, hx.tup.1, fun d a o hd => ?_, _, rfl, ?_⟩
      · exact wp_callP (wpa_cons (wp_var rfl (wpa_nil ⟨hx.tup.2 d hd, fun r e => e⟩)))
      · refine ite_b (fun h3 => ?_) (fun h3 => ?_)
        · repeat walk_at "d"
          show D.bl false = D.bl _
          rw [key, nb_t h3]
          rfl
        · rw [nb_f h3] at key
          refine wps_next (wps_ret ?_)
          refine wp_allLc2 ltP rfl rfl (wpi_zipT ?_)
          refine wpa_cons (wp_var rfl (wpa_cons (wp_sl (wp_var rfl (wpo_some (wp_int ⟨1, rfl, wpo_none (rs_tup (wpa_nil ⟨xs, cutD xs (some 1) none, rfl, ?_⟩))⟩))))))
          rw [cut1]
          show (zipD xs (xs.drop 1)).length ≤ 1000000 ∧ (∀ d a o, d ∈ zipD xs (xs.drop 1) → _) ∧ _ = D.bl _
          refine ⟨?_, fun d a o hd => ?_, ?_⟩
          · rw [zipD_len]; have := hx.tup.1; omega
          · obtain ⟨u, v, rfl, hu, hv⟩ := zipD_mem hd
            have ha := List.all_eq_true.mp (nb_f h3)
            obtain ⟨s1, rfl⟩ := name_str (ha u hu)
            obtain ⟨s2, rfl⟩ := name_str (ha v (List.mem_of_mem_drop hv))
            exact ⟨_, _, rfl, wp_op (wp_var rfl (wp_var rfl (r2_lts rfl)))⟩
          · rw [key]
            show D.bl ((zipD xs (xs.drop 1)).all ltP) = D.bl _
            rw [asc_zip (nb_f h3)]
            rfl
abbrev sp_is_state (K : PySem.W.Frag) : Sp := spP K (pre2 fun m x => (∃ n : Int, m = .int n) ∧ Ok x) (post2 fun m x r => ∀ n : Int, m = .int n → r = .bl (isStateD n x))
theorem ok_is_state (T : Tx K mg) : FnOk P wd K mg base CX0 2 T.f_is_state T.d_is_state ["many", "thing"] (sp_is_state K) := by
  refine fn_P T.F_is_state sc_is_state (fun ds h => by obtain ⟨_, _, rfl, _⟩ := pre2_inv h; rfl) (fun cdv A outer s H E hr => ⟨_, (have nd := sc_is_state.nd; (pss_one (ps_ret (pe_and (pe_call (ok_is_integer T) (hr.mono (by decide)) rfl T.g_is_integer T.F_is_integer.kp T.b_is_integer .nil pass0 (pa_cons (pv 1) pa_nil)) (pe_one (pe_chain op_le op_lt pe_int (pv 1) (pv 0))))))), fun F0 H0 ds hp => ?_⟩)
  walk_at "s"
  obtain ⟨m, x, rfl, ⟨n, rfl⟩, hx⟩ := pre2_inv hp
  show wps _ _ [.d (.int n), .d x] _ _
  refine wps_ret (wp_andV (wp_callP (wpa_cons (wp_var rfl (wpa_nil ⟨hx, fun r e => ⟨_, e, ?_⟩⟩)))))
  refine ite_b (fun h => ?_) (fun h => ?_)
  · cases x with
    | int i =>
      refine wp_chainI n (wp_var rfl rfl) (wp_int (wp_var rfl ⟨0, i, rfl, rfl, fun k e => ?_⟩))
      cases e
      rfl
    | _ => cases h
  · intro k e
    cases x with
    | int i => cases h
    | _ => rfl
abbrev sp_is_pair (K : PySem.W.Frag) : Sp := spP K (pre2 fun m x => (∃ n : Int, m = .int n) ∧ Ok x) (post2 fun m x r => ∀ n : Int, m = .int n → r = .bl (isPairD n x))
theorem ok_is_pair (T : Tx K mg) : FnOk P wd K mg base CX0 3 T.f_is_pair T.d_is_pair ["many", "thing"] (sp_is_pair K) := by
  refine fn_P T.F_is_pair sc_is_pair (fun ds h => by obtain ⟨_, _, rfl, _⟩ := pre2_inv h; rfl) (fun cdv A outer s H E hr => ⟨_, (have nd := sc_is_pair.nd; (pss_one (ps_ret (pe_and (pe_callB call_isi rfl T.m_isinstance (by decide +kernel) (pa_cons (pv 1) (pa_cons (pe_bltn (v := .ty "tuple") (u := .type "tuple") rfl T.m_tuple (by decide +kernel) rfl) pa_nil))) (pe_and (pe_cmpR op_eq (pe_callB call_len rfl T.m_len (by decide +kernel) (pa_cons (pv 1) pa_nil)) pe_int (nomark _)) (pe_and (pe_call (ok_is_state T) (hr.mono (by decide)) rfl T.g_is_state T.F_is_state.kp T.b_is_state .nil pass0 (pa_cons (pv 0) (pa_cons (pe_ix ix_tup (pv 1) pe_int (fun _ _ => rfl)) pa_nil))) (pe_one (pe_call (ok_is_integer T) (hr.mono (by decide)) rfl T.g_is_integer T.F_is_integer.kp T.b_is_integer .nil pass0 (pa_cons (pe_ix ix_tup (pv 1) pe_int (fun _ _ => rfl)) pa_nil))))))))), fun F0 H0 ds hp => ?_⟩)
  walk_at "s"
  obtain ⟨m, x, rfl, ⟨n, rfl⟩, hx⟩ := pre2_inv hp
  show wps _ _ [.d (.int n), .d x] _ _
  refine wps_ret (wp_andV (wp_isiB (by decide) (wp_var rfl ⟨hx.noObj, _, rfl, ?_⟩)))
  refine ite_b (fun h => ?_) (fun h => ?_)
  · obtain ⟨xs, rfl⟩ := isT_tup h
    refine wp_andV (wp_op (wp_cb (wpa_cons (wp_var rfl (wpa_nil (rc_len rfl (wp_int (r2_eqI ⟨_, rfl, ?_⟩))))))))
    refine ite_b (fun h2 => ?_) (fun h2 => ?_)
    · have h2' : xs.length = 2 := by have := of_decide_eq_true h2; omega
      match xs, h2', hx with
      | [u, v], _, hx =>
        have hu := hx.tup.2 u (by simp)
        have hv := hx.tup.2 v (by simp)
        refine wp_andV (wp_callP (wpa_cons (wp_var rfl (wpa_cons (wp_op (wp_var rfl (wp_int (r2_ixT rfl (wpa_nil ⟨⟨⟨n, rfl⟩, hu⟩, fun r e => ⟨_, e n rfl, ?_⟩⟩)))))))))
        refine ite_b (fun h3 => ?_) (fun h3 => ?_)
        · refine wp_callP (wpa_cons (wp_op (wp_var rfl (wp_int (r2_ixT rfl (wpa_nil ⟨hv, fun r e => ?_⟩))))))
          intro k ek
          cases ek
          rw [show isPairD n (.tup [u, v]) = (isStateD n u && isIntD v) from rfl, h3]
          exact e
        · intro k ek
          cases ek
          rw [show isPairD n (.tup [u, v]) = (isStateD n u && isIntD v) from rfl, h3]
          rfl
    · intro k ek
      cases ek
      match xs, h2 with
      | [], _ => rfl
      | [_], _ => rfl
      | [_, _], h2 => exact absurd rfl (of_decide_eq_false h2)
      | _ :: _ :: _ :: _, _ => rfl
  · intro k e
    cases x <;> first | rfl | (simp [isT] at h)
abbrev sp_are_rows (K : PySem.W.Frag) : Sp := spP K (pre2 fun m x => (∃ n : Int, m = .int n) ∧ Ok x) (post2 fun m x r => ∀ n : Int, m = .int n → r = .bl (areRowsD n x))
theorem ok_are_rows (T : Tx K mg) : FnOk P wd K mg base CX0 4 T.f_are_rows T.d_are_rows ["size", "thing"] (sp_are_rows K) := by
  refine fn_P T.F_are_rows sc_are_rows (fun ds h => by obtain ⟨_, _, rfl, _⟩ := pre2_inv h; rfl) (fun cdv A outer s H E hr => ⟨_, (have nd := sc_are_rows.nd; (pss_cons (ps_if (PW.pt (pw_or (pt_not (pt_val (pe_callB call_isi rfl T.m_isinstance (by decide +kernel) (pa_cons (pv 1) (pa_cons (pe_bltn (v := .ty "tuple") (u := .type "tuple") rfl T.m_tuple (by decide +kernel) rfl) pa_nil))))) (pw_or1 (pt_cmpR (op_eqD hr.units) (pv 1) (pe_tup pa_nil) (nomark _))))) (pss_one (ps_ret pe_bl)) pss_nil)
      (pss_cons (ps_if (pt_not (pt_val (pe_callB (cr_all rfl) rfl T.m_all (by decide +kernel) (pa_cons (pe_lc (own := [("row", 2)]) (g := gName 2) rfl nd (pi_tup (pv 1)) (blkOk_by (N := N_are_rows) (sc := defScope s_are_rows) (by decide +kernel)) (fun _ _ _ _ _ => (pg_name (i := 2) nd rfl (.inl rfl))) (fun _ _ _ _ _ => pts_nil) (fun _ _ _ _ _ => (castE (pe_and (pe_callB call_isi rfl T.m_isinstance (by decide +kernel) (pa_cons (pv 2) (pa_cons (pe_bltn (v := .ty "tuple") (u := .type "tuple") rfl T.m_tuple (by decide +kernel) rfl) pa_nil))) (pe_one (pe_cmpR op_eq (pe_callB call_len rfl T.m_len (by decide +kernel) (pa_cons (pv 2) pa_nil)) (pv 0) (nomark _)))) (by walk_at "r")))) pa_nil)))) (pss_one (ps_ret pe_bl)) pss_nil)
      (pss_one (ps_ret (pe_callB (cr_all rfl) rfl T.m_all (by decide +kernel) (pa_cons (pe_lc (own := [("row", 2)]) (g := gName 2) rfl nd (pi_tup (pv 1)) (blkOk_by (N := N_are_rows) (sc := defScope s_are_rows) (by decide +kernel)) (fun _ _ _ _ _ => (pg_name (i := 2) nd rfl (.inl rfl))) (fun _ _ _ _ _ => pts_nil) (fun _ _ _ _ _ => (castE (pe_callB (cr_all rfl) rfl T.m_all (by decide +kernel) (pa_cons (pe_lc (own := [("pair", 3)]) (g := gName 3) rfl nd (pi_tup (pv 2)) (blkOk_by (N := N_are_rows) (by walk_at "k")) (fun _ _ _ _ _ => (pg_name (i := 3) nd rfl (.inl rfl))) (fun _ _ _ _ _ => pts_nil) (fun _ _ _ _ _ => (castE (pe_call (ok_is_pair T) (hr.mono (by decide)) rfl T.g_is_pair T.F_is_pair.kp T.b_is_pair .nil pass0 (pa_cons (pe_callB call_len rfl T.m_len (by decide +kernel) (pa_cons (pv 1) pa_nil)) (pa_cons (pv 3) pa_nil))) (by walk_at "r")))) pa_nil)) (by walk_at "r")))) pa_nil))))))), fun F0 H0 ds hp => ?_⟩)
  walk_at "s"
  obtain ⟨m, x, rfl, ⟨n, rfl⟩, hx⟩ := pre2_inv hp
  show wps _ _ [.d (.int n), .d x, .no, .no] _ _
  refine wps_seq (wps_if ?_)
  refine wpt_or (wpt_not (wpt_B (wp_isiB (by decide) (wp_var rfl ⟨hx.noObj, _, rfl, ?_⟩))))
  cases hs : isT "tuple" x with
  | false =>
    refine ite_t rfl (ite_t rfl (wps_ret (wp_bl fun k e => ?_)))
    cases x <;> first | rfl | (simp [isT] at hs)
  | true =>
    obtain ⟨xs, rfl⟩ := isT_tup hs
    have key := areRows_tup n xs
    refine ite_f rfl (wpt_test (wp_op (wp_var rfl (wp_tup (wpa_nil ⟨by decide, r2_eqD hx.cmp ok_nil.cmp ⟨_, rfl, ?_⟩⟩)))))
    rw [eqv_nil]
    refine ite_b (fun h2 => wps_ret (wp_bl fun k e => ?_)) (fun h2 => ?_)
    · cases e
      rw [key, h2]
      rfl
    · rw [h2] at key
      refine wps_next (wps_seq (wps_if (wpt_not (wpt_B ?_))))
      refine wp_allLc (isRow1 n) rfl (wpi_tup ?_)
      refine wp_var rfl ⟨xs, rfl, hx.tup.1, fun d a o hd => ?_, _, rfl, ?_⟩
      · refine wp_andV (wp_isiB (by decide) (wp_var rfl ⟨(hx.tup.2 d hd).noObj, _, rfl, ?_⟩))
        refine ite_b (fun h => ?_) (fun h => ?_)
        · obtain ⟨ys, rfl⟩ := isT_tup h
          exact wp_op (wp_cb (wpa_cons (wp_var rfl (wpa_nil (rc_len rfl (wp_var rfl (r2_eqI rfl)))))))
        · cases d <;> first | rfl | (simp [isT] at h)
      · refine ite_b (fun h3 => ?_) (fun h3 => ?_)
        · refine wps_ret (wp_bl fun k e => ?_)
          cases e
          rw [key, nb_t h3]
          rfl
        · rw [nb_f h3] at key
          refine wps_next (wps_ret ?_)
          refine wp_allLc (isRow2 xs.length) rfl (wpi_tup ?_)
          refine wp_var rfl ⟨xs, rfl, hx.tup.1, fun d a o hd => ?_, fun k e => ?_⟩
          · have hr1 := List.all_eq_true.mp (nb_f h3) d hd
            have hdo := hx.tup.2 d hd
            cases d with
            | tup ys =>
              refine wp_allLc (isPairD xs.length) rfl (wpi_tup ?_)
              refine wp_var rfl ⟨ys, rfl, hdo.tup.1, fun q a o hq => ?_, rfl⟩
              exact wp_callP (wpa_cons (wp_cb (wpa_cons (wp_var rfl (wpa_nil (rc_len rfl (wpa_cons (wp_var rfl (wpa_nil ⟨⟨⟨_, rfl⟩, hdo.tup.2 q hq⟩, fun r e => e _ rfl⟩)))))))))
            | _ => cases hr1
          · cases e
            rw [key]
            rfl
abbrev sp_is_pass (K : PySem.W.Frag) : Sp := spP K (pre3 fun m b x => (∃ n : Int, m = .int n) ∧ (∃ n : Int, b = .int n) ∧ Ok x) (post3 fun m b x r => ∀ n k : Int, m = .int n → b = .int k → r = .bl (isPassD n k x))
theorem ok_is_pass (T : Tx K mg) : FnOk P wd K mg base CX0 5 T.f_is_pass T.d_is_pass ["size", "begins", "thing"] (sp_is_pass K) := by
  refine fn_P T.F_is_pass sc_is_pass (fun ds h => by obtain ⟨_, _, _, rfl, _⟩ := pre3_inv h; rfl) (fun cdv A outer s H E hr => ⟨_, (have nd := sc_is_pass.nd; (pss_cons (ps_if (PW.pt (pw_or (pt_not (pt_val (pe_callB call_isi rfl T.m_isinstance (by decide +kernel) (pa_cons (pv 2) (pa_cons (pe_bltn (v := .ty "tuple") (u := .type "tuple") rfl T.m_tuple (by decide +kernel) rfl) pa_nil))))) (pw_or (pt_cmpR op_ne (pe_callB call_len rfl T.m_len (by decide +kernel) (pa_cons (pv 2) pa_nil)) pe_int (nomark _)) (pw_or1 (pt_not (pt_val (pe_call (ok_are_rows T) (hr.mono (by decide)) rfl T.g_are_rows T.F_are_rows.kp T.b_are_rows .nil pass0 (pa_cons (pv 0) (pa_cons (pe_ix ix_tup (pv 2) pe_int (fun _ _ => rfl)) pa_nil))))))))) (pss_one (ps_ret pe_bl)) pss_nil)
      (pss_cons (ps_if (PW.pt (pw_or (pt_not (pt_val (pe_callB call_isi rfl T.m_isinstance (by decide +kernel) (pa_cons (pe_ix ix_tup (pv 2) pe_int (fun _ _ => rfl)) (pa_cons (pe_bltn (v := .ty "tuple") (u := .type "tuple") rfl T.m_tuple (by decide +kernel) rfl) pa_nil))))) (pw_or1 (pt_cmpR op_ne (pe_callB call_len rfl T.m_len (by decide +kernel) (pa_cons (pe_ix ix_tup (pv 2) pe_int (fun _ _ => rfl)) pa_nil)) (pv 1) (nomark _))))) (pss_one (ps_ret pe_bl)) pss_nil)
      (pss_one (ps_ret (pe_callB (cr_all rfl) rfl T.m_all (by decide +kernel) (pa_cons (pe_lc (own := [("state", 3)]) (g := gName 3) rfl nd (pi_tup (pe_ix ix_tup (pv 2) pe_int (fun _ _ => rfl))) (blkOk_by (N := N_is_pass) (sc := defScope s_is_pass) (by decide +kernel)) (fun _ _ _ _ _ => (pg_name (i := 3) nd rfl (.inl rfl))) (fun _ _ _ _ _ => pts_nil) (fun _ _ _ _ _ => (castE (pe_call (ok_is_state T) (hr.mono (by decide)) rfl T.g_is_state T.F_is_state.kp T.b_is_state .nil pass0 (pa_cons (pe_callB call_len rfl T.m_len (by decide +kernel) (pa_cons (pe_ix ix_tup (pv 2) pe_int (fun _ _ => rfl)) pa_nil)) (pa_cons (pv 3) pa_nil))) (by walk_at "r")))) pa_nil))))))), fun F0 H0 ds hp => ?_⟩)
  walk_at "s"
  obtain ⟨m, b, x, rfl, ⟨n, rfl⟩, ⟨k, rfl⟩, hx⟩ := pre3_inv hp
  show wps _ _ [.d (.int n), .d (.int k), .d x, .no] _ _
  refine wps_seq (wps_if ?_)
  refine wpt_or (wpt_not (wpt_B (wp_isiB (by decide) (wp_var rfl ⟨hx.noObj, _, rfl, ?_⟩))))
  cases hs : isT "tuple" x with
  | false =>
    refine ite_t rfl (ite_t rfl (wps_ret (wp_bl fun k e => ?_)))
    cases x <;> first | (exact fun _ _ => rfl) | (simp [isT] at hs)
  | true =>
    obtain ⟨xs, rfl⟩ := isT_tup hs
    refine ite_f rfl (wpt_or (wpt_test (wp_op (wp_cb (wpa_cons (wp_var rfl (wpa_nil (rc_len rfl (wp_int (r2_neI ⟨_, rfl, ?_⟩)))))))))) 
    refine ite_b (fun h2 => ?_) (fun h2 => ?_)
    · refine ite_t rfl (wps_ret (wp_bl fun a b e1 e2 => ?_))
      have h2' : ¬ (xs.length : Int) = 2 := of_decide_eq_false (nb_t h2)
      match xs, h2' with
      | [], _ => rfl
      | [_], _ => exact congrArg D.bl (pass_short (by simp)).symm
      | [_, _], h2' => exact absurd rfl h2'
      | _ :: _ :: _ :: _, _ => exact congrArg D.bl (pass_short (by simp)).symm
    · have h2' : xs.length = 2 := by have := of_decide_eq_true (nb_f h2); omega
      match xs, h2', hx with
      | [u, v], _, hx =>
        have hu := hx.tup.2 u (by simp)
        have hv := hx.tup.2 v (by simp)
        refine wpt_not (wpt_B (wp_callP (wpa_cons (wp_var rfl (wpa_cons (wp_op (wp_var rfl (wp_int (r2_ixT rfl (wpa_nil ⟨⟨⟨n, rfl⟩, hv⟩, fun r e => ⟨_, e n rfl, ?_⟩⟩))))))))))
        refine ite_b (fun h3 => ?_) (fun h3 => ?_)
        · refine wps_ret (wp_bl fun a b e1 e2 => ?_)
          cases e1
          cases e2
          cases u with
          | tup us => show D.bl false = D.bl (areRowsD n v && _ && _); rw [nb_t h3]; rfl
          | _ => rfl
        · obtain ⟨rows, rfl⟩ := rows_tup (nb_f h3)
          refine wps_next (wps_seq (wps_if ?_))
          refine wpt_or (wpt_not (wpt_B (wp_isiB (by decide) (wp_op (wp_var rfl (wp_int (r2_ixT rfl ⟨hu.noObj, _, rfl, ?_⟩)))))))
          cases hs2 : isT "tuple" u with
          | false =>
            refine ite_t rfl (ite_t rfl (wps_ret (wp_bl fun k e _ _ => ?_)))
            cases u <;> first | rfl | (simp [isT] at hs2)
          | true =>
            obtain ⟨us, rfl⟩ := isT_tup hs2
            have key : isPassD n k (.tup [.tup us, .tup rows]) = (areRowsD n (.tup rows) && decide ((us.length : Int) = k) && us.all (isStateD rows.length)) := rfl
            rw [nb_f h3] at key
            refine ite_f rfl (wpt_test (wp_op (wp_cb (wpa_cons (wp_op (wp_var rfl (wp_int (r2_ixT rfl (wpa_nil (rc_len rfl (wp_var rfl (r2_neI ⟨_, rfl, ?_⟩))))))))))))
            refine ite_b (fun h4 => ?_) (fun h4 => ?_)
            · refine wps_ret (wp_bl fun a b e1 e2 => ?_)
              cases e1
              cases e2
              rw [key, nb_t h4]
              rfl
            · rw [nb_f h4] at key
              refine wps_next (wps_ret ?_)
              refine wp_allLc (isStateD rows.length) rfl (wpi_tup ?_)
              refine wp_op (wp_var rfl (wp_int (r2_ixT rfl ⟨us, rfl, hu.tup.1, fun q a o hq => ?_, fun a b e1 e2 => ?_⟩)))
              · exact wp_callP (wpa_cons (wp_cb (wpa_cons (wp_op (wp_var rfl (wp_int (r2_ixT rfl (wpa_nil (rc_len rfl (wpa_cons (wp_var rfl (wpa_nil ⟨⟨⟨_, rfl⟩, hu.tup.2 q hq⟩, fun r e => e _ rfl⟩))))))))))))
              · cases e1
                cases e2
                rw [key]
                rfl
abbrev sp_are_passes (K : PySem.W.Frag) : Sp := spP K (pre2 fun m x => (∃ n : Int, m = .int n) ∧ Ok x) (post2 fun m x r => ∀ n : Int, m = .int n → r = .bl (arePassesD n x))
theorem ok_are_passes (T : Tx K mg) : FnOk P wd K mg base CX0 6 T.f_are_passes T.d_are_passes ["size", "thing"] (sp_are_passes K) := by
  refine fn_P T.F_are_passes sc_are_passes (fun ds h => by obtain ⟨_, _, rfl, _⟩ := pre2_inv h; rfl) (fun cdv A outer s H E hr => ⟨_, (have nd := sc_are_passes.nd; (pss_cons (ps_if (PW.pt (pw_or (pt_not (pt_val (pe_callB call_isi rfl T.m_isinstance (by decide +kernel) (pa_cons (pv 1) (pa_cons (pe_bltn (v := .ty "tuple") (u := .type "tuple") rfl T.m_tuple (by decide +kernel) rfl) pa_nil))))) (pw_or (pt_not (pt_chain op_le op_le pe_int (pe_callB call_len rfl T.m_len (by decide +kernel) (pa_cons (pv 1) pa_nil)) (pe_glob (v := .int 2) rfl (T.m_MOST_PASSES).choose_spec ⟨_, rfl⟩))) (pw_or1 (pt_not (pt_val (pe_call (ok_is_pass T) (hr.mono (by decide)) rfl T.g_is_pass T.F_is_pass.kp T.b_is_pass .nil pass0 (pa_cons (pv 0) (pa_cons pe_int (pa_cons (pe_ix ix_tup (pv 1) pe_int (fun _ _ => rfl)) pa_nil)))))))))) (pss_one (ps_ret pe_bl)) pss_nil)
      (pss_one (ps_ret (pe_callB (cr_all rfl) rfl T.m_all (by decide +kernel) (pa_cons (pe_lc (own := [("one", 2)]) (g := gName 2) rfl nd (pi_tup (pe_slice sl_tupA (pv 1) (po_some pe_int) po_none)) (blkOk_by (N := N_are_passes) (sc := defScope s_are_passes) (by decide +kernel)) (fun _ _ _ _ _ => (pg_name (i := 2) nd rfl (.inl rfl))) (fun _ _ _ _ _ => pts_nil) (fun _ _ _ _ _ => (castE (pe_call (ok_is_pass T) (hr.mono (by decide)) rfl T.g_is_pass T.F_is_pass.kp T.b_is_pass .nil pass0 (pa_cons (pv 0) (pa_cons (pe_callB call_len rfl T.m_len (by decide +kernel) (pa_cons (pe_ix ix_tup (pe_ix ix_tup (pv 1) pe_int (fun _ _ => rfl)) pe_int (fun _ _ => rfl)) pa_nil)) (pa_cons (pv 2) pa_nil)))) (by walk_at "r")))) pa_nil)))))), fun F0 H0 ds hp => ?_⟩)
  walk_at "s"
  obtain ⟨m, x, rfl, ⟨n, rfl⟩, hx⟩ := pre2_inv hp
  show wps _ _ [.d (.int n), .d x, .no] _ _
  refine wps_seq (wps_if ?_)
  refine wpt_or (wpt_not (wpt_B (wp_isiB (by decide) (wp_var rfl ⟨hx.noObj, _, rfl, ?_⟩))))
  cases hs : isT "tuple" x with
  | false =>
    refine ite_t rfl (ite_t rfl (wps_ret (wp_bl fun k e => ?_)))
    cases x <;> first | rfl | (simp [isT] at hs)
  | true =>
    obtain ⟨xs, rfl⟩ := isT_tup hs
    refine ite_f rfl (wpt_or (wpt_not (wpt_test (wp_chainI 2 (wp_glob (fun F => .int _) rfl) (wp_int (wp_cb (wpa_cons (wp_var rfl (wpa_nil (rc_len rfl ⟨1, _, rfl, rfl, _, rfl, ?_⟩))))))))))
    have e0 : (decide ((1 : Int) ≤ (xs.length : Nat)) && decide (((xs.length : Nat) : Int) ≤ 2)) = (decide (1 ≤ xs.length) && decide (xs.length ≤ 2)) := by
      congr 1 <;> exact decide_eq_decide.mpr (by omega)
    rw [e0]
    refine ite_b (fun h2 => ?_) (fun h2 => ?_)
    · refine ite_t rfl (wps_ret (wp_bl fun a e1 => ?_))
      have := nb_t h2
      match xs, this with
      | [], _ => rfl
      | [_], h => simp at h
      | [_, _], h => simp at h
      | _ :: _ :: _ :: _, _ => rfl
    · have h2' := nb_f h2
      match xs, h2', hx with
      | [], h, _ => exact absurd h (by decide)
      | p :: ps, h, hx =>
        have hl : ps.length ≤ 1 := by simpa using h
        have hu := hx.tup.2 p (by simp)
        have key : arePassesD n (.tup (p :: ps)) = (decide (ps.length ≤ 1) && isPassD n 1 p && ps.all (isPassD n (lenT (rowsOf p)))) := rfl
        rw [decide_eq_true hl] at key
        refine wpt_not (wpt_B (wp_callP (wpa_cons (wp_var rfl (wpa_cons (wp_int (wpa_cons (wp_op (wp_var rfl (wp_int (r2_ixT (at0 _ _) (wpa_nil ⟨⟨⟨n, rfl⟩, ⟨1, rfl⟩, hu⟩, fun r e => ⟨_, e n 1 rfl rfl, ?_⟩⟩))))))))))))
        refine ite_b (fun h3 => ?_) (fun h3 => ?_)
        · refine wps_ret (wp_bl fun a e1 => ?_)
          cases e1
          rw [key, nb_t h3]
          rfl
        · rw [nb_f h3] at key
          refine wps_next (wps_ret ?_)
          obtain ⟨bs, rows, rfl, _⟩ := pass_form (nb_f h3)
          refine wp_allLc (isPassD n rows.length) rfl (wpi_tup ?_)
          refine wp_sl (wp_var rfl (wpo_some (wp_int ⟨1, rfl, wpo_none (rs_tup ?_)⟩)))
          rw [cut1, List.drop_one, List.tail_cons]
          refine ⟨ps, rfl, by omega, fun q a o hq => ?_, fun a e1 => ?_⟩
          · refine wp_callP (wpa_cons (wp_var rfl (wpa_cons (wp_cb (wpa_cons (wp_op (wp_op (wp_var rfl (wp_int (r2_ixT (at0 _ _) (wp_int (r2_ixT rfl ?_))))))))))))
            exact wpa_nil (rc_len rfl (wpa_cons (wp_var rfl (wpa_nil ⟨⟨⟨_, rfl⟩, ⟨_, rfl⟩, hx.tup.2 q (by simp [hq])⟩, fun r e => e _ _ rfl rfl⟩))))
          · cases e1
            rw [key]
            rfl
abbrev sp_is_tell (K : PySem.W.Frag) : Sp := spP K (pre1 Ok) (post1 fun x r => r = .bl (isTellD x))
theorem ok_is_tell (T : Tx K mg) : FnOk P wd K mg base CX0 2 T.f_is_tell T.d_is_tell ["thing"] (sp_is_tell K) := by
  refine fn_P T.F_is_tell sc_is_tell (fun ds h => by obtain ⟨_, rfl, _⟩ := pre1_inv h; rfl) (fun cdv A outer s H E hr => ⟨_, (have nd := sc_is_tell.nd; (pss_one (ps_ret (pe_and (pe_callB call_isi rfl T.m_isinstance (by decide +kernel) (pa_cons (pv 0) (pa_cons (pe_bltn (v := .ty "tuple") (u := .type "tuple") rfl T.m_tuple (by decide +kernel) rfl) pa_nil))) (pe_and (pe_cmpR op_eq (pe_callB call_len rfl T.m_len (by decide +kernel) (pa_cons (pv 0) pa_nil)) pe_int (nomark _)) (pe_and (pe_call (ok_is_name T) (hr.mono (by decide)) rfl T.g_is_name T.F_is_name.kp T.b_is_name .nil pass0 (pa_cons (pe_ix ix_tup (pv 0) pe_int (fun _ _ => rfl)) pa_nil)) (pe_one (pe_call (ok_is_integer T) (hr.mono (by decide)) rfl T.g_is_integer T.F_is_integer.kp T.b_is_integer .nil pass0 (pa_cons (pe_ix ix_tup (pv 0) pe_int (fun _ _ => rfl)) pa_nil))))))))), fun F0 H0 ds hp => ?_⟩)
  walk_at "s"
  obtain ⟨x, rfl, hx⟩ := pre1_inv hp
  show wps _ _ [.d x] _ _
  refine wps_ret (wp_andV (wp_isiB (by decide) (wp_var rfl ⟨hx.noObj, _, rfl, ?_⟩)))
  refine ite_b (fun h => ?_) (fun h => ?_)
  · obtain ⟨xs, rfl⟩ := isT_tup h
    refine wp_andV (wp_op (wp_cb (wpa_cons (wp_var rfl (wpa_nil (rc_len rfl (wp_int (r2_eqI ⟨_, rfl, ?_⟩))))))))
    refine ite_b (fun h2 => ?_) (fun h2 => ?_)
    · have h2' : xs.length = 2 := by have := of_decide_eq_true h2; omega
      match xs, h2', hx with
      | [u, v], _, hx =>
        have hu := hx.tup.2 u (by simp)
        have hv := hx.tup.2 v (by simp)
        refine wp_andV (wp_callP (wpa_cons (wp_op (wp_var rfl (wp_int (r2_ixT rfl (wpa_nil ⟨hu, fun r e => ⟨_, e, ?_⟩⟩)))))))
        refine ite_b (fun h3 => ?_) (fun h3 => ?_)
        · refine wp_callP (wpa_cons (wp_op (wp_var rfl (wp_int (r2_ixT rfl (wpa_nil ⟨hv, fun r e => ?_⟩))))))
          show r = D.bl (isNameD u && isIntD v)
          rw [h3]
          exact e
        · show D.bl false = D.bl (isNameD u && isIntD v)
          rw [h3]
          rfl
    · match xs, h2 with
      | [], _ => rfl
      | [_], _ => rfl
      | [_, _], h2 => exact absurd rfl (of_decide_eq_false h2)
      | _ :: _ :: _ :: _, _ => rfl
  · cases x <;> first | rfl | (simp [isT] at h)
end Sd
set_option Elab.async false
set_option linter.all false
set_option maxRecDepth 100000
set_option maxHeartbeats 4000000
namespace Sd
open PySem PySem.Spec L2
local macro_rules | `(tactic| walk_at "r") => `(tactic| (first | (dsimp only [cxOf, Cx.nox, Cx.wish, Cx.blk]; done) | (dsimp only [cxOf, Cx.nox, Cx.wish, Cx.blk]; rfl) | rfl))
local macro_rules | `(tactic| walk_at "k") => `(tactic| kernel_rfl)
local macro_rules | `(tactic| walk_at "s") => `(tactic| try dsimp only [cxOf, List.map_cons, List.map_nil])
local macro_rules | `(tactic| walk_at "d") => `(tactic| first
  | (with_reducible refine wps_seq ?_)
  | (with_reducible refine wps_ret ?_)
  | (with_reducible refine wps_if ?_)
  | (with_reducible refine wps_next ?_)
  | (with_reducible refine wps_drop ?_)
  | (with_reducible refine wpt_test ?_)
  | (with_reducible refine wpt_B ?_)
  | (with_reducible refine wpt_not ?_)
  | (with_reducible refine wpt_or ?_)
  | (with_reducible refine wpt_and ?_)
  | (with_reducible refine wp_andV ?_)
  | (with_reducible refine wp_orV ?_)
  | (with_reducible refine wp_notV ?_)
  | (refine wp_isiB (by decide) ?_)
  | (with_reducible refine wp_chain ?_)
  | (with_reducible refine wp_op ?_)
  | (with_reducible refine wp_tup ?_)
  | (with_reducible refine wpl_lst ?_)
  | (with_reducible refine wp_m1 ?_)
  | (with_reducible refine wp_m0 ?_)
  | (with_reducible refine wp_cb ?_)
  | (with_reducible refine wpa_cons ?_)
  | (with_reducible refine wpa_nil ?_)
  | (with_reducible refine wp_int ?_)
  | (with_reducible refine wp_str ?_)
  | (with_reducible refine wp_bl ?_)
  | (with_reducible refine wp_non ?_)
  | (refine wp_var rfl ?_)
  | (refine rc_len rfl ?_)
  | (refine r2_ii ?_)
  | (refine r2_ib ?_)
  | (refine ⟨_, rfl, ?_⟩))
variable {P : Program} {wd : World} {mg : Str → Option Value} {base : Heap} {K : PySem.W.Frag}
abbrev sp_Program_init {K : PySem.W.Frag} {mg : Str → Option Value} (T : Tx K mg) : Sp := spO K (obP K T.a_Program) (fun s ds => s = ([], []) ∧ pre3 ProgOk ds) (fun s ds d s' => d = .non ∧ s' = (pf, ds))
theorem ok_Program_init (T : Tx K mg) : FnOk P wd K mg base CX0 7 T.f_Program_init T.d_Program_init ["self", "kinds", "passes", "tells"] (sp_Program_init T) := by
  refine fn_O obP_at T.F_Program_init sc_Program_init (fun s ds h => by have h := h.2; obtain ⟨_, _, _, rfl, _⟩ := pre3_inv h; rfl) (fun cdv A outer s H E hr => ⟨_, (have nd := sc_Program_init.nd; (pss_cons (ps_if (pt_not (pt_val (pe_call (ok_are_kinds T) (hr.mono (by decide)) rfl T.g_are_kinds T.F_are_kinds.kp T.b_are_kinds .nil pass0 (pa_cons (pv 1) pa_nil)))) (pss_one ps_never) pss_nil)
      (pss_cons (ps_if (pt_not (pt_val (pe_call (ok_are_passes T) (hr.mono (by decide)) rfl T.g_are_passes T.F_are_passes.kp T.b_are_passes .nil pass0 (pa_cons (pe_callB call_len rfl T.m_len (by decide +kernel) (pa_cons (pv 1) pa_nil)) (pa_cons (pv 2) pa_nil))))) (pss_one ps_never) pss_nil)
      (pss_cons (ps_if (PW.pt (pw_or (pt_not (pt_val (pe_callB call_isi rfl T.m_isinstance (by decide +kernel) (pa_cons (pv 3) (pa_cons (pe_bltn (v := .ty "tuple") (u := .type "tuple") rfl T.m_tuple (by decide +kernel) rfl) pa_nil))))) (pw_or (pt_cmpR op_ne (pe_callB call_len rfl T.m_len (by decide +kernel) (pa_cons (pv 3) pa_nil)) (pe_callB call_len rfl T.m_len (by decide +kernel) (pa_cons (pe_ix ix_tup (pe_ix ix_tup (pv 2) (pe_un un_neg pe_int) (fun _ _ => rfl)) pe_int (fun _ _ => rfl)) pa_nil)) (nomark _)) (pw_or1 (pt_not (pt_val (pe_callB (cr_all rfl) rfl T.m_all (by decide +kernel) (pa_cons (pe_lc (own := [("one", 4)]) (g := gName 4) rfl nd (pi_tup (pv 3)) (blkOk_by (N := N_Program_init) (sc := defScope s_Program_init) (by decide +kernel)) (fun _ _ _ _ _ => (pg_name (i := 4) nd rfl (.inl rfl))) (fun _ _ _ _ _ => pts_nil) (fun _ _ _ _ _ => (castE (pe_call (ok_is_tell T) (hr.mono (by decide)) rfl T.g_is_tell T.F_is_tell.kp T.b_is_tell .nil pass0 (pa_cons (pv 4) pa_nil)) (by walk_at "r")))) pa_nil)))))))) (pss_one ps_never) pss_nil)
      (pss_cons (ps_fld (pv 0) (pv 1) rfl)
      (pss_cons (ps_fld (pv 0) (pv 2) rfl)
      (pss_one (ps_fld (pv 0) (pv 3) rfl)))))))), fun F0 H0 O a s ds hp => ?_⟩)
  walk_at "s"
  obtain ⟨rfl, hp⟩ := hp
  obtain ⟨k, p, t, rfl, hv⟩ := pre3_inv hp
  show wps _ _ [.o (obP K T.a_Program a ([], [])), .d k, .d p, .d t, .no] _ _
  have kf : ∃ ks, k = .tup ks := by
    have := hv.hk
    cases k <;> first | exact ⟨_, rfl⟩ | cases this
  obtain ⟨ks, rfl⟩ := kf
  refine wps_seq (wps_ifD false ?_ (fun h => nomatch h) (fun _ => ?_))
  · refine wpt_notD (b := true) (wpt_B (wp_callP (wpa_cons (wp_var rfl (wpa_nil ⟨hv.ok, fun r e => ⟨_, e, ?_⟩⟩)))))
    exact hv.hk
  refine wps_next (wps_seq (wps_ifD false ?_ (fun h => nomatch h) (fun _ => ?_)))
  · refine wpt_notD (b := true) (wpt_B (wp_callP (wpa_cons (wp_cb (wpa_cons (wp_var rfl (wpa_nil (rc_len rfl (wpa_cons (wp_var rfl (wpa_nil ⟨⟨⟨_, rfl⟩, hv.op⟩, fun r e => ⟨_, e _ rfl, ?_⟩⟩)))))))))))
    exact hv.hp
  obtain ⟨xs, bs, rows, rfl, e1, e2, b, e3⟩ := passes_last hv.hp
  have ht := hv.ht
  obtain ⟨ts, rfl⟩ : ∃ ts, t = .tup ts := by cases t <;> first | exact ⟨_, rfl⟩ | cases ht
  have ht' : (decide (ts.length = lenT (rowsOf (lastD (.tup xs)))) && ts.all isTellD) = true := ht
  rw [e2] at ht'
  have hl : ts.length = rows.length := of_decide_eq_true (Bool.and_eq_true_iff.mp ht').1
  have ha := (Bool.and_eq_true_iff.mp ht').2
  refine wps_next (wps_seq (wps_ifD false ?_ (fun h => nomatch h) (fun _ => ?_)))
  · refine wpt_orD (b := false) (c := false) ?_ fun _ => ?_
    · exact wpt_notD (b := true) (wpt_B (wp_isiB (by decide) (wp_var rfl ⟨rfl, _, rfl, rfl⟩)))
    · refine wpt_orD (b := false) (c := false) ?_ fun _ => ?_
      · refine wpt_test (wp_op (wp_cb (wpa_cons (wp_var rfl (wpa_nil (rc_len rfl ?_))))))
        refine wp_cb (wpa_cons (wp_op (wp_op (wp_var rfl (wp_un (wp_int (ru_ii (r2_ixT e1 (wp_int (r2_ixT rfl ?_))))))))))
        refine wpa_nil (rc_len rfl (r2_neI ⟨_, rfl, ?_⟩))
        rw [hl]
        simp
      · refine wpt_notD (b := true) (wpt_B ?_)
        refine wp_allLc isTellD rfl (wpi_tup ?_)
        refine wp_var rfl ⟨ts, rfl, hv.ot.tup.1, fun d a o hd => ?_, _, rfl, ha⟩
        exact wp_callP (wpa_cons (wp_var rfl (wpa_nil ⟨hv.ot.tup.2 d hd, fun r e => e⟩)))
  refine wps_next (wps_seq (wps_fldN T.c_Program T.n_Program_p_kinds rfl (by decide) (by decide) (wp_var rfl ?_)))
  refine wps_seq (wps_fldN T.c_Program T.n_Program_p_passes rfl (by decide +kernel) (by decide) (wp_var rfl ?_))
  refine wps_fldN T.c_Program T.n_Program_p_tells rfl (by decide +kernel) (by decide) (wp_var rfl ?_)
  exact ⟨_, rfl, rfl, rfl⟩
abbrev sp_Program_kinds {K : PySem.W.Frag} {mg : Str → Option Value} (T : Tx K mg) : Sp := spP K (pre1 fun x => ∃ k p t, x = pgD T.a_Program k p t) (post1 fun x r => ∀ k p t, x = pgD T.a_Program k p t → r = k)
theorem ok_Program_kinds (T : Tx K mg) : FnOk P wd K mg base CX0 1 T.f_Program_kinds T.d_Program_kinds ["self"] (sp_Program_kinds T) := by
  refine fn_P T.F_Program_kinds sc_Program_kinds (fun ds h => by obtain ⟨_, rfl, _⟩ := pre1_inv h; rfl) (fun cdv A outer s H E hr => ⟨_, (have nd := sc_Program_kinds.nd; (pss_one (ps_ret (pe_fld (pv 0) rfl)))), fun F0 H0 ds hp => ?_⟩)
  walk_at "s"
  obtain ⟨x, rfl, k, p, t, rfl⟩ := pre1_inv hp
  show wps _ _ [.d (pgD T.a_Program k p t)] _ _
  refine wps_ret (wp_fld T.c_Program T.n_Program_p_kinds (wp_var rfl ⟨_, _, k, rfl, rfl, fun k2 p2 t2 e => ?_⟩))
  cases e
  rfl
abbrev sp_Program_passes {K : PySem.W.Frag} {mg : Str → Option Value} (T : Tx K mg) : Sp := spP K (pre1 fun x => ∃ k p t, x = pgD T.a_Program k p t) (post1 fun x r => ∀ k p t, x = pgD T.a_Program k p t → r = p)
theorem ok_Program_passes (T : Tx K mg) : FnOk P wd K mg base CX0 1 T.f_Program_passes T.d_Program_passes ["self"] (sp_Program_passes T) := by
  refine fn_P T.F_Program_passes sc_Program_passes (fun ds h => by obtain ⟨_, rfl, _⟩ := pre1_inv h; rfl) (fun cdv A outer s H E hr => ⟨_, (have nd := sc_Program_passes.nd; (pss_one (ps_ret (pe_fld (pv 0) rfl)))), fun F0 H0 ds hp => ?_⟩)
  walk_at "s"
  obtain ⟨x, rfl, k, p, t, rfl⟩ := pre1_inv hp
  show wps _ _ [.d (pgD T.a_Program k p t)] _ _
  refine wps_ret (wp_fld T.c_Program T.n_Program_p_passes (wp_var rfl ⟨_, _, p, rfl, rfl, fun k2 p2 t2 e => ?_⟩))
  cases e
  rfl
abbrev sp_Program_tells {K : PySem.W.Frag} {mg : Str → Option Value} (T : Tx K mg) : Sp := spP K (pre1 fun x => ∃ k p t, x = pgD T.a_Program k p t) (post1 fun x r => ∀ k p t, x = pgD T.a_Program k p t → r = t)
theorem ok_Program_tells (T : Tx K mg) : FnOk P wd K mg base CX0 1 T.f_Program_tells T.d_Program_tells ["self"] (sp_Program_tells T) := by
  refine fn_P T.F_Program_tells sc_Program_tells (fun ds h => by obtain ⟨_, rfl, _⟩ := pre1_inv h; rfl) (fun cdv A outer s H E hr => ⟨_, (have nd := sc_Program_tells.nd; (pss_one (ps_ret (pe_fld (pv 0) rfl)))), fun F0 H0 ds hp => ?_⟩)
  walk_at "s"
  obtain ⟨x, rfl, k, p, t, rfl⟩ := pre1_inv hp
  show wps _ _ [.d (pgD T.a_Program k p t)] _ _
  refine wps_ret (wp_fld T.c_Program T.n_Program_p_tells (wp_var rfl ⟨_, _, t, rfl, rfl, fun k2 p2 t2 e => ?_⟩))
  cases e
  rfl
abbrev sp_Program_parts {K : PySem.W.Frag} {mg : Str → Option Value} (T : Tx K mg) : Sp := spP K (pre1 fun x => ∃ k p t, x = pgD T.a_Program k p t) (post1 fun x r => ∀ k p t, x = pgD T.a_Program k p t → r = .tup [k, p, t])
theorem ok_Program_parts (T : Tx K mg) : FnOk P wd K mg base CX0 1 T.f_Program_parts T.d_Program_parts ["self"] (sp_Program_parts T) := by
  refine fn_P T.F_Program_parts sc_Program_parts (fun ds h => by obtain ⟨_, rfl, _⟩ := pre1_inv h; rfl) (fun cdv A outer s H E hr => ⟨_, (have nd := sc_Program_parts.nd; (pss_one (ps_ret (pe_tup (pa_cons (pe_fld (pv 0) rfl) (pa_cons (pe_fld (pv 0) rfl) (pa_cons (pe_fld (pv 0) rfl) pa_nil))))))), fun F0 H0 ds hp => ?_⟩)
  walk_at "s"
  obtain ⟨x, rfl, k, p, t, rfl⟩ := pre1_inv hp
  show wps _ _ [.d (pgD T.a_Program k p t)] _ _
  refine wps_ret (wp_tup (wpa_cons (wp_fld T.c_Program T.n_Program_p_kinds (wp_var rfl ⟨_, _, k, rfl, rfl, ?_⟩))))
  refine wpa_cons (wp_fld T.c_Program T.n_Program_p_passes (wp_var rfl ⟨_, _, p, rfl, rfl, ?_⟩))
  refine wpa_cons (wp_fld T.c_Program T.n_Program_p_tells (wp_var rfl ⟨_, _, t, rfl, rfl, ?_⟩))
  refine wpa_nil ⟨by simp, fun k2 p2 t2 e => ?_⟩
  cases e
  rfl
abbrev sp_Program_eq {K : PySem.W.Frag} {mg : Str → Option Value} (T : Tx K mg) : Sp := spP K (pre2 fun x y => (∃ k p t, x = pgD T.a_Program k p t ∧ ProgOk k p t) ∧ ∃ k p t, y = pgD T.a_Program k p t ∧ ProgOk k p t) (post2 fun x y r => ∀ k p t k2 p2 t2, x = pgD T.a_Program k p t → y = pgD T.a_Program k2 p2 t2 → r = .bl (eqvD (.tup [k, p, t]) (.tup [k2, p2, t2])))
theorem ok_Program_eq (T : Tx K mg) : FnOk P wd K mg base CX0 2 T.f_Program_eq T.d_Program_eq ["self", "other"] (sp_Program_eq T) := by
  refine fn_P T.F_Program_eq sc_Program_eq (fun ds h => by obtain ⟨_, _, rfl, _⟩ := pre2_inv h; rfl) (fun cdv A outer s H E hr => ⟨_, (have nd := sc_Program_eq.nd; (pss_one (ps_ret (pe_and (pe_callB call_isi rfl T.m_isinstance (by decide +kernel) (pa_cons (pv 1) (pa_cons (pe_glob (v := .ref T.a_Program) rfl T.g_Program rfl) pa_nil))) (pe_one (pe_cmpR (op_eqD hr.units) (pe_meth0 (pv 0) T.c_Program T.M_Program_parts (ok_Program_parts T) (hr.mono (by decide)) T.b_Program_parts .nil pass0) (pe_meth0 (pv 1) T.c_Program T.M_Program_parts (ok_Program_parts T) (hr.mono (by decide)) T.b_Program_parts .nil pass0) (nomark _))))))), fun F0 H0 ds hp => ?_⟩)
  walk_at "s"
  obtain ⟨x, y, rfl, ⟨k, p, t, rfl, hv⟩, k2, p2, t2, rfl, hv2⟩ := pre2_inv hp
  show wps _ _ [.d (pgD T.a_Program k p t), .d (pgD T.a_Program k2 p2 t2)] _ _
  refine wps_ret (wp_andV (wp_isiC (wp_var rfl ⟨fun C ns ds e => by cases e; exact T.i_Program, true, T.self_Program, _, rfl, ite_t rfl ?_⟩)))
  refine wp_op (wp_methP (wp_var rfl ⟨_, _, rfl, by decide +kernel, wpa_nil ⟨⟨_, _, _, rfl⟩, fun r e => ?_⟩⟩))
  refine wp_methP (wp_var rfl ⟨_, _, rfl, by decide +kernel, wpa_nil ⟨⟨_, _, _, rfl⟩, fun r2 e2 => ?_⟩⟩)
  obtain rfl := e _ _ _ rfl
  obtain rfl := e2 _ _ _ rfl
  refine r2_eqD hv.cmp hv2.cmp fun k3 p3 t3 k4 p4 t4 e3 e4 => ?_
  cases e3
  cases e4
  rfl
end Sd
set_option Elab.async false
set_option linter.all false
set_option maxRecDepth 100000
set_option maxHeartbeats 4000000
namespace Sd
open PySem PySem.Spec L2
open SX (S S_len S_cat S_inj)
open TL (numL joinL spl)
local macro_rules | `(tactic| walk_at "r") => `(tactic| (first | (dsimp only [cxOf, Cx.nox, Cx.wish, Cx.blk]; done) | (dsimp only [cxOf, Cx.nox, Cx.wish, Cx.blk]; rfl) | rfl))
local macro_rules | `(tactic| walk_at "k") => `(tactic| kernel_rfl)
local macro_rules | `(tactic| walk_at "s") => `(tactic| try dsimp only [cxOf, List.map_cons, List.map_nil])
local macro_rules | `(tactic| walk_at "d") => `(tactic| first
  | (with_reducible refine wps_seq ?_)
  | (with_reducible refine wps_ret ?_)
  | (with_reducible refine wps_if ?_)
  | (with_reducible refine wps_next ?_)
  | (with_reducible refine wps_drop ?_)
  | (with_reducible refine wpt_test ?_)
  | (with_reducible refine wpt_B ?_)
  | (with_reducible refine wpt_not ?_)
  | (with_reducible refine wpt_or ?_)
  | (with_reducible refine wpt_and ?_)
  | (with_reducible refine wp_andV ?_)
  | (with_reducible refine wp_orV ?_)
  | (with_reducible refine wp_notV ?_)
  | (refine wp_isiB (by decide) ?_)
  | (with_reducible refine wp_chain ?_)
  | (with_reducible refine wp_op ?_)
  | (with_reducible refine wp_tup ?_)
  | (with_reducible refine wpl_lst ?_)
  | (with_reducible refine wp_m1 ?_)
  | (with_reducible refine wp_m0 ?_)
  | (with_reducible refine wp_cb ?_)
  | (with_reducible refine wpa_cons ?_)
  | (with_reducible refine wpa_nil ?_)
  | (with_reducible refine wp_int ?_)
  | (with_reducible refine wp_str ?_)
  | (with_reducible refine wp_bl ?_)
  | (with_reducible refine wp_non ?_)
  | (refine wp_var rfl ?_)
  | (refine rc_len rfl ?_)
  | (refine r2_ii ?_)
  | (refine r2_ib ?_)
  | (refine ⟨_, rfl, ?_⟩))
variable {P : Program} {wd : World} {mg : Str → Option Value} {base : Heap} {K : PySem.W.Frag}
abbrev sp_is_numeral (K : PySem.W.Frag) : Sp := spP K (pre1 fun x => ∃ l : List Nat, x = strD l ∧ l.length ≤ 1000000) (post1 fun x r => ∀ l : List Nat, x = strD l → r = .bl (numC l))
theorem ok_is_numeral (T : Tx K mg) : FnOk P wd K mg base CX0 1 T.f_is_numeral T.d_is_numeral ["word"] (sp_is_numeral K) := by
  refine fn_P T.F_is_numeral sc_is_numeral (fun ds h => by obtain ⟨_, rfl, _⟩ := pre1_inv h; rfl) (fun cdv A outer s H E hr => ⟨_, (have nd := sc_is_numeral.nd; (pss_cons (ps_set (i := 1) nd rfl (.inl rfl) (pe_ifExp (pt_cmpR op_eq (pe_slice sl_str (pv 0) po_none (po_some pe_int)) pe_str (nomark _)) (pe_slice sl_str (pv 0) (po_some pe_int) po_none) (pv 0)))
      (pss_cons (ps_if (PW.pt (pw_or (pt_not (pt_chain op_le op_le pe_int (pe_callB call_len rfl T.m_len (by decide +kernel) (pa_cons (pv 1) pa_nil)) (pe_glob (v := .int 6) rfl (T.m_MOST_DIGITS).choose_spec ⟨_, rfl⟩))) (pw_or1 (pt_not (pt_val (pe_callB (cr_all rfl) rfl T.m_all (by decide +kernel) (pa_cons (pe_lc (own := [("sign", 2)]) (g := gName 2) rfl nd (pi_str (pv 1)) (blkOk_by (N := N_is_numeral) (sc := defScope s_is_numeral) (by decide +kernel)) (fun _ _ _ _ _ => (pg_name (i := 2) nd rfl (.inl rfl))) (fun _ _ _ _ _ => pts_nil) (fun _ _ _ _ _ => (castE (pe_cmpR op_in_sign (pv 2) (pe_glob (v := .str "0123456789") rfl (T.m_DIGITS).choose_spec ⟨_, rfl⟩) rfl) (by walk_at "r")))) pa_nil))))))) (pss_one (ps_ret pe_bl)) pss_nil)
      (pss_one (ps_ret (pe_or (pe_cmpR op_eq (pv 0) pe_str (nomark _)) (pe_one (pe_cmpR op_ne (pe_ix ix_str (pv 1) pe_int (fun _ _ => rfl)) pe_str (nomark _))))))))), fun F0 H0 ds hp => ?_⟩)
  walk_at "s"
  obtain ⟨x, rfl, l, rfl, hl⟩ := pre1_inv hp
  show wps _ _ [.d (strD l), .no, .no] _ _
  have hS : (S l).length ≤ 1000000 := by rw [S_len]; exact hl
  have hal : (absC l).length ≤ 1000000 := by unfold absC; split <;> first | omega | (rw [List.length_drop]; omega)
  have hA : (S (absC l)).length ≤ 1000000 := by rw [S_len]; exact hal
  refine wps_seq (wps_asgV (strD (absC l)) (wp_ifD (decide (l.take 1 = [45])) ?_ (fun h => ?_) (fun h => ?_)) ?_)
  · refine wpt_test (wp_op (wp_sl (wp_var rfl (wpo_none (wpo_some (wp_int ⟨1, rfl, rs_str hS ?_⟩))))))
    rw [show cutS (S l) none (some 1) = S (l.take 1) from cut_to l 1]
    refine wp_str (r2_eqS ⟨_, rfl, ?_⟩)
    rw [show ("-" : Str) = S [45] by decide +kernel]
    exact S_eq
  · refine wp_sl (wp_var rfl (wpo_some (wp_int ⟨1, rfl, wpo_none (rs_str hS ?_)⟩)))
    rw [show cutS (S l) (some 1) none = S (l.drop 1) from cut_from l 1]
    unfold absC
    rw [if_pos (of_decide_eq_true h)]
  · refine wp_var rfl ?_
    unfold absC
    rw [if_neg (of_decide_eq_false h)]
  show wps _ _ [.d (strD l), .d (strD (absC l)), .no] _ _
  have e0 : (decide ((1 : Int) ≤ ((S (absC l)).length : Nat)) && decide ((((S (absC l)).length : Nat) : Int) ≤ 6)) = (decide (1 ≤ (absC l).length) && decide ((absC l).length ≤ 6)) := by
    rw [S_len]
    congr 1 <;> exact decide_eq_decide.mpr (by omega)
  have c1 : wpt ⟨K, F0, H0, [], []⟩ (tTest (tChain (rI0 fun i j => V.bl (decide (i ≤ j))) (rI0 fun i j => V.bl (decide (i ≤ j))) (tC (V.int 1)) (tCB (fun xs H Q => ∃ x n, xs = [x] ∧ LenV K x H n ∧ Q (V.int ↑n) H) (tCons (tVar 1) tNil)) (tC (V.int 6)))) [.d (strD l), .d (strD (absC l)), .no] (fun b => b = (decide (1 ≤ (absC l).length) && decide ((absC l).length ≤ 6))) := by
    exact wpt_test (wp_chainI 6 (wp_glob (fun F => .int _) rfl) (wp_int (wp_cb (wpa_cons (wp_var rfl (wpa_nil (rc_len (len_str hA) ⟨1, _, rfl, rfl, _, rfl, e0⟩)))))))
  have c2 : wp ⟨K, F0, H0, [], []⟩ (tCB (rAll K) (tCons (tLc (iStr (tVar 1)) (gName 2) tYes (tOp (fun x y H Q => ∃ c z, x = V.str { cps := #[c] } ∧ y = V.str z ∧ Q (V.bl (decide (c ∈ z.cps.toList))) H) (tVar 2) (tC (V.str (Str.ofString "0123456789")))) [2]) tNil)) [.d (strD l), .d (strD (absC l)), .no] (fun d => d = .bl ((absC l).all digC)) := by
    refine wp_allLc (fun d => match d with | .str ⟨⟨[c]⟩⟩ => digC c | _ => false) rfl (wpi_str ?_)
    refine wp_var rfl ⟨S (absC l), rfl, ?_, fun d a o hd => ?_, ?_⟩
    · rw [List.length_map]; exact hal
    · obtain ⟨c, hc, rfl⟩ := List.mem_map.mp hd
      refine wp_op (wp_var rfl (wp_glob (fun F => .str _) (r2_inS ?_)))
      exact congrArg D.bl (dig_in c)
    · rw [List.all_map]
      rfl
  have key : numC l = ((decide (1 ≤ (absC l).length) && decide ((absC l).length ≤ 6)) && (absC l).all digC && (decide (l = [48]) || !decide ((absC l).head? = some 48))) := rfl
  refine wps_seq (wps_ifD _ (wpt_orD (wpt_notD c1) fun _ => wpt_notD (wpt_B (c2.imp fun d e => ⟨_, e, rfl⟩))) (fun h => ?_) (fun h => ?_))
  · refine wps_ret (wp_bl fun l2 e => ?_)
    cases e
    rw [key]
    cases h1 : (decide (1 ≤ (absC l).length) && decide ((absC l).length ≤ 6)) with
    | false => rfl
    | true =>
      rw [h1] at h
      rw [nb_t (b := (absC l).all digC) (by simpa using h)]
      rfl
  · rw [show ((decide (1 ≤ (absC l).length) && decide ((absC l).length ≤ 6)) && (absC l).all digC) = true by
      cases h1 : (decide (1 ≤ (absC l).length) && decide ((absC l).length ≤ 6)) <;> cases h2 : (absC l).all digC <;> rw [h1, h2] at h <;> first | rfl | cases h] at key
    refine wps_next (wps_ret (wp_orV (wp_op (wp_var rfl (wp_str (r2_eqS ⟨_, rfl, ?_⟩))))))
    rw [show ("0" : Str) = S [48] by decide +kernel, S_eq]
    refine ite_b (fun h3 => ?_) (fun h3 => ?_)
    · intro l2 e
      cases e
      rw [key, h3]
      rfl
    · have h1 : 1 ≤ (absC l).length := by
        cases h1 : (decide (1 ≤ (absC l).length) && decide ((absC l).length ≤ 6)) with
        | false => rw [h1] at h; cases h
        | true => exact of_decide_eq_true (Bool.and_eq_true_iff.mp h1).1
      obtain ⟨c, r, hc⟩ : ∃ c r, absC l = c :: r := by
        cases e : absC l with
        | nil => rw [e] at h1; exact absurd h1 (by decide)
        | cons c r => exact ⟨c, r, rfl⟩
      refine wp_op (wp_op (wp_var rfl (wp_int (r2_ixS (c := c) hA ?_ (wp_str (r2_neS fun l2 e => ?_))))))
      · show L2.atI (absC l) 0 = some c
        rw [hc]
        exact at0 _ _
      · cases e
        rw [key, h3, hc]
        show D.bl (!decide (S [c] = S [48])) = _
        rw [S_eq]
        congr 1
        rw [Bool.true_and, Bool.false_or]
        congr 1
        exact decide_eq_decide.mpr (by simp)
abbrev sp_numbers_in (K : PySem.W.Frag) : Sp := spP K (pre1 fun x => ∃ ws : List (List Nat), x = .lst (ws.map strD) ∧ ws.length ≤ 1000000 ∧ ∀ w ∈ ws, w.length ≤ 1000000) (post1 fun x r => ∀ ws : List (List Nat), x = .lst (ws.map strD) → r = numsD (numsC ws))
theorem ok_numbers_in (T : Tx K mg) : FnOk P wd K mg base CX0 2 T.f_numbers_in T.d_numbers_in ["words"] (sp_numbers_in K) := by
  refine fn_P T.F_numbers_in sc_numbers_in (fun ds h => by obtain ⟨_, rfl, _⟩ := pre1_inv h; rfl) (fun cdv A outer s H E hr => ⟨_, (have nd := sc_numbers_in.nd; (pss_one (ps_ret (pe_ifExp (pt_val (pe_callB (cr_all rfl) rfl T.m_all (by decide +kernel) (pa_cons (pe_lc (own := [("word", 1)]) (g := gName 1) rfl nd (pi_list (pv 0)) (blkOk_by (N := N_numbers_in) (sc := defScope s_numbers_in) (by decide +kernel)) (fun _ _ _ _ _ => (pg_name (i := 1) nd rfl (.inl rfl))) (fun _ _ _ _ _ => pts_nil) (fun _ _ _ _ _ => (castE (pe_call (ok_is_numeral T) (hr.mono (by decide)) rfl T.g_is_numeral T.F_is_numeral.kp T.b_is_numeral .nil pass0 (pa_cons (pv 1) pa_nil)) (by walk_at "r")))) pa_nil))) (pe_callTy call_tuple_of rfl T.m_tuple (by decide +kernel) (pa_cons (pe_lc (own := [("word", 1)]) (g := gName 1) rfl nd (pi_list (pv 0)) (blkOk_by (N := N_numbers_in) (sc := defScope s_numbers_in) (by decide +kernel)) (fun _ _ _ _ _ => (pg_name (i := 1) nd rfl (.inl rfl))) (fun _ _ _ _ _ => pts_nil) (fun _ _ _ _ _ => (castE (pe_callTy call_int_str rfl T.m_int (by decide +kernel) (pa_cons (pv 1) pa_nil)) (by walk_at "r")))) pa_nil)) pe_non)))), fun F0 H0 ds hp => ?_⟩)
  walk_at "s"
  obtain ⟨x, rfl, ws, rfl, hl, hw⟩ := pre1_inv hp
  show wps _ _ [.d (.lst (ws.map strD)), .no] _ _
  have hws : (ws.map strD).length ≤ 1000000 := by rw [List.length_map]; exact hl
  have inj : ∀ ws2 : List (List Nat), D.lst (ws.map strD) = .lst (ws2.map strD) → ws2 = ws := fun ws2 e => by
    have e' : ws.map strD = ws2.map strD := D.lst.inj e
    exact (List.map_inj_right (f := strD) fun a b h => S_inj (D.str.inj h)).mp e'.symm
  refine wps_ret (wp_ifD (ws.all numC) ?_ (fun h => ?_) (fun h => ?_))
  · refine wpt_B ?_
    refine wp_allLc (fun d => match d with | .str s => numC (TL.tl s) | _ => false) rfl (wpi_lst ?_)
    refine wp_var rfl ⟨_, rfl, hws, fun d a o hd => ?_, _, rfl, ?_⟩
    · obtain ⟨c, hc, rfl⟩ := List.mem_map.mp hd
      exact wp_callP (wpa_cons (wp_var rfl (wpa_nil ⟨⟨c, rfl, hw c hc⟩, fun r e => e c rfl⟩)))
    · rw [List.all_map]
      rfl
  · refine wp_cb (wpa_cons (wp_l (wpl_map (fun d => match d with | .str s => .int (valC (TL.tl s)) | _ => .non) rfl (wpi_lst ?_))))
    refine wp_var rfl ⟨_, rfl, hws, fun d a o hd => ?_, wpa_nil (rc_tupL fun ws2 e => ?_)⟩
    · obtain ⟨c, hc, rfl⟩ := List.mem_map.mp hd
      obtain ⟨h1, h2⟩ := numC_val (List.all_eq_true.mp h c hc)
      exact wp_cb (wpa_cons (wp_var rfl (wpa_nil (rc_intS h1 (by rw [S_len]; omega) rfl))))
    · rw [inj ws2 e]
      unfold numsC
      rw [if_pos h]
      show D.tup _ = D.tup _
      rw [List.map_map, List.map_map]
      rfl
  · refine wp_non fun ws2 e => ?_
    rw [inj ws2 e]
    unfold numsC
    rw [if_neg (by rw [h]; exact Bool.false_ne_true)]
    rfl
abbrev sp_read_row (K : PySem.W.Frag) : Sp := spP K (pre2 fun m x => (∃ n : Nat, m = .int n ∧ n ≤ 100000) ∧ ∃ l : List Nat, x = strD l ∧ l.length ≤ 500000) (post2 fun m x r => ∀ (n : Nat) (l : List Nat), m = .int n → x = strD l → r = rowOD (rowOf n l))
theorem ok_read_row (T : Tx K mg) : FnOk P wd K mg base CX0 3 T.f_read_row T.d_read_row ["size", "line"] (sp_read_row K) := by
  refine fn_P T.F_read_row sc_read_row (fun ds h => by obtain ⟨_, _, rfl, _⟩ := pre2_inv h; rfl) (fun cdv A outer s H E hr => ⟨_, (have nd := sc_read_row.nd; (pss_cons (ps_set (i := 2) nd rfl (.inr rfl) (pe_call (ok_numbers_in T) (hr.mono (by decide)) rfl T.g_numbers_in T.F_numbers_in.kp T.b_numbers_in .nil pass0 (pa_cons (pe_split (pe_slice sl_str (pv 1) (po_some (pe_callB call_len rfl T.m_len (by decide +kernel) (pa_cons (pe_glob (v := .str "  ") rfl (T.m_MARGIN).choose_spec ⟨_, rfl⟩) pa_nil))) po_none) pe_str) pa_nil)))
      (pss_cons (ps_if (PW.pt (pw_or (pt_cmpR op_ne (pe_slice sl_str (pv 1) po_none (po_some (pe_callB call_len rfl T.m_len (by decide +kernel) (pa_cons (pe_glob (v := .str "  ") rfl (T.m_MARGIN).choose_spec ⟨_, rfl⟩) pa_nil)))) (pe_glob (v := .str "  ") rfl (T.m_MARGIN).choose_spec ⟨_, rfl⟩) (nomark _)) (pw_or (pt_cmpR op_isN (pv 2) pe_non (nomark _)) (pw_or1 (pt_cmpR op_ne (pe_callB call_len rfl T.m_len (by decide +kernel) (pa_cons (pv 2) pa_nil)) (pe_op op_mul pe_int (pv 0)) (nomark _)))))) (pss_one (ps_ret pe_non)) pss_nil)
      (pss_one (ps_ret (pe_callTy call_tuple_of rfl T.m_tuple (by decide +kernel) (pa_cons (pe_lc (own := [("spot", 3)]) (g := gName 3) rfl nd (pi_range1 rfl T.m_range (pa_cons (pv 0) pa_nil)) (blkOk_by (N := N_read_row) (sc := defScope s_read_row) (by decide +kernel)) (fun _ _ _ _ _ => (pg_name (i := 3) nd rfl (.inl rfl))) (fun _ _ _ _ _ => pts_nil) (fun _ _ _ _ _ => (castE (pe_tup (pa_cons (pe_ix ix_tup (pv 2) (pe_op op_mul pe_int (pv 3)) (fun _ _ => rfl)) (pa_cons (pe_ix ix_tup (pv 2) (pe_op op_add (pe_op op_mul pe_int (pv 3)) pe_int) (fun _ _ => rfl)) pa_nil))) (by walk_at "r")))) pa_nil))))))), fun F0 H0 ds hp => ?_⟩)
  walk_at "s"
  obtain ⟨m, x, rfl, ⟨n, rfl, hn⟩, l, rfl, hl⟩ := pre2_inv hp
  show wps _ _ [.d (.int n), .d (strD l), .no, .no] _ _
  have hS : (S l).length ≤ 1000000 := by rw [S_len]; omega
  have lenM : ∀ (G : List Ent) (Q : D → Prop), Q (.int 2) → wp ⟨K, F0, H0, [], []⟩ (tCB (fun xs H Q => ∃ x n, xs = [x] ∧ LenV K x H n ∧ Q (V.int ↑n) H) (tCons (tC (.str "  ")) tNil)) G Q := fun G Q q =>
    wp_cb (wpa_cons (wp_glob (fun F => .str _) (wpa_nil (rc_len (d := .str "  ") (n := 2) (by decide +kernel) q))))
  have hsp : ∀ w ∈ splitC (l.drop 2) 32, w.length ≤ 1000000 := fun w hw => by
    have := spl_len (l := l.drop 2) (acc := []) hw
    rw [List.length_drop] at this
    simp only [List.length_nil] at this
    omega
  have hcnt : (splitC (l.drop 2) 32).length ≤ 1000000 := by
    have := spl_cnt (l := l.drop 2) (acc := []) (c := 32)
    rw [List.length_drop] at this
    unfold splitC
    omega
  refine wps_seq (wps_asgV (numsD (numsC (splitC (l.drop 2) 32))) ?_ ?_)
  · refine wp_callP (wpa_cons (wp_l (wpl_m1 (wp_sl (wp_var rfl (wpo_some (lenM _ _ ⟨2, rfl, wpo_none (rs_str hS ⟨⟨_, rfl⟩, wp_str ?_⟩)⟩)))))))
    rw [show cutS (S l) (some 2) none = S (l.drop 2) from cut_from l 2, show (" " : Str) = S [32] by decide +kernel]
    refine rm_split (by decide +kernel) (by rw [S_len, List.length_drop]; omega) ?_
    rw [split_C _ _ (by decide), ← strs_map]
    exact wpa_nil ⟨⟨_, rfl, hcnt, hsp⟩, fun r e => e _ rfl⟩
  show wps _ _ [.d (.int n), .d (strD l), .d (numsD (numsC (splitC (l.drop 2) 32))), .no] _ _
  refine wps_seq (wps_if (wpt_or (wpt_test (wp_op (wp_sl (wp_var rfl (wpo_none (wpo_some (lenM _ _ ⟨2, rfl, rs_str hS ?_⟩)))))))))
  rw [show cutS (S l) none (some 2) = S (l.take 2) from cut_to l 2]
  refine wp_glob (fun F => .str _) (r2_neS ⟨_, rfl, ?_⟩)
  rw [show ("  " : Str) = S [32, 32] by decide +kernel, S_eq]
  cases hm : decide (l.take 2 = [32, 32]) with
  | false =>
    refine ite_t rfl (ite_t rfl (wps_ret (wp_non fun n2 l2 e1 e2 => ?_)))
    cases Int.ofNat.inj (D.int.inj e1)
    cases S_inj (D.str.inj e2)
    unfold rowOf
    cases numsC (splitC (l.drop 2) 32) with
    | none => rfl
    | some ns => dsimp only; rw [if_neg fun z => of_decide_eq_false hm z.1]; rfl
  | true =>
    refine ite_f rfl (wpt_or (wpt_test (wp_op (wp_var rfl (wp_non (r2_isN ⟨_, rfl, ?_⟩))))))
    cases hns : numsC (splitC (l.drop 2) 32) with
    | none =>
      refine ite_t rfl (ite_t rfl (wps_ret (wp_non fun n2 l2 e1 e2 => ?_)))
      cases Int.ofNat.inj (D.int.inj e1)
      cases S_inj (D.str.inj e2)
      unfold rowOf
      rw [hns]
      rfl
    | some ns =>
      have hnl : ns.length ≤ 1000000 := by
        unfold numsC at hns
        split at hns
        · cases hns
          rw [List.length_map]
          exact hcnt
        · cases hns
      refine ite_f rfl (wpt_test (wp_op (wp_cb (wpa_cons (wp_var rfl (wpa_nil (rc_len rfl (wp_op (wp_int (wp_var rfl (r2_ic (.inl (by decide)) (r2_neI ⟨_, rfl, ?_⟩))))))))))))
      rw [List.length_map]
      cases h2 : decide ((ns.length : Int) = 2 * (n : Int)) with
      | false =>
        refine ite_t rfl (wps_ret (wp_non fun n2 l2 e1 e2 => ?_))
        cases Int.ofNat.inj (D.int.inj e1)
        cases S_inj (D.str.inj e2)
        unfold rowOf
        rw [hns]
        dsimp only
        rw [if_neg fun z => of_decide_eq_false h2 (by have := z.2; omega)]
        rfl
      | true =>
        have h2' : ns.length = 2 * n := by have := of_decide_eq_true h2; omega
        refine ite_f rfl (wps_next (wps_ret ?_))
        refine wp_cb (wpa_cons (wp_l (wpl_map (fun d => match d with | .int i => pairD (ns.getD (2 * i.toNat) 0, ns.getD (2 * i.toNat + 1) 0) | _ => .non) rfl (wpi_rng ?_))))
        refine wpa_cons (wp_var rfl (wpa_nil ⟨n, rfl, by omega, ?_, fun d a o hd => ?_, wpa_nil (rc_tupL fun n2 l2 e1 e2 => ?_)⟩))
        · rw [List.length_map, List.length_range]; omega
        · obtain ⟨i, hi, rfl⟩ := List.mem_map.mp hd
          have hi' : i < n := by have := List.mem_range.mp hi; omega
          have g1 : L2.atI (ns.map D.int) (2 * (i : Int)) = some (.int (ns.getD (2 * i) 0)) := by
            rw [show (2 : Int) * (i : Int) = ((2 * i : Nat) : Int) by omega, atN (by rw [List.length_map]; omega), List.getElem?_map, List.getElem?_eq_getElem (by omega), List.getD_eq_getElem?_getD, List.getElem?_eq_getElem (by omega)]
            rfl
          have g2 : L2.atI (ns.map D.int) (2 * (i : Int) + 1) = some (.int (ns.getD (2 * i + 1) 0)) := by
            rw [show (2 : Int) * (i : Int) + 1 = ((2 * i + 1 : Nat) : Int) by omega, atN (by rw [List.length_map]; omega), List.getElem?_map, List.getElem?_eq_getElem (by omega), List.getD_eq_getElem?_getD, List.getElem?_eq_getElem (by omega)]
            rfl
          refine wp_tup (wpa_cons (wp_op (wp_var rfl (wp_op (wp_int (wp_var rfl (r2_ic (.inl (by decide)) (r2_ixT g1 ?_))))))))
          refine wpa_cons (wp_op (wp_var rfl (wp_op (wp_op (wp_int (wp_var rfl (r2_ic (.inl (by decide)) (wp_int (r2_ii (r2_ixT g2 ?_))))))))))
          exact wpa_nil ⟨by simp, rfl⟩
        · cases Int.ofNat.inj (D.int.inj e1)
          cases S_inj (D.str.inj e2)
          unfold rowOf
          rw [hns]
          dsimp only
          rw [if_pos ⟨of_decide_eq_true hm, h2'⟩]
          show D.tup _ = D.tup _
          unfold pairsC
          rw [show (n : Int).toNat = n from Int.toNat_natCast n, List.map_map, List.map_map]
          rfl
end Sd
set_option Elab.async false
set_option linter.all false
set_option maxRecDepth 100000
set_option maxHeartbeats 4000000
namespace Sd
open PySem PySem.Spec L2
open SX (S S_len S_cat S_inj)
open TL (numL joinL spl)
local macro_rules | `(tactic| walk_at "r") => `(tactic| (first | (dsimp only [cxOf, Cx.nox, Cx.wish, Cx.blk]; done) | (dsimp only [cxOf, Cx.nox, Cx.wish, Cx.blk]; rfl) | rfl))
local macro_rules | `(tactic| walk_at "k") => `(tactic| kernel_rfl)
local macro_rules | `(tactic| walk_at "s") => `(tactic| try dsimp only [cxOf, List.map_cons, List.map_nil])
local macro_rules | `(tactic| walk_at "d") => `(tactic| first
  | (with_reducible refine wps_seq ?_)
  | (with_reducible refine wps_ret ?_)
  | (with_reducible refine wps_if ?_)
  | (with_reducible refine wps_next ?_)
  | (with_reducible refine wps_drop ?_)
  | (with_reducible refine wpt_test ?_)
  | (with_reducible refine wpt_B ?_)
  | (with_reducible refine wpt_not ?_)
  | (with_reducible refine wpt_or ?_)
  | (with_reducible refine wpt_and ?_)
  | (with_reducible refine wp_andV ?_)
  | (with_reducible refine wp_orV ?_)
  | (with_reducible refine wp_notV ?_)
  | (refine wp_isiB (by decide) ?_)
  | (with_reducible refine wp_chain ?_)
  | (with_reducible refine wp_op ?_)
  | (with_reducible refine wp_tup ?_)
  | (with_reducible refine wpl_lst ?_)
  | (with_reducible refine wp_m1 ?_)
  | (with_reducible refine wp_m0 ?_)
  | (with_reducible refine wp_cb ?_)
  | (with_reducible refine wpa_cons ?_)
  | (with_reducible refine wpa_nil ?_)
  | (with_reducible refine wp_int ?_)
  | (with_reducible refine wp_str ?_)
  | (with_reducible refine wp_bl ?_)
  | (with_reducible refine wp_non ?_)
  | (refine wp_var rfl ?_)
  | (refine rc_len rfl ?_)
  | (refine r2_ii ?_)
  | (refine r2_ib ?_)
  | (refine ⟨_, rfl, ?_⟩))
variable {P : Program} {wd : World} {mg : Str → Option Value} {base : Heap} {K : PySem.W.Frag}
abbrev sp_row_line (K : PySem.W.Frag) : Sp := spP K (pre1 fun x => ∃ r : Row, x = rowD r ∧ r.length ≤ 4 ∧ ∀ q ∈ r, smI q.1 ∧ smI q.2) (post1 fun x d => ∀ r : Row, x = rowD r → d = strD (rowC r))
theorem ok_row_line (T : Tx K mg) : FnOk P wd K mg base CX0 1 T.f_row_line T.d_row_line ["row"] (sp_row_line K) := by
  refine fn_P T.F_row_line sc_row_line (fun ds h => by obtain ⟨_, rfl, _⟩ := pre1_inv h; rfl) (fun cdv A outer s H E hr => ⟨_, (have nd := sc_row_line.nd; (pss_one (ps_ret (pe_op op_add_str (pe_glob (v := .str "  ") rfl (T.m_MARGIN).choose_spec ⟨_, rfl⟩) (pe_join pe_str (pe_lc (own := [("state", 1), ("gain", 2)]) (g := gTup _ 2 (gCons (gName 1) (gCons (gName 2) gNil))) rfl nd (pi_tup (pv 0)) (blkOk_by (N := N_row_line) (sc := defScope s_row_line) (by decide +kernel)) (fun _ _ _ _ _ => (pg_tup rfl (pgs_cons (pg_name (i := 1) nd rfl (.inl rfl)) (pgs_cons (pg_name (i := 2) nd rfl (.inl rfl)) pgs_nil)))) (fun _ _ _ _ _ => pts_nil) (fun _ _ _ _ _ => (castE (pe_joined (.cons (pe_fmt (pv 1)) (.cons pe_str (.cons (pe_fmt (pv 2)) .nil)))) (by walk_at "r"))))))))), fun F0 H0 ds hp => ?_⟩)
  walk_at "s"
  obtain ⟨x, rfl, r, rfl, hr⟩ := pre1_inv hp
  show wps _ _ [.d (rowD r), .no, .no] _ _
  have hl := rowC_len hr
  have hps : ∀ p ∈ r.map pairC, p.length ≤ 15 := fun p hp => by
    obtain ⟨q, hq, rfl⟩ := List.mem_map.mp hp
    exact pairC_len (hr.2 q hq)
  refine wps_ret (wp_op (wp_glob (fun F => .str _) (wp_m1 (wp_str ⟨⟨_, rfl⟩, ?_⟩))))
  refine wp_is (.lst ((r.map pairC).map strD)) (wp_l (wpl_map2 (fun d => match d with | .tup [.int a, .int b] => strD (pairC (a, b)) | _ => .non) rfl rfl (wpi_tup ?_))) ?_
  · refine wp_var rfl ⟨r.map pairD, rfl, by rw [List.length_map]; omega, fun d a o hd => ?_, ?_⟩
    · obtain ⟨q, hq, rfl⟩ := List.mem_map.mp hd
      refine ⟨_, _, rfl, wp_js ?_⟩
      obtain ⟨h1, h2⟩ := hr.2 q hq
      have l1 := intL_len h1
      have l2 := intL_len h2
      refine wp_fmt (wp_var rfl ⟨_, if_pos (log_small h1), _, rfl, ?_, wp_str ⟨_, rfl, ?_, wp_fmt (wp_var rfl ⟨_, if_pos (log_small h2), _, rfl, ?_, ?_⟩)⟩⟩)
      · rw [int_S]; show 0 + (S (intL q.1)).length ≤ 1000000; rw [S_len]; omega
      · rw [int_S, show (Str.empty ++ S (intL q.1)) = S (intL q.1) from S_cat [] _, show (" " : Str) = S [32] by decide +kernel, S_len, S_len]; show _ + 1 ≤ _; omega
      · rw [int_S, int_S, show (Str.empty ++ S (intL q.1)) = S (intL q.1) from S_cat [] _, show (" " : Str) = S [32] by decide +kernel, S_cat, S_len, S_len, List.length_append]; show _ + 1 + _ ≤ _; omega
      · rw [int_S, int_S, show (Str.empty ++ S (intL q.1)) = S (intL q.1) from S_cat [] _, show (" " : Str) = S [32] by decide +kernel, S_cat, S_cat, List.append_assoc]
        rfl
    · congr 1
      rw [List.map_map, List.map_map]
      rfl
  rw [strs_map]
  have hsum : (((r.map pairC).map S).map (·.length)).sum ≤ 60 := by
    have := sum_len hps
    rw [List.length_map] at this
    have e : r.length * 15 ≤ 4 * 15 := Nat.mul_le_mul hr.1 (Nat.le_refl _)
    omega
  rw [show (" " : Str) = S [32] by decide +kernel]
  refine rm_join ?_ ?_
  · rw [List.length_map, List.length_map]
    show _ + _ * 1 ≤ _
    have := hr.1
    omega
  · rw [join_SS, show ("  " : Str) = S [32, 32] by decide +kernel]
    have hj : (joinL [32] (r.map pairC)).length ≤ 66 := by
      unfold rowC at hl
      rw [List.length_append] at hl
      omega
    refine r2_addS ?_ fun r2 e => ?_
    · rw [S_len, S_len]; show 2 + _ ≤ _; omega
    · rw [rowD_inj e.symm, S_cat]
      rfl
abbrev sp_pass_lines (K : PySem.W.Frag) : Sp := spP K (pre1 fun x => ∃ p : Pas, x = pasD p ∧ PasS p) (post1 fun x d => ∀ p : Pas, x = pasD p → d = .lst ((pasC p).map strD))
theorem ok_pass_lines (T : Tx K mg) : FnOk P wd K mg base CX0 2 T.f_pass_lines T.d_pass_lines ["one"] (sp_pass_lines K) := by
  refine fn_P T.F_pass_lines sc_pass_lines (fun ds h => by obtain ⟨_, rfl, _⟩ := pre1_inv h; rfl) (fun cdv A outer s H E hr => ⟨_, (have nd := sc_pass_lines.nd; (pss_cons (ps_asg (pv 0) (pg_tup rfl (pgs_cons (pg_name (i := 1) nd rfl (.inl rfl)) (pgs_cons (pg_name (i := 2) nd rfl (.inl rfl)) pgs_nil))))
      (pss_one (ps_ret (pe_op op_cat (pe_lst (pa_cons (pe_join pe_str (pe_op op_cat (pe_lst (pa_cons pe_str pa_nil)) (pe_lc (own := [("state", 3)]) (g := gName 3) rfl nd (pi_tup (pv 1)) (blkOk_by (N := N_pass_lines) (sc := defScope s_pass_lines) (by decide +kernel)) (fun _ _ _ _ _ => (pg_name (i := 3) nd rfl (.inl rfl))) (fun _ _ _ _ _ => pts_nil) (fun _ _ _ _ _ => (castE (pe_callTy call_str_int rfl T.m_str (by decide +kernel) (pa_cons (pv 3) pa_nil)) (by walk_at "r")))))) pa_nil)) (pe_lc (own := [("row", 4)]) (g := gName 4) rfl nd (pi_tup (pv 2)) (blkOk_by (N := N_pass_lines) (sc := defScope s_pass_lines) (by decide +kernel)) (fun _ _ _ _ _ => (pg_name (i := 4) nd rfl (.inl rfl))) (fun _ _ _ _ _ => pts_nil) (fun _ _ _ _ _ => (castE (pe_call (ok_row_line T) (hr.mono (by decide)) rfl T.g_row_line T.F_row_line.kp T.b_row_line .nil pass0 (pa_cons (pv 4) pa_nil)) (by walk_at "r"))))))))), fun F0 H0 ds hp => ?_⟩)
  walk_at "s"
  obtain ⟨x, rfl, p, rfl, hs⟩ := pre1_inv hp
  show wps _ _ [.d (pasD p), .no, .no, .no, .no] _ _
  refine wps_seq (wps_asgG (ts := [1, 2]) (wp_var rfl (wpg_tup rfl rfl (wpgs_cons (wpg_name (by simp) (wpgs_cons (wpg_name (by simp) (wpgs_nil ?_))))))))
  show wps _ _ [.d (pasD p), .d (intsD p.1), .d (rowsD p.2), .no, .no] _ _
  refine wps_ret (wp_l (wpl_op ?_))
  have w4 : ("pass" : Str) = S wPass := by decide +kernel
  have hb := begC_len hs.b hs.s
  have hps : ∀ q ∈ wPass :: p.1.map intL, q.length ≤ 7 := fun q hq => by
    rcases List.mem_cons.mp hq with rfl | hq
    · decide
    · obtain ⟨i, hi, rfl⟩ := List.mem_map.mp hq
      exact intL_len (hs.s i hi)
  refine wp_is (.lst [strD (begC p.1)]) (wp_l (wpl_lst (wpa_cons ?_))) ?_
  · refine wp_m1 (wp_str ⟨⟨_, rfl⟩, ?_⟩)
    refine wp_is (.lst ((wPass :: p.1.map intL).map strD)) (wp_l (wpl_op ?_)) ?_
    · refine wp_is (.lst [strD wPass]) (wp_l (wpl_lst (wpa_cons (wp_str (wpa_nil ⟨by decide, by rw [w4]⟩))))) ?_
      refine wp_is (.lst (p.1.map fun i => strD (intL i))) (wp_l (wpl_map (fun d => match d with | .int i => strD (intL i) | _ => .non) rfl (wpi_tup ?_))) ?_
      · refine wp_var rfl ⟨p.1.map .int, rfl, by rw [List.length_map]; have := hs.b; omega, fun d a o hd => ?_, ?_⟩
        · obtain ⟨i, hi, rfl⟩ := List.mem_map.mp hd
          exact wp_cb (wpa_cons (wp_var rfl (wpa_nil (rc_strI (log_small (hs.s i hi)) (congrArg D.str (int_S i))))))
        · congr 1
          rw [List.map_map]
          rfl
      · refine r2_cat ?_ ?_
        · rw [List.length_map]; have := hs.b; show 1 + _ ≤ _; omega
        · show D.lst _ = D.lst _
          rw [List.map_cons, List.map_map]
          rfl
    · rw [strs_map, show (" " : Str) = S [32] by decide +kernel]
      have hsum := sum_len hps
      refine rm_join ?_ ?_
      · rw [List.length_map]
        simp only [List.length_cons, List.length_map] at hsum ⊢
        have e : (p.1.length + 1) * 7 ≤ 101 * 7 := Nat.mul_le_mul (by have := hs.b; omega) (Nat.le_refl _)
        have := hs.b
        rw [S_len]
        show _ + _ * 1 ≤ _
        omega
      · rw [join_SS]
        exact wpa_nil ⟨by simp, rfl⟩
  · refine wp_is (.lst (p.2.map fun r => strD (rowC r))) (wp_l (wpl_lcN rfl (wpi_tup ?_))) ?_
    · refine wp_var rfl ⟨p.2.map rowD, rfl, by rw [List.length_map]; have := hs.r; omega, fun i acc => acc = (p.2.take i).map fun r => strD (rowC r), rfl, fun i d acc a o hd hI => ?_, fun acc hI => ?_⟩
      · obtain ⟨r, hr, rfl⟩ := map_at hd
        refine wpt_yes (iteT ?_)
        refine wp_callP (wpa_cons (wp_var rfl (wpa_nil ⟨⟨r, rfl, hs.w r (List.mem_of_getElem? hr)⟩, fun d e => ?_⟩)))
        have hI' : acc = (p.2.take i).map fun r => strD (rowC r) := hI
        show acc ++ [d] = (p.2.take (i + 1)).map fun r => strD (rowC r)
        rw [hI', e r rfl, List.take_add_one, hr, List.map_append]
        rfl
      · have hI' : acc = (p.2.take (p.2.map rowD).length).map fun r => strD (rowC r) := hI
        rw [hI', List.length_map, List.take_of_length_le (Nat.le_refl _)]
    · refine r2_cat ?_ fun p2 e => ?_
      · rw [List.length_map]; have := hs.r; show 1 + _ ≤ _; omega
      · rw [pasD_inj e.symm]
        show D.lst _ = D.lst _
        unfold pasC
        rw [List.map_cons, List.map_map]
        rfl
abbrev sp_program_text {K : PySem.W.Frag} {mg : Str → Option Value} (T : Tx K mg) : Sp := spP K (pre1 fun x => ∃ g : Pg, x = pgD T.a_Program g.kD g.pD g.tD ∧ PgS g) (post1 fun x d => ∀ g : Pg, x = pgD T.a_Program g.kD g.pD g.tD → d = strD (pageC g.lines))
theorem ok_program_text (T : Tx K mg) : FnOk P wd K mg base CX0 3 T.f_program_text T.d_program_text ["program"] (sp_program_text T) := by
  refine fn_P T.F_program_text sc_program_text (fun ds h => by obtain ⟨_, rfl, _⟩ := pre1_inv h; rfl) (fun cdv A outer s H E hr => ⟨_, (have nd := sc_program_text.nd; (pss_cons (ps_set (i := 1) nd rfl (.inl rfl) (pe_lst (pa_cons (pe_join pe_str (pe_lst (pa_cons pe_str (StX.pa_star (pe_prop (pv 0) T.c_Program T.P_Program_kinds (ok_Program_kinds T) (hr.mono (by decide)) T.b_Program_kinds .nil pass0 rfl) pa_nil)))) pa_nil)))
      (pss_cons (ps_for PassesOwn.never rfl (pi_tup (pe_prop (pv 0) T.c_Program T.P_Program_passes (ok_Program_passes T) (hr.mono (by decide)) T.b_Program_passes .nil pass0 rfl)) (pg_name (i := 2) nd rfl (.inl rfl)) (pss_one (ps_expr (pe_bm PySem.F.plainAttrs_list PySem.F.slot_list_extend PySem.F.type_list_extend mt_extend (pv 1) (pa_cons (pe_call (ok_pass_lines T) (hr.mono (by decide)) rfl T.g_pass_lines T.F_pass_lines.kp T.b_pass_lines .nil pass0 (pa_cons (pv 2) pa_nil)) pa_nil)))))
      (pss_cons (ps_expr (pe_bm PySem.F.plainAttrs_list PySem.F.slot_list_extend PySem.F.type_list_extend mt_extend (pv 1) (pa_cons (pe_lc (own := [("label", 3), ("extra", 4)]) (g := gTup _ 2 (gCons (gName 3) (gCons (gName 4) gNil))) rfl nd (pi_tup (pe_prop (pv 0) T.c_Program T.P_Program_tells (ok_Program_tells T) (hr.mono (by decide)) T.b_Program_tells .nil pass0 rfl)) (blkOk_by (N := N_program_text) (sc := defScope s_program_text) (by decide +kernel)) (fun _ _ _ _ _ => (pg_tup rfl (pgs_cons (pg_name (i := 3) nd rfl (.inl rfl)) (pgs_cons (pg_name (i := 4) nd rfl (.inl rfl)) pgs_nil)))) (fun _ _ _ _ _ => pts_nil) (fun _ _ _ _ _ => (castE (pe_joined (.cons pe_str (.cons (pe_fmt (pv 3)) (.cons pe_str (.cons (pe_fmt (pv 4)) .nil))))) (by walk_at "r")))) pa_nil)))
      (pss_one (ps_ret (pe_join pe_str (pe_lc (own := [("line", 5)]) (g := gName 5) rfl nd (pi_list (pv 1)) (blkOk_by (N := N_program_text) (sc := defScope s_program_text) (by decide +kernel)) (fun _ _ _ _ _ => (pg_name (i := 5) nd rfl (.inl rfl))) (fun _ _ _ _ _ => pts_nil) (fun _ _ _ _ _ => (castE (pe_op op_add_str (pv 5) pe_str) (by walk_at "r"))))))))))), fun F0 H0 ds hp => ?_⟩)
  walk_at "s"
  obtain ⟨x, rfl, g, rfl, hs⟩ := pre1_inv hp
  show wps _ _ [.d (pgD T.a_Program g.kD g.pD g.tD), .no, .no, .no, .no, .no] _ _
  have hk := kindsC_len hs.k hs.kw
  obtain ⟨hll, hlw⟩ := lines_len hs
  obtain ⟨hfl, hfw⟩ := flat_len hs.pw
  have hpl : g.ps.length * 101 ≤ 2 * 101 := Nat.mul_le_mul hs.p (Nat.le_refl _)
  refine wps_seq (wps_asgL (wpl_lst (wpa_is (strD (kindsC g.ks)) ?_ (wpa_nil ⟨by simp, ?_⟩))))
  · refine wp_m1 (wp_str ⟨⟨_, rfl⟩, ?_⟩)
    refine wp_is (.lst ((wKinds :: g.ks).map strD)) (wp_l (wpl_lst (wpa_is (strD wKinds) (wp_str (by rw [show ("kinds" : Str) = S wKinds by decide +kernel])) (wpa_star (wp_propP (wp_var rfl ⟨_, _, rfl, ⟨_, _, _, rfl⟩, fun d e => ⟨g.ks.map strD, ?_, wpa_nil ⟨?_, ?_⟩⟩⟩)))))) ?_
    · rw [e _ _ _ rfl]; rfl
    · simp; have := hs.k; omega
    · simp
    · have hps : ∀ q ∈ wKinds :: g.ks, q.length ≤ 8 := fun q hq => by
        rcases List.mem_cons.mp hq with rfl | hq
        · decide
        · exact hs.kw q hq
      rw [strs_map, show (" " : Str) = S [32] by decide +kernel]
      have hsum := sum_len hps
      refine rm_join ?_ ?_
      · rw [List.length_map]
        simp only [List.length_cons] at hsum ⊢
        have := hs.k
        rw [S_len]
        show _ + _ * 1 ≤ _
        omega
      · rw [join_SS]
        rfl
  show wps _ _ [.d (pgD T.a_Program g.kD g.pD g.tD), .l [strD (kindsC g.ks)], .no, .no, .no, .no] _ _
  refine wps_seq (wps_for (ts := [2]) (wpi_tup (wp_propP (wp_var rfl ⟨_, _, rfl, ⟨_, _, _, rfl⟩, fun d e => ⟨g.ps.map pasD, e _ _ _ rfl, ?_⟩⟩))))
  refine ⟨fun i G => ∃ z, G = [.d (pgD T.a_Program g.kD g.pD g.tD), .l (strD (kindsC g.ks) :: ((g.ps.take i).flatMap pasC).map strD), z, .no, .no, .no], ⟨_, rfl⟩, fun i d G hd hI => ?_, fun G hI => ?_⟩
  · obtain ⟨z, rfl⟩ := hI
    obtain ⟨p, hp, rfl⟩ := map_at hd
    have hmem := List.mem_of_getElem? hp
    have hps := hs.pw p hmem
    refine wpg_name (by simp) ?_
    refine wps_extend rfl (wp_callP (wpa_cons (wp_var rfl (wpa_nil ⟨⟨p, rfl, hps⟩, fun d e => ⟨_, e p rfl, ?_, ?_⟩⟩))))
    · have h1 := (pasC_len hps).1
      have h2 := (flat_len (ps := g.ps.take i) fun x hx => hs.pw x (List.mem_of_mem_take hx)).1
      have h3 : (g.ps.take i).length * 101 ≤ 2 * 101 := Nat.mul_le_mul (by rw [List.length_take]; have := hs.p; omega) (Nat.le_refl _)
      simp only [List.length_cons, List.length_map]
      omega
    · refine ⟨.d (pasD p), ?_⟩
      rw [List.take_add_one, hp]
      simp
  · obtain ⟨z, rfl⟩ := hI
    rw [List.length_map, List.take_of_length_le (Nat.le_refl _)]
    refine wps_seq (wps_extend rfl (wp_is (.lst (g.ts.map fun t => strD (telC t))) (wp_l (wpl_lcNN rfl rfl (wpi_tup (wp_propP (wp_var rfl ⟨_, _, rfl, ⟨_, _, _, rfl⟩, fun d e => ⟨g.ts.map telD, e _ _ _ rfl, ?_⟩⟩))))) ⟨_, rfl, ?_, ?_⟩))
    · refine ⟨by rw [List.length_map]; have := hs.t; omega, fun i acc => acc = (g.ts.take i).map fun t => strD (telC t), rfl, fun i d acc a o hd hI => ?_, fun acc hI => ?_⟩
      · obtain ⟨t, ht, rfl⟩ := map_at hd
        obtain ⟨h1, h2⟩ := hs.tw t (List.mem_of_getElem? ht)
        have l2 := intL_len h2
        refine ⟨_, _, rfl, wpt_yes (iteT (wp_js ?_))⟩
        have e1 : (Str.empty ++ ("tell " : Str)) = S (wTell ++ [32]) := by decide +kernel
        refine wp_str ⟨_, rfl, by decide +kernel, ?_⟩
        rw [e1]
        refine wp_fmt (wp_var rfl ⟨_, if_pos (show (S t.1).length ≤ 1000000 by rw [S_len]; omega), _, rfl, ?_, ?_⟩)
        · rw [S_len, S_len]; show 5 + _ ≤ _; omega
        · rw [S_cat]
          refine wp_str ⟨_, rfl, ?_, ?_⟩
          · rw [S_len, List.length_append, show (" " : Str) = S [32] by decide +kernel, S_len]; show 5 + _ + 1 ≤ _; omega
          · rw [show (" " : Str) = S [32] by decide +kernel, S_cat]
            refine wp_fmt (wp_var rfl ⟨_, if_pos (log_small h2), _, rfl, ?_, ?_⟩)
            · rw [int_S, S_len, S_len, List.length_append, List.length_append]; show 5 + _ + 1 + _ ≤ _; omega
            · rw [int_S, S_cat]
              show acc ++ [_] = (g.ts.take (i + 1)).map fun t => strD (telC t)
              have hI' : acc = (g.ts.take i).map fun t => strD (telC t) := hI
              rw [hI', List.take_add_one, ht, List.map_append]
              congr 1
              show [D.str _] = [D.str _]
              congr 2
              unfold telC
              simp [List.append_assoc]
      · have hI' : acc = (g.ts.take (g.ts.map telD).length).map fun t => strD (telC t) := hI
        rw [hI', List.length_map, List.take_of_length_le (Nat.le_refl _)]
    · simp only [List.length_cons, List.length_map]
      have := hs.t
      omega
    · have eL : strD (kindsC g.ks) :: List.map strD (g.ps.flatMap pasC) ++ g.ts.map (fun t => strD (telC t)) = g.lines.map strD := by
        unfold Pg.lines
        simp
      rw [eL]
      refine wps_know 1 rfl (wps_ret (wp_m1 (wp_str ⟨⟨_, rfl⟩, ?_⟩)))
      refine wp_is (.lst ((g.lines.map (· ++ [10])).map strD)) (wp_l (wpl_lcN rfl (wpi_lst ?_))) ?_
      · refine wp_var rfl ⟨_, rfl, by rw [List.length_map]; omega, fun i acc => acc = ((g.lines.take i).map (· ++ [10])).map strD, rfl, fun i d acc a o hd hI => ?_, fun acc hI => ?_⟩
        · obtain ⟨l, hl, rfl⟩ := map_at hd
          have := hlw l (List.mem_of_getElem? hl)
          refine wpt_yes (iteT (wp_op (wp_var rfl (wp_str ?_))))
          have en : ("
" : Str) = S [10] := by decide +kernel
          rw [en]
          refine r2_addS (by rw [S_len, S_len]; show _ + 1 ≤ _; omega) ?_
          rw [S_cat]
          have hI' : acc = ((g.lines.take i).map (· ++ [10])).map strD := hI
          show acc ++ [_] = ((g.lines.take (i + 1)).map (· ++ [10])).map strD
          rw [hI', List.take_add_one, hl, List.map_append, List.map_append]
          rfl
        · have hI' : acc = ((g.lines.take (g.lines.map strD).length).map (· ++ [10])).map strD := hI
          rw [hI', List.length_map, List.take_of_length_le (Nat.le_refl _)]
      · rw [strs_map, show ("" : Str) = S [] by decide +kernel]
        refine rm_join ?_ fun g2 e2 => ?_
        · have := sum_len (m := 809) (ps := g.lines.map (· ++ [10])) fun q hq => by
            obtain ⟨l, hl, rfl⟩ := List.mem_map.mp hq
            have := hlw l hl
            rw [List.length_append]
            show _ + 1 ≤ _
            omega
          rw [List.length_map (f := fun x => x ++ [10])] at this
          have e3 : g.lines.length * 809 ≤ 303 * 809 := Nat.mul_le_mul hll (Nat.le_refl _)
          rw [S_len]
          show _ + _ * 0 ≤ _
          omega
        · rw [join_SS]
          have e3 := (D.obj.inj e2).2.2
          simp only [List.cons.injEq, and_true] at e3
          rw [Pg_inj e3.1.symm e3.2.1.symm e3.2.2.symm]
          rfl
abbrev sp_order_text (K : PySem.W.Frag) : Sp := spP K (pre1 fun x => ∃ ws : List (List Nat), (x = .lst (ws.map strD) ∨ x = .tup (ws.map strD)) ∧ ws.length ≤ 1000 ∧ ∀ w ∈ ws, w.length ≤ 8) (post1 fun x d => ∀ ws : List (List Nat), (x = .lst (ws.map strD) ∨ x = .tup (ws.map strD)) → d = strD (if ws = [] then [45] else joinL [32] ws))
theorem ok_order_text (T : Tx K mg) : FnOk P wd K mg base CX0 1 T.f_order_text T.d_order_text ["order"] (sp_order_text K) := by
  refine fn_P T.F_order_text sc_order_text (fun ds h => by obtain ⟨_, rfl, _⟩ := pre1_inv h; rfl) (fun cdv A outer s H E hr => ⟨_, (have nd := sc_order_text.nd; (pss_one (ps_ret (pe_ifExp (pt_cmpR op_gt (pe_callB call_len rfl T.m_len (by decide +kernel) (pa_cons (pv 0) pa_nil)) pe_int (nomark _)) (pe_join pe_str (pv 0)) (pe_glob (v := .str "-") rfl (T.m_EMPTY).choose_spec ⟨_, rfl⟩))))), fun F0 H0 ds hp => ?_⟩)
  walk_at "s"
  obtain ⟨x, rfl, ws, hx, hl, hw⟩ := pre1_inv hp
  show wps _ _ [.d x] _ _
  have hlen : lenD x = some ws.length := by
    rcases hx with rfl | rfl
    · show some _ = some _; rw [List.length_map]
    · show some _ = some _; rw [List.length_map]
  have inj : ∀ ws2 : List (List Nat), (x = .lst (ws2.map strD) ∨ x = .tup (ws2.map strD)) → ws2 = ws := fun ws2 h => by
    rcases hx with rfl | rfl <;> rcases h with h | h
    · exact (kD_inj (D.lst.inj h)).symm
    · cases h
    · cases h
    · exact (kD_inj (D.tup.inj h)).symm
  refine wps_ret (wp_ifD (decide (ws ≠ [])) ?_ (fun h => ?_) (fun h => ?_))
  · refine wpt_test (wp_op (wp_cb (wpa_cons (wp_var rfl (wpa_nil (rc_len hlen (wp_int (r2_ib ⟨_, rfl, ?_⟩))))))))
    refine decide_eq_decide.mpr ?_
    cases ws with
    | nil => simp
    | cons a b => simp
  · refine wp_m1 (wp_str ⟨⟨_, rfl⟩, wp_var rfl ?_⟩)
    rw [show (" " : Str) = S [32] by decide +kernel]
    have hsum := sum_len hw
    have q : ∀ ws2 : List (List Nat), (x = .lst (ws2.map strD) ∨ x = .tup (ws2.map strD)) → D.str (Txt.join (S [32]) (ws.map S)) = strD (if ws2 = [] then [45] else joinL [32] ws2) := fun ws2 e => by
      rw [inj ws2 e, if_neg (of_decide_eq_true h), join_SS]
    have hz : ((ws.map S).map (·.length)).sum + (ws.map S).length * (S [32]).length ≤ 16777216 := by
      rw [List.length_map, S_len]
      show _ + _ * 1 ≤ _
      omega
    rcases hx with rfl | rfl
    · rw [strs_map] at q ⊢
      exact rm_join hz q
    · rw [strs_map] at q ⊢
      exact rm_joinT hz q
  · refine wp_glob (fun F => .str _) fun ws2 e => ?_
    rw [inj ws2 e, if_pos (by simpa using h), show ("-" : Str) = S [45] by decide +kernel]
abbrev sp_read_order {K : PySem.W.Frag} {mg : Str → Option Value} (T : Tx K mg) : Sp := spP K (pre2 fun x y => ∃ (g : Pg) (l : List Nat), x = pgD T.a_Program g.kD g.pD g.tD ∧ y = strD l ∧ PgS g ∧ l.length ≤ 500000 ∧ (l ≠ [45] → ∀ w ∈ splitC l 32, w ∈ g.ks)) (post2 fun x y d => ∀ (g : Pg) (l : List Nat), x = pgD T.a_Program g.kD g.pD g.tD → y = strD l → d = .tup ((if l = [45] then [] else splitC l 32).map strD))
theorem ok_read_order (T : Tx K mg) : FnOk P wd K mg base CX0 3 T.f_read_order T.d_read_order ["program", "text"] (sp_read_order T) := by
  refine fn_P T.F_read_order sc_read_order (fun ds h => by obtain ⟨_, _, rfl, _⟩ := pre2_inv h; rfl) (fun cdv A outer s H E hr => ⟨_, (have nd := sc_read_order.nd; (pss_cons (ps_if (pt_not (pt_val (pe_callB call_isi rfl T.m_isinstance (by decide +kernel) (pa_cons (pv 1) (pa_cons (pe_bltn (v := .ty "str") (u := .type "str") rfl T.m_str (by decide +kernel) rfl) pa_nil))))) (pss_one ps_never) pss_nil)
      (pss_cons (ps_set (i := 2) nd rfl (.inl rfl) (pe_ifExp (pt_cmpR op_eq (pv 1) (pe_glob (v := .str "-") rfl (T.m_EMPTY).choose_spec ⟨_, rfl⟩) (nomark _)) (pe_lst pa_nil) (pe_split (pv 1) pe_str)))
      (pss_cons (ps_if (pt_not (pt_val (pe_callB (cr_all rfl) rfl T.m_all (by decide +kernel) (pa_cons (pe_lc (own := [("word", 3)]) (g := gName 3) rfl nd (pi_list (pv 2)) (blkOk_by (N := N_read_order) (sc := defScope s_read_order) (by decide +kernel)) (fun _ _ _ _ _ => (pg_name (i := 3) nd rfl (.inl rfl))) (fun _ _ _ _ _ => pts_nil) (fun _ _ _ _ _ => (castE (pe_cmpR op_in_seq (pv 3) (pe_prop (pv 0) T.c_Program T.P_Program_kinds (ok_Program_kinds T) (hr.mono (by decide)) T.b_Program_kinds .nil pass0 rfl) (by rfl)) (by walk_at "r")))) pa_nil)))) (pss_one ps_never) pss_nil)
      (pss_one (ps_ret (pe_callTy call_tuple_of rfl T.m_tuple (by decide +kernel) (pa_cons (pv 2) pa_nil)))))))), fun F0 H0 ds hp => ?_⟩)
  walk_at "s"
  obtain ⟨x, y, rfl, g, l, rfl, rfl, hs, hl, hw⟩ := pre2_inv hp
  show wps _ _ [.d (pgD T.a_Program g.kD g.pD g.tD), .d (strD l), .no, .no] _ _
  have hS : (S l).length ≤ 1000000 := by rw [S_len]; omega
  refine wps_seq (wps_ifD false ?_ (fun h => nomatch h) (fun _ => wps_next ?_))
  · exact wpt_notD (b := true) (wpt_B (wp_isiB (by decide) (wp_var rfl ⟨rfl, _, rfl, rfl⟩)))
  have ed : ("-" : Str) = S [45] := by decide +kernel
  have hsp : ∀ w ∈ (if l = [45] then [] else splitC l 32), w ∈ g.ks := fun w hm => by
    split at hm
    · cases hm
    · exact hw (by assumption) w hm
  have hcnt : (if l = [45] then [] else splitC l 32).length ≤ 1000000 := by
    split
    · simp
    · have := spl_cnt (l := l) (acc := []) (c := 32)
      unfold splitC
      omega
  refine wps_seq (wps_asgV (.lst ((if l = [45] then [] else splitC l 32).map strD)) (wp_ifD (decide (l = [45])) ?_ (fun h => ?_) (fun h => ?_)) ?_)
  · refine wpt_test (wp_op (wp_var rfl (wp_glob (fun F => .str _) (r2_eqS ⟨_, rfl, ?_⟩))))
    rw [ed, S_eq]
  · refine wp_l (wpl_lst (wpa_nil ⟨by simp, ?_⟩))
    rw [if_pos (of_decide_eq_true h)]
    rfl
  · refine wp_l (wpl_m1 (wp_var rfl ⟨⟨_, rfl⟩, wp_str ?_⟩))
    rw [show (" " : Str) = S [32] by decide +kernel]
    refine rm_split (by decide +kernel) (by rw [S_len]; omega) ?_
    rw [split_C _ _ (by decide), ← strs_map, if_neg (of_decide_eq_false h)]
  show wps _ _ [.d (pgD T.a_Program g.kD g.pD g.tD), .d (strD l), .d (.lst ((if l = [45] then [] else splitC l 32).map strD)), .no] _ _
  generalize ews : (if l = [45] then [] else splitC l 32) = ws at hsp hcnt
  refine wps_seq (wps_ifD false ?_ (fun h => nomatch h) (fun _ => wps_next ?_))
  · refine wpt_notD (b := true) (wpt_B ?_)
    refine wp_allLc (fun d => match d with | .str s => inD d (g.ks.map strD) | _ => false) rfl (wpi_lst ?_)
    refine wp_var rfl ⟨_, rfl, by rw [List.length_map]; exact hcnt, fun d a o hd => ?_, _, rfl, ?_⟩
    · obtain ⟨c, hc, rfl⟩ := List.mem_map.mp hd
      refine wp_op (wp_var rfl (wp_propP (wp_var rfl ⟨_, _, rfl, ⟨_, _, _, rfl⟩, fun d e => ?_⟩)))
      rw [e _ _ _ rfl]
      refine r2_inT (neg := false) rfl ?_ rfl
      rw [strs_map]
      exact flat_strs _
    · refine List.all_eq_true.mpr fun d hd => ?_
      obtain ⟨c, hc, rfl⟩ := List.mem_map.mp hd
      show inD (.str (S c)) (g.ks.map strD) = true
      rw [strs_map, inD_strs]
      exact decide_eq_true (List.mem_map_of_mem (hsp c hc))
  · refine wps_ret (wp_cb (wpa_cons (wp_var rfl (wpa_nil (rc_tupL fun g2 l2 e1 e2 => ?_)))))
    rw [strD_inj e2.symm, ews]
end Sd
set_option Elab.async false
set_option linter.all false
set_option maxRecDepth 100000
set_option maxHeartbeats 4000000
namespace Sd
open PySem PySem.Spec L2
open SX (S S_len S_cat S_inj)
open TL (numL joinL spl)
local macro_rules | `(tactic| walk_at "r") => `(tactic| (first | (dsimp only [cxOf, Cx.nox, Cx.wish, Cx.blk]; done) | (dsimp only [cxOf, Cx.nox, Cx.wish, Cx.blk]; rfl) | rfl))
local macro_rules | `(tactic| walk_at "k") => `(tactic| kernel_rfl)
local macro_rules | `(tactic| walk_at "s") => `(tactic| try dsimp only [cxOf, List.map_cons, List.map_nil])
local macro_rules | `(tactic| walk_at "d") => `(tactic| first
  | (with_reducible refine wps_seq ?_)
  | (with_reducible refine wps_ret ?_)
  | (with_reducible refine wps_if ?_)
  | (with_reducible refine wps_next ?_)
  | (with_reducible refine wps_drop ?_)
  | (with_reducible refine wpt_test ?_)
  | (with_reducible refine wpt_B ?_)
  | (with_reducible refine wpt_not ?_)
  | (with_reducible refine wpt_or ?_)
  | (with_reducible refine wpt_and ?_)
  | (with_reducible refine wp_andV ?_)
  | (with_reducible refine wp_orV ?_)
  | (with_reducible refine wp_notV ?_)
  | (refine wp_isiB (by decide) ?_)
  | (with_reducible refine wp_chain ?_)
  | (with_reducible refine wp_op ?_)
  | (with_reducible refine wp_tup ?_)
  | (with_reducible refine wpl_lst ?_)
  | (with_reducible refine wp_m1 ?_)
  | (with_reducible refine wp_m0 ?_)
  | (with_reducible refine wp_cb ?_)
  | (with_reducible refine wpa_cons ?_)
  | (with_reducible refine wpa_nil ?_)
  | (with_reducible refine wp_int ?_)
  | (with_reducible refine wp_str ?_)
  | (with_reducible refine wp_bl ?_)
  | (with_reducible refine wp_non ?_)
  | (refine wp_var rfl ?_)
  | (refine rc_len rfl ?_)
  | (refine r2_ii ?_)
  | (refine r2_ib ?_)
  | (refine ⟨_, rfl, ?_⟩))
variable {P : Program} {wd : World} {mg : Str → Option Value} {base : Heap} {K : PySem.W.Frag}
theorem ok__law_state (T : Tx K mg) : FnOk P wd K mg base CX0 1 T.f__law_state T.d__law_state ["_law_script"] (spState K) := by
  refine T.F__law_state.ok sc__law_state (fun vs H Q E h => by obtain ⟨_, _, rfl, _⟩ := h; rfl) (fun cdv A outer s H vs Q E hr h => ⟨_, (have nd := sc__law_state.nd; (pss_one (ps_ret (pe_lst (pa_cons (pe_orT (pe_lc (own := [("_law_cell", 1)]) (g := gName 1) rfl nd (pi_list (pe_slice sl_list (pv 0) po_none (po_some pe_int))) (blkOk_by (N := N__law_state) (sc := defScope s__law_state) (by decide +kernel)) (fun _ _ _ _ _ => (pg_name (i := 1) nd rfl (.inl rfl))) (fun _ _ _ _ _ => pts_nil) (fun _ _ _ _ _ => (castE (pe_callB call_abs rfl T.m_abs (by decide +kernel) (pa_cons (pv 1) pa_nil)) (by walk_at "r")))) (pe_one (pe_lst (pa_cons pe_int pa_nil)))) (pa_cons pe_int (pa_cons pe_int pa_nil))))))), spState_body (by decide) (fun H0 a ns hs hl => ?_) h⟩)
  walk_at "s"
  show wps _ _ [.v (.ref a), .no] _ _
  refine wps_ret (wp_l (wpl_lst (wpa_cons (wp_orT ?_))))
  refine wp_l (wpl_lcN rfl (wpi_lst (wp_l (wpl_slV rfl (by simp) hs (wpo_none (wpo_some (wp_int ⟨63, rfl, ?_⟩)))))))
  have hcut : cutD (ns.map D.int) none (some 63) = ns.map .int := by
    unfold cutD
    rw [show HT.sIx (ns.map D.int).length 0 none = 0 from rfl, show HT.sIx (ns.map D.int).length (ns.map D.int).length (some 63) = min 63 (ns.map D.int).length from HT.sIx_nat _ _ 63, List.drop_zero]
    exact List.take_of_length_le (by rw [List.length_map]; omega)
  rw [hcut]
  let f : Int → Int := fun i => if i < 0 then -i else i
  refine ⟨_, rfl, by rw [List.length_map]; omega, fun i acc => acc = ((ns.take i).map f).map .int, rfl, fun i d acc a o hd hI => ?_, fun acc hI => ?_⟩
  · obtain ⟨k, hk, rfl⟩ := map_at hd
    refine wpt_yes (iteT (wp_cb (wpa_cons (wp_var rfl (wpa_nil (rc_abs ?_))))))
    have hI' : acc = ((ns.take i).map f).map .int := hI
    show acc ++ [_] = ((ns.take (i + 1)).map f).map .int
    rw [hI', List.take_add_one, hk, List.map_append, List.map_append]
    rfl
  · have hI' : acc = ((ns.take (ns.map D.int).length).map f).map .int := hI
    rw [List.length_map, List.take_of_length_le (Nat.le_refl _)] at hI'
    subst hI'
    have pos : ∀ n ∈ ns.map f, 0 ≤ n := fun n hn => by
      obtain ⟨k, _, rfl⟩ := List.mem_map.mp hn
      show 0 ≤ if k < 0 then -k else k
      split <;> omega
    cases ns with
    | nil => exact ⟨false, rfl, iteF (wp_l (wpl_lst (wpa_cons (wp_int (wpa_nil ⟨by simp, wpa_cons (wp_int (wpa_cons (wp_int (wpa_nil ⟨by simp, [1], rfl, by simp, by simp, by simp⟩))))⟩)))))⟩
    | cons n ns =>
      refine ⟨true, rfl, iteT (wpa_cons (wp_int (wpa_cons (wp_int (wpa_nil ⟨by simp, (n :: ns).map f, rfl, by simp, ?_, pos⟩)))))⟩
      rw [List.length_map]
      exact hl
abbrev sp__law_draw (K : PySem.W.Frag) : Sp := spR K (pre1 fun m => ∃ n : Int, m = .int n ∧ 0 < n ∧ n ≤ 1000) (post1 fun m r => ∀ n : Int, m = .int n → intIn n r)
theorem ok__law_draw (T : Tx K mg) : FnOk P wd K mg base CX0 1 T.f__law_draw T.d__law_draw ["_law_draws", "_law_many"] (sp__law_draw K) := by
  refine T.F__law_draw.ok sc__law_draw (fun vs H Q E h => by obtain ⟨_, _, ws, _, ds, rfl, _, _, _, _, r, pr, _⟩ := h; obtain ⟨_, rfl, _⟩ := pre1_inv pr; show ws.length + 1 = _; rw [r.length]; rfl) (fun cdv A outer s H vs Q E hr h => ⟨_, (have nd := sc__law_draw.nd; (pss_cons (ps_set (i := 2) nd rfl (.inl rfl) (pe_ix ix_list (pv 0) pe_int (fun _ _ => rfl)))
      (pss_cons (ps_set (i := 3) nd rfl (.inl rfl) (pe_op op_mod (pe_callTy call_int1 rfl T.m_int (by decide +kernel) (pa_cons (pe_ix ix_list (pv 0) pe_int (fun _ _ => rfl)) pa_nil)) (pe_callB call_len rfl T.m_len (by decide +kernel) (pa_cons (pv 2) pa_nil))))
      (pss_cons (ps_set (i := 4) nd rfl (.inl rfl) (pe_ix ix_list (pv 2) (pv 3) (fun _ _ => rfl)))
      (pss_cons (ps_if (pt_cmpR op_ge (pv 4) (pe_op op_pow pe_int pe_int) (nomark _)) (pss_cons (ps_asg (pe_op op_fdivW (pv 4) (pv 1)) (pg_sub (pv 2) (pv 3) set_list))
      (pss_one (ps_ret (pe_op op_mod (pe_callTy call_int1 rfl T.m_int (by decide +kernel) (pa_cons (pv 4) pa_nil)) (pv 1))))) pss_nil)
      (pss_cons (ps_asg (pe_op op_add (pe_ix ix_list (pv 0) pe_int (fun _ _ => rfl)) pe_int) (pg_sub (pv 0) pe_int set_list))
      (pss_cons (ps_asg (pe_op op_mod (pe_callTy call_int1 rfl T.m_int (by decide +kernel) (pa_cons (pe_op op_add (pe_op op_add (pe_op op_add (pe_op op_mul (pe_ix ix_list (pv 0) pe_int (fun _ _ => rfl)) pe_int) (pv 4)) (pe_op op_mul pe_int (pe_ix ix_list (pv 0) pe_int (fun _ _ => rfl)))) pe_int) pa_nil)) pe_int) (pg_sub (pv 0) pe_int set_list))
      (pss_cons (ps_set (i := 5) nd rfl (.inl rfl) (pe_op op_mod (pe_callTy call_int1 rfl T.m_int (by decide +kernel) (pa_cons (pe_op op_mul (pe_ix ix_list (pv 0) pe_int (fun _ _ => rfl)) (pe_ix ix_list (pv 0) pe_int (fun _ _ => rfl))) pa_nil)) pe_int))
      (pss_one (ps_ret (pe_op op_mod (pe_callTy call_int1 rfl T.m_int (by decide +kernel) (pa_cons (pe_op op_fdiv (pv 5) pe_int) pa_nil)) (pv 1)))))))))))), ?_⟩)
  walk_at "s"
  obtain ⟨p, c, ws, F, ds, rfl, fh, fp, fc, ⟨ne, i, m, ns, h1, h2, h3, h4, h5, h6, h7, h8⟩, r, pr, q⟩ := h
  obtain ⟨_, rfl, n, rfl, n0, n1⟩ := pre1_inv pr
  cases r with
  | cons r rr =>
    cases rr
    cases r
    have hL : (ns.map V.int).length = ns.length := List.length_map _
    have npos : 0 < ns.length := by cases ns with | nil => exact absurd rfl h3 | cons a b => simp
    have nlog : n.natAbs.log2 < 9000 := by
      have z : n.natAbs ≠ 0 := by omega
      have := (Nat.log2_lt z).mpr (show n.natAbs < 2 ^ 20 by omega)
      omega
    have hj0 : 0 ≤ i % (ns.length : Int) := Int.emod_nonneg _ (by omega)
    have hj1 : i % (ns.length : Int) < ns.length := Int.emod_lt_of_pos _ (by omega)
    obtain ⟨j, hj⟩ : ∃ j : Nat, i % (ns.length : Int) = j := ⟨_, (Int.toNat_of_nonneg hj0).symm⟩
    have hjl : j < ns.length := by omega
    have hcell : L2.atI (ns.map V.int) (i % (ns.length : Int)) = some (.int ns[j]) := by
      rw [hj, atN (by rw [hL]; exact hjl), List.getElem?_map, List.getElem?_eq_getElem hjl]
      rfl
    have hc0 : 0 ≤ ns[j] := h5 _ (List.getElem_mem hjl)
    refine ⟨_, rfl, p, _, 0, _, rfl, rfl, .inl (.inl h1), rfl, ?_⟩
    refine ⟨_, rfl, p, _, 1, _, rfl, rfl, .inl (.inl h1), rfl, .inl ⟨i, rfl, ?_⟩⟩
    refine ⟨_, rfl, _, ns.length, rfl, .inl ⟨_, .inl (.inl h2), hL.symm⟩, ?_⟩
    refine ⟨i, ns.length, rfl, rfl, (by show (0 : Int) < _; omega), ?_⟩
    refine ⟨_, rfl, _, rfl, c, _, _, _, rfl, rfl, .inl (.inl h2), hcell, ?_⟩
    refine ⟨_, rfl, 10, 18, rfl, rfl, ⟨by decide, by decide, by decide⟩, ?_⟩
    refine ⟨ns[j], _, rfl, rfl, _, rfl, ?_⟩
    refine ite_b (fun hb => ?_) (fun hb => ?_)
    · refine ⟨_, rfl, _, rfl, ns[j], n, rfl, rfl, ⟨n0, nlog⟩, ?_⟩
      refine ⟨_, rfl, _, rfl, c, _, _, j, rfl, rfl, h2, ?_, ?_⟩
      · rw [hj, hL]
        unfold L2.ixN
        rw [if_pos (by omega), if_pos (by omega)]
        simp
      refine ⟨_, rfl, .inl ⟨ns[j], rfl, ?_⟩⟩
      refine ⟨_, rfl, ns[j], n, rfl, rfl, n0, ?_⟩
      have e0 : (ns.map V.int).set j (.int (ns[j] / n)) = (ns.set j (ns[j] / n)).map V.int := by rw [List.map_set]
      refine q _ _ _ (fun b o b1 b2 e => by rw [upd_ne b2]; exact e) ⟨ne, i, m, ns.set j (ns[j] / n), by rw [upd_ne ne]; exact h1, by rw [upd_same, e0], fun z => ?_, by rw [List.length_set]; exact h4, fun k hk => ?_, h6, h7, h8⟩ (.int _) fun n2 e => ?_
      · have := congrArg List.length z
        rw [List.length_set] at this
        exact h3 (List.eq_nil_of_length_eq_zero this)
      · rcases List.mem_or_eq_of_mem_set hk with hk | rfl
        · exact h5 k hk
        · exact Int.ediv_nonneg hc0 (by omega)
      · cases e
        exact ⟨_, rfl, Int.emod_nonneg _ (by omega), Int.emod_lt_of_pos _ n0⟩
    · have st : ∀ (a b : V), ([V.ref c, V.int i, V.int m].set 1 a).set 2 b = [V.ref c, a, b] := fun a b => rfl
      refine ⟨_, rfl, p, _, 1, _, rfl, rfl, .inl (.inl h1), rfl, ?_⟩
      refine ⟨i, 1, rfl, rfl, ?_⟩
      refine ⟨_, rfl, p, _, 1, 1, rfl, rfl, h1, rfl, ?_⟩
      have k1 : (upd H p (.lst ([V.ref c, V.int i, V.int m].set 1 (.int (i + 1))))) p = some (.lst [V.ref c, .int (i + 1), .int m]) := upd_same
      refine ⟨_, rfl, p, _, 2, _, rfl, rfl, .inl (.inl k1), rfl, ?_⟩
      refine ⟨m, 48271, rfl, rfl, .inr (by decide), ?_⟩
      refine ⟨_, rfl, _, ns[j], rfl, rfl, ?_⟩
      refine ⟨_, rfl, p, _, 1, _, rfl, rfl, .inl (.inl k1), rfl, ?_⟩
      refine ⟨7919, i + 1, rfl, rfl, .inl (by decide), ?_⟩
      refine ⟨_, _, rfl, rfl, ?_⟩
      refine ⟨_, _, rfl, rfl, .inl ⟨_, rfl, ?_⟩⟩
      refine ⟨_, _, rfl, rfl, (by show (0 : Int) < 2147483647; decide), ?_⟩
      refine ⟨_, rfl, p, _, 2, 2, rfl, rfl, k1, rfl, ?_⟩
      have m20 : 0 ≤ (m * 48271 + ns[j] + 7919 * (i + 1) + 12345) % 2147483647 := Int.emod_nonneg _ (by decide)
      have m21 : (m * 48271 + ns[j] + 7919 * (i + 1) + 12345) % 2147483647 < 2147483647 := Int.emod_lt_of_pos _ (by decide)
      refine ⟨_, rfl, p, _, 2, _, rfl, rfl, .inl (.inl upd_same), rfl, ?_⟩
      refine ⟨_, rfl, p, _, 2, _, rfl, rfl, .inl (.inl upd_same), rfl, ?_⟩
      refine ⟨_, _, rfl, rfl, .inl ⟨Int.lt_of_lt_of_le (by decide) m20, Int.lt_trans m21 (by decide)⟩, .inl ⟨_, rfl, ?_⟩⟩
      refine ⟨_, _, rfl, rfl, (by show (0 : Int) < 2147483629; decide), ?_⟩
      refine ⟨_, rfl, _, 16, rfl, rfl, (by constructor <;> decide), .inl ⟨_, rfl, ?_⟩⟩
      refine ⟨_, rfl, _, n, rfl, rfl, n0, ?_⟩
      refine q _ _ _ (fun b o b1 b2 e => by rw [upd_ne b1, upd_ne b1]; exact e) ⟨ne, i + 1, _, ns, upd_same, by rw [upd_ne (Ne.symm ne), upd_ne (Ne.symm ne)]; exact h2, h3, h4, h5, by omega, m20, m21⟩ (.int _) fun n2 e => ?_
      cases e
      exact ⟨_, rfl, Int.emod_nonneg _ (by omega), Int.emod_lt_of_pos _ n0⟩
abbrev sp__law_pick (K : PySem.W.Frag) : Sp := spR K (pre1 fun x => itemsP x ≠ [] ∧ (itemsP x).length ≤ 1000) (post1 fun x r => r ∈ itemsP x)
theorem ok__law_pick (T : Tx K mg) : FnOk P wd K mg base CX0 2 T.f__law_pick T.d__law_pick ["_law_draws", "_law_some"] (sp__law_pick K) := by
  refine fn_R T.F__law_pick sc__law_pick (fun ds h => by obtain ⟨_, rfl, _⟩ := pre1_inv h; rfl) (fun cdv A outer s H E hr => ⟨_, (have nd := sc__law_pick.nd; (pss_one (ps_ret (pe_ix ix_seq (pv 1) (pe_call (ok__law_draw T) (hr.mono (by decide)) rfl T.g__law_draw T.F__law_draw.kp T.b__law_draw .nil pass0 (pa_cons (pv 0) (pa_cons (pe_callB call_len rfl T.m_len (by decide +kernel) (pa_cons (pv 1) pa_nil)) pa_nil))) (fun _ _ => rfl))))), fun F0 H0 p c ds hp => ?_⟩)
  walk_at "s"
  obtain ⟨x, rfl, hx, hl⟩ := pre1_inv hp
  show wps _ _ [.dr p c, .d x] _ _
  have pos : 0 < (itemsP x).length := List.length_pos_iff.mpr hx
  refine wps_ret (wp_op (wp_var rfl (wp_callR rfl (wpa_cons (wp_cb (wpa_cons (wp_var rfl (wpa_nil (rc_len (len_itemsP hx (by omega)) (wpa_nil ⟨⟨_, rfl, by omega, by omega⟩, fun r e => ?_⟩))))))))))
  obtain ⟨k, rfl, k0, k1⟩ := e _ rfl
  obtain ⟨j, rfl⟩ : ∃ j : Nat, k = j := ⟨_, (Int.toNat_of_nonneg k0).symm⟩
  have hj : j < (itemsP x).length := by omega
  exact r2_ixA (List.getElem?_eq_getElem hj) (by omega) ⟨rfl, List.getElem_mem hj⟩
abbrev sp__law_gain (K : PySem.W.Frag) : Sp := spR K (pre0) (post0 fun r => ∃ k : Int, r = .int k ∧ -999 ≤ k ∧ k ≤ 999)
theorem ok__law_gain (T : Tx K mg) : FnOk P wd K mg base CX0 3 T.f__law_gain T.d__law_gain ["_law_draws"] (sp__law_gain K) := by
  refine fn_R T.F__law_gain sc__law_gain (fun ds h => by cases pre0_inv h; rfl) (fun cdv A outer s H E hr => ⟨_, (have nd := sc__law_gain.nd; (pss_cons (ps_set (i := 1) nd rfl (.inl rfl) (pe_call (ok__law_pick T) (hr.mono (by decide)) rfl T.g__law_pick T.F__law_pick.kp T.b__law_pick .nil pass0 (pa_cons (pv 0) (pa_cons (pe_lst (pa_cons pe_int (pa_cons (pe_un un_neg pe_int) (pa_cons pe_int (pa_cons (pe_un un_neg pe_int) pa_nil))))) pa_nil))))
      (pss_one (ps_ret (pe_call (ok__law_pick T) (hr.mono (by decide)) rfl T.g__law_pick T.F__law_pick.kp T.b__law_pick .nil pass0 (pa_cons (pv 0) (pa_cons (pe_lst (pa_cons pe_int (pa_cons pe_int (pa_cons pe_int (pa_cons pe_int (pa_cons pe_int (pa_cons (pe_un un_neg pe_int) (pa_cons pe_int (pa_cons (pv 1) pa_nil))))))))) pa_nil))))))), fun F0 H0 p c ds hp => ?_⟩)
  walk_at "s"
  cases pre0_inv hp
  show wps _ _ [.dr p c, .no] _ _
  refine wps_seq (wps_asg (wp_callR rfl (wpa_cons (wp_l (wpl_lst (wpa_cons (wp_int (wpa_cons (wp_un (wp_int (ru_ii (wpa_cons (wp_int (wpa_cons (wp_un (wp_int (ru_ii (wpa_nil ⟨by simp, wpa_nil ⟨⟨by simp [itemsP], by simp [itemsP]⟩, fun r e => ?_⟩⟩))))))))))))))))))
  have hr2 : ∃ k : Int, r = .int k ∧ -999 ≤ k ∧ k ≤ 999 := by
    have e' : r ∈ [D.int 7, .int (-40), .int 999, .int (-999)] := e
    simp only [List.mem_cons, List.not_mem_nil, or_false] at e'
    rcases e' with rfl | rfl | rfl | rfl
    · exact ⟨_, rfl, by omega, by omega⟩
    · exact ⟨_, rfl, by omega, by omega⟩
    · exact ⟨_, rfl, by omega, by omega⟩
    · exact ⟨_, rfl, by omega, by omega⟩
  obtain ⟨k, rfl, k0, k1⟩ := hr2
  show wps _ _ [.dr p c, .d (.int k)] _ _
  refine wps_ret (wp_callR rfl (wpa_cons (wp_l (wpl_lst ?_))))
  refine wpa_cons (wp_int (wpa_cons (wp_int (wpa_cons (wp_int (wpa_cons (wp_int (wpa_cons (wp_int (wpa_cons (wp_un (wp_int (ru_ii ?_)))))))))))))
  refine wpa_cons (wp_int (wpa_cons (wp_var rfl (wpa_nil ⟨by simp, wpa_nil ⟨⟨by simp [itemsP], by simp [itemsP]⟩, fun r e => ⟨rfl, ?_⟩⟩⟩))))
  have e' : r ∈ [D.int 0, .int 0, .int 0, .int 1, .int 1, .int (-1), .int 2, .int k] := e
  simp only [List.mem_cons, List.not_mem_nil, or_false] at e'
  rcases e' with rfl | rfl | rfl | rfl | rfl | rfl | rfl | rfl <;> exact ⟨_, rfl, by omega, by omega⟩
abbrev sp__law_made {K : PySem.W.Frag} {mg : Str → Option Value} (T : Tx K mg) : Sp := spP K (pre1 fun x => ∃ k p t, x = .tup [k, p, t] ∧ ProgOk k p t) (post1 fun x r => ∀ k p t, x = .tup [k, p, t] → r = pgD T.a_Program k p t)
theorem ok__law_made (T : Tx K mg) : FnOk P wd K mg base CX0 9 T.f__law_made T.d__law_made ["_law_parts_here"] (sp__law_made T) := by
  refine fn_P T.F__law_made sc__law_made (fun ds h => by obtain ⟨_, rfl, _⟩ := pre1_inv h; rfl) (fun cdv A outer s H E hr => ⟨_, (have nd := sc__law_made.nd; (pss_one (ps_ret (pe_make T.K_Program (ok_Program_init T) (hr.mono (by decide)) rfl T.g_Program T.b_Program_init .nil pass0 (pa_cons (pe_ix ix_tup (pv 0) pe_int (fun _ _ => rfl)) (pa_cons (pe_ix ix_tup (pv 0) pe_int (fun _ _ => rfl)) (pa_cons (pe_ix ix_tup (pv 0) pe_int (fun _ _ => rfl)) pa_nil))))))), fun F0 H0 ds hp => ?_⟩)
  walk_at "s"
  obtain ⟨x, rfl, k, p, t, rfl, hv⟩ := pre1_inv hp
  show wps _ _ [.d (.tup [k, p, t])] _ _
  refine wps_ret (wp_make (wpa_cons (wp_op (wp_var rfl (wp_int (r2_ixT rfl (wpa_cons (wp_op (wp_var rfl (wp_int (r2_ixT rfl ?_)))))))))))
  refine wpa_cons (wp_op (wp_var rfl (wp_int (r2_ixT rfl (wpa_nil ⟨⟨rfl, hv⟩, fun d s' e => ⟨e.1, ?_⟩⟩)))))
  intro k2 p2 t2 e2
  rw [e.2]
  cases e2
  rfl
end Sd
set_option Elab.async false
set_option linter.all false
set_option maxRecDepth 100000
set_option maxHeartbeats 4000000
namespace Sd
open PySem PySem.Spec L2
open SX (S S_len S_cat S_inj)
open TL (numL joinL spl)
local macro_rules | `(tactic| walk_at "r") => `(tactic| (first | (dsimp only [cxOf, Cx.nox, Cx.wish, Cx.blk]; done) | (dsimp only [cxOf, Cx.nox, Cx.wish, Cx.blk]; rfl) | rfl))
local macro_rules | `(tactic| walk_at "k") => `(tactic| kernel_rfl)
local macro_rules | `(tactic| walk_at "s") => `(tactic| try dsimp only [cxOf, List.map_cons, List.map_nil])
local macro_rules | `(tactic| walk_at "d") => `(tactic| first
  | (with_reducible refine wps_seq ?_)
  | (with_reducible refine wps_ret ?_)
  | (with_reducible refine wps_if ?_)
  | (with_reducible refine wps_next ?_)
  | (with_reducible refine wps_drop ?_)
  | (with_reducible refine wpt_test ?_)
  | (with_reducible refine wpt_B ?_)
  | (with_reducible refine wpt_not ?_)
  | (with_reducible refine wpt_or ?_)
  | (with_reducible refine wpt_and ?_)
  | (with_reducible refine wp_andV ?_)
  | (with_reducible refine wp_orV ?_)
  | (with_reducible refine wp_notV ?_)
  | (refine wp_isiB (by decide) ?_)
  | (with_reducible refine wp_chain ?_)
  | (with_reducible refine wp_op ?_)
  | (with_reducible refine wp_tup ?_)
  | (with_reducible refine wpl_lst ?_)
  | (with_reducible refine wp_m1 ?_)
  | (with_reducible refine wp_m0 ?_)
  | (with_reducible refine wp_cb ?_)
  | (with_reducible refine wpa_cons ?_)
  | (with_reducible refine wpa_nil ?_)
  | (with_reducible refine wp_int ?_)
  | (with_reducible refine wp_str ?_)
  | (with_reducible refine wp_bl ?_)
  | (with_reducible refine wp_non ?_)
  | (refine wp_var rfl ?_)
  | (refine rc_len rfl ?_)
  | (refine r2_ii ?_)
  | (refine r2_ib ?_)
  | (refine ⟨_, rfl, ?_⟩))
variable {P : Program} {wd : World} {mg : Str → Option Value} {base : Heap} {K : PySem.W.Frag}
abbrev sp__law_tour (K : PySem.W.Frag) : Sp := spR K (pre2 fun x y => (∃ ks : List (List Nat), x = .tup (ks.map strD) ∧ ks ≠ [] ∧ ks.length ≤ 1000) ∧ ∃ m : Int, y = .int m ∧ 0 ≤ m ∧ m ≤ 900) (post2 fun x y r => ∀ (ks : List (List Nat)) (m : Int), x = .tup (ks.map strD) → y = .int m → ∃ ws : List (List Nat), r = .tup (ws.map strD) ∧ (ws.length : Int) ≤ m ∧ ∀ w ∈ ws, w ∈ ks)
theorem ok__law_tour (T : Tx K mg) : FnOk P wd K mg base CX0 3 T.f__law_tour T.d__law_tour ["_law_draws", "_law_sorts", "_law_most"] (sp__law_tour K) := by
  refine fn_R T.F__law_tour sc__law_tour (fun ds h => by obtain ⟨_, _, rfl, _⟩ := pre2_inv h; rfl) (fun cdv A outer s H E hr => ⟨_, (have nd := sc__law_tour.nd; (pss_one (ps_ret (pe_callTy call_tuple_of rfl T.m_tuple (by decide +kernel) (pa_cons (pe_lc (own := [("_law_k", 3)]) (g := gName 3) rfl nd (pi_range1 rfl T.m_range (pa_cons (pe_call (ok__law_draw T) (hr.mono (by decide)) rfl T.g__law_draw T.F__law_draw.kp T.b__law_draw .nil pass0 (pa_cons (pv 0) (pa_cons (pe_op op_add (pv 2) pe_int) pa_nil))) pa_nil)) (blkOk_by (N := N__law_tour) (sc := defScope s__law_tour) (by decide +kernel)) (fun _ _ _ _ _ => (pg_name (i := 3) nd rfl (.inl rfl))) (fun _ _ _ _ _ => pts_nil) (fun _ _ _ _ _ => (castE (pe_call (ok__law_pick T) (hr.mono (by decide)) rfl T.g__law_pick T.F__law_pick.kp T.b__law_pick .nil pass0 (pa_cons (pv 0) (pa_cons (pv 1) pa_nil))) (by walk_at "r")))) pa_nil))))), fun F0 H0 p c ds hp => ?_⟩)
  walk_at "s"
  obtain ⟨x, y, rfl, ⟨ks, rfl, hk, hkl⟩, m, rfl, m0, m1⟩ := pre2_inv hp
  show wps _ _ [.dr p c, .d (.tup (ks.map strD)), .d (.int m), .no] _ _
  refine wps_ret (wp_cb (wpa_cons (wp_l (wpl_each (fun d => d ∈ ks.map strD) rfl (wpi_rng ?_)))))
  refine wpa_cons (wp_callR rfl (wpa_cons (wp_op (wp_var rfl (wp_int (r2_ii (wpa_nil ⟨⟨m + 1, rfl, by omega, by omega⟩, fun r e => ?_⟩)))))))
  obtain ⟨k, rfl, k0, k1⟩ := e (m + 1) rfl
  refine wpa_nil ⟨k, rfl, by omega, ?_, fun d a o hd => ?_, fun ys h1 h2 => wpa_nil (rc_tupL ⟨rfl, fun ks2 m2 e1 e2 => ?_⟩)⟩
  · rw [List.length_map, List.length_range]; omega
  · refine wp_callR rfl (wpa_cons (wp_var rfl (wpa_nil ⟨⟨?_, ?_⟩, fun r e => e⟩)))
    · show ks.map strD ≠ []
      simpa using hk
    · show (ks.map strD).length ≤ 1000
      rw [List.length_map]; exact hkl
  · cases kD_inj (D.tup.inj e1)
    cases e2
    obtain ⟨ws, rfl, h3, h4⟩ := strs_of (P := fun w => w ∈ ks) fun y hy => by
      obtain ⟨w, hw, rfl⟩ := List.mem_map.mp (h2 y hy)
      exact ⟨w, rfl, hw⟩
    refine ⟨ws, rfl, ?_, h4⟩
    rw [h3, h1, List.length_map, List.length_range]
    omega
abbrev sp__law_lines (K : PySem.W.Frag) : Sp := spP K (pre1 fun x => ∃ g : Pg, x = g.D ∧ PgS g) (post1 fun x d => ∀ g : Pg, x = g.D → d = .lst (g.lines.map strD))
theorem ok__law_lines (T : Tx K mg) : FnOk P wd K mg base CX0 1 T.f__law_lines T.d__law_lines ["_law_parts_here"] (sp__law_lines K) := by
  refine fn_P T.F__law_lines sc__law_lines (fun ds h => by obtain ⟨_, rfl, _⟩ := pre1_inv h; rfl) (fun cdv A outer s H E hr => ⟨_, (have nd := sc__law_lines.nd; (pss_cons (ps_set (i := 1) nd rfl (.inl rfl) (pe_lst (pa_cons (pe_join pe_str (pe_op op_cat (pe_lst (pa_cons pe_str pa_nil)) (pe_callTy call_list_of rfl T.m_list (by decide +kernel) (pa_cons (pe_ix ix_tup (pv 0) pe_int (fun _ _ => rfl)) pa_nil)))) pa_nil)))
      (pss_cons (ps_for PassesOwn.never rfl (pi_tup (pe_ix ix_tup (pv 0) pe_int (fun _ _ => rfl))) (pg_tup rfl (pgs_cons (pg_name (i := 2) nd rfl (.inl rfl)) (pgs_cons (pg_name (i := 3) nd rfl (.inl rfl)) pgs_nil))) (pss_cons (ps_expr (pe_bm PySem.F.plainAttrs_list PySem.F.slot_list_append PySem.F.type_list_append mt_append (pv 1) (pa_cons (pe_join pe_str (pe_op op_cat (pe_lst (pa_cons pe_str pa_nil)) (pe_lc (own := [("_law_state_here", 5)]) (g := gName 5) rfl nd (pi_tup (pv 2)) (blkOk_by (N := N__law_lines) (sc := defScope s__law_lines) (by decide +kernel)) (fun _ _ _ _ _ => (pg_name (i := 5) nd rfl (.inl rfl))) (fun _ _ _ _ _ => pts_nil) (fun _ _ _ _ _ => (castE (pe_callTy call_str_int rfl T.m_str (by decide +kernel) (pa_cons (pv 5) pa_nil)) (by walk_at "r")))))) pa_nil)))
      (pss_one (ps_for PassesOwn.never rfl (pi_tup (pv 3)) (pg_name (i := 4) nd rfl (.inl rfl)) (pss_one (ps_expr (pe_bm PySem.F.plainAttrs_list PySem.F.slot_list_append PySem.F.type_list_append mt_append (pv 1) (pa_cons (pe_op op_add_str pe_str (pe_join pe_str (pe_lc (own := [("_law_state_here", 5), ("_law_gain_here", 6)]) (g := gTup _ 2 (gCons (gName 5) (gCons (gName 6) gNil))) rfl nd (pi_tup (pv 4)) (blkOk_by (N := N__law_lines) (sc := defScope s__law_lines) (by decide +kernel)) (fun _ _ _ _ _ => (pg_tup rfl (pgs_cons (pg_name (i := 5) nd rfl (.inl rfl)) (pgs_cons (pg_name (i := 6) nd rfl (.inl rfl)) pgs_nil)))) (fun _ _ _ _ _ => pts_nil) (fun _ _ _ _ _ => (castE (pe_op op_add_str (pe_op op_add_str (pe_callTy call_str_int rfl T.m_str (by decide +kernel) (pa_cons (pv 5) pa_nil)) pe_str) (pe_callTy call_str_int rfl T.m_str (by decide +kernel) (pa_cons (pv 6) pa_nil))) (by walk_at "r")))))) pa_nil))))))))
      (pss_one (ps_ret (pe_op op_cat (pv 1) (pe_lc (own := [("_law_label", 7), ("_law_extra", 8)]) (g := gTup _ 2 (gCons (gName 7) (gCons (gName 8) gNil))) rfl nd (pi_tup (pe_ix ix_tup (pv 0) pe_int (fun _ _ => rfl))) (blkOk_by (N := N__law_lines) (sc := defScope s__law_lines) (by decide +kernel)) (fun _ _ _ _ _ => (pg_tup rfl (pgs_cons (pg_name (i := 7) nd rfl (.inl rfl)) (pgs_cons (pg_name (i := 8) nd rfl (.inl rfl)) pgs_nil)))) (fun _ _ _ _ _ => pts_nil) (fun _ _ _ _ _ => (castE (pe_op op_add_str (pe_op op_add_str (pe_op op_add_str pe_str (pv 7)) pe_str) (pe_callTy call_str_int rfl T.m_str (by decide +kernel) (pa_cons (pv 8) pa_nil))) (by walk_at "r")))))))))), fun F0 H0 ds hp => ?_⟩)
  walk_at "s"
  obtain ⟨x, rfl, g, rfl, hs⟩ := pre1_inv hp
  show wps _ _ [.d g.D, .no, .no, .no, .no, .no, .no, .no, .no] _ _
  obtain ⟨hll, hlw⟩ := lines_len hs
  refine wps_seq (wps_asgL (wpl_lst (wpa_is (strD (kindsC g.ks)) ?_ (wpa_nil ⟨by simp, ?_⟩))))
  · refine wp_m1 (wp_str ⟨⟨_, rfl⟩, ?_⟩)
    refine wp_is (.lst ((wKinds :: g.ks).map strD)) (wp_l (wpl_op ?_)) ?_
    · refine wp_is (.lst [strD wKinds]) (wp_l (wpl_lst (wpa_cons (wp_str (wpa_nil ⟨by simp, by rw [show ("kinds" : Str) = S wKinds by decide +kernel]⟩))))) ?_
      refine wp_is (.lst (g.ks.map strD)) (wp_l (wpl_cb (wpa_cons (wp_op (wp_var rfl (wp_int (r2_ixT rfl (wpa_nil (rc_list rfl rfl))))))))) ?_
      refine r2_cat ?_ rfl
      rw [List.length_map]
      have := hs.k
      show 1 + _ ≤ _
      omega
    · have hps : ∀ q ∈ wKinds :: g.ks, q.length ≤ 8 := fun q hq => by
        rcases List.mem_cons.mp hq with rfl | hq
        · decide
        · exact hs.kw q hq
      rw [strs_map, show (" " : Str) = S [32] by decide +kernel]
      have hsum := sum_len hps
      refine rm_join ?_ ?_
      · rw [List.length_map]
        simp only [List.length_cons] at hsum ⊢
        have := hs.k
        rw [S_len]
        show _ + _ * 1 ≤ _
        omega
      · rw [join_SS]
        rfl
  show wps _ _ [.d g.D, .l [strD (kindsC g.ks)], .no, .no, .no, .no, .no, .no, .no] _ _
  refine wps_seq (wps_for (ts := [2, 3]) (wpi_tup (wp_op (wp_var rfl (wp_int (r2_ixT rfl ⟨g.ps.map pasD, rfl, ?_⟩))))))
  refine ⟨fun i G => ∃ z1 z2 z3, G = [.d g.D, .l (strD (kindsC g.ks) :: ((g.ps.take i).flatMap pasC).map strD), z1, z2, z3, .no, .no, .no, .no], ⟨_, _, _, rfl⟩, fun i d G hd hI => ?_, fun G hI => ?_⟩
  · obtain ⟨z1, z2, z3, rfl⟩ := hI
    obtain ⟨p, hp, rfl⟩ := map_at hd
    have hps := hs.pw p (List.mem_of_getElem? hp)
    have h1 := (pasC_len hps).1
    have h2 := (flat_len (ps := g.ps.take i) fun x hx => hs.pw x (List.mem_of_mem_take hx)).1
    have h3 : (g.ps.take i).length * 101 ≤ 2 * 101 := Nat.mul_le_mul (by rw [List.length_take]; have := hs.p; omega) (Nat.le_refl _)
    refine wpg_tup rfl rfl (wpgs_cons (wpg_name (by simp) (wpgs_cons (wpg_name (by simp) (wpgs_nil ?_)))))
    show wps _ _ [.d g.D, .l (strD (kindsC g.ks) :: ((g.ps.take i).flatMap pasC).map strD), .d (intsD p.1), .d (rowsD p.2), z3, .no, .no, .no, .no] _ _
    refine wps_seq (wps_append rfl (wp_is (strD (begC p.1)) ?_ ⟨?_, ?_⟩))
    · have hps7 : ∀ q ∈ wPass :: p.1.map intL, q.length ≤ 7 := fun q hq => by
        rcases List.mem_cons.mp hq with rfl | hq
        · decide
        · obtain ⟨i, hi, rfl⟩ := List.mem_map.mp hq
          exact intL_len (hps.s i hi)
      refine wp_m1 (wp_str ⟨⟨_, rfl⟩, ?_⟩)
      refine wp_is (.lst ((wPass :: p.1.map intL).map strD)) (wp_l (wpl_op ?_)) ?_
      · refine wp_is (.lst [strD wPass]) (wp_l (wpl_lst (wpa_cons (wp_str (wpa_nil ⟨by simp, by rw [show ("pass" : Str) = S wPass by decide +kernel]⟩))))) ?_
        refine wp_is (.lst (p.1.map fun i => strD (intL i))) (wp_l (wpl_map (fun d => match d with | .int i => strD (intL i) | _ => .non) rfl (wpi_tup ?_))) ?_
        · refine wp_var rfl ⟨p.1.map .int, rfl, by rw [List.length_map]; have := hps.b; omega, fun d a o hd => ?_, ?_⟩
          · obtain ⟨i, hi, rfl⟩ := List.mem_map.mp hd
            exact wp_cb (wpa_cons (wp_var rfl (wpa_nil (rc_strI (log_small (hps.s i hi)) (congrArg D.str (int_S i))))))
          · congr 1
            rw [List.map_map]
            rfl
        · refine r2_cat ?_ ?_
          · rw [List.length_map]; have := hps.b; show 1 + _ ≤ _; omega
          · show D.lst _ = D.lst _
            rw [List.map_cons, List.map_map]
            rfl
      · rw [strs_map, show (" " : Str) = S [32] by decide +kernel]
        have hsum := sum_len hps7
        refine rm_join ?_ ?_
        · rw [List.length_map]
          simp only [List.length_cons, List.length_map] at hsum ⊢
          have e : (p.1.length + 1) * 7 ≤ 101 * 7 := Nat.mul_le_mul (by have := hps.b; omega) (Nat.le_refl _)
          have := hps.b
          rw [S_len]
          show _ + _ * 1 ≤ _
          omega
        · rw [join_SS]
          rfl
    · simp only [List.length_cons, List.length_map]
      omega
    · show wps _ _ [.d g.D, .l (strD (kindsC g.ks) :: ((g.ps.take i).flatMap pasC).map strD ++ [strD (begC p.1)]), .d (intsD p.1), .d (rowsD p.2), z3, .no, .no, .no, .no] _ _
      refine wps_for (ts := [4]) (wpi_tup (wp_var rfl ⟨p.2.map rowD, rfl, ?_⟩))
      refine ⟨fun k G => ∃ z3, G = [.d g.D, .l (strD (kindsC g.ks) :: ((g.ps.take i).flatMap pasC).map strD ++ [strD (begC p.1)] ++ ((p.2.take k).map rowC).map strD), .d (intsD p.1), .d (rowsD p.2), z3, .no, .no, .no, .no], ⟨z3, by simp⟩, fun k d G hd hI => ?_, fun G hI => ?_⟩
      · obtain ⟨z3, rfl⟩ := hI
        obtain ⟨r, hr0, rfl⟩ := map_at hd
        have hr := hps.w r (List.mem_of_getElem? hr0)
        have hl := rowC_len hr
        have hrp := hps.r
        refine wpg_name (by simp) ?_
        refine wps_append rfl (wp_is (strD (rowC r)) ?_ ⟨?_, ?_⟩)
        · have hps15 : ∀ p ∈ r.map pairC, p.length ≤ 15 := fun p hp => by
            obtain ⟨q, hq, rfl⟩ := List.mem_map.mp hp
            exact pairC_len (hr.2 q hq)
          refine wp_op (wp_str (wp_m1 (wp_str ⟨⟨_, rfl⟩, ?_⟩)))
          refine wp_is (.lst ((r.map pairC).map strD)) (wp_l (wpl_map2 (fun d => match d with | .tup [.int a, .int b] => strD (pairC (a, b)) | _ => .non) rfl rfl (wpi_tup ?_))) ?_
          · refine wp_var rfl ⟨r.map pairD, rfl, by rw [List.length_map]; omega, fun d a o hd => ?_, ?_⟩
            · obtain ⟨q, hq, rfl⟩ := List.mem_map.mp hd
              obtain ⟨h1, h2⟩ := hr.2 q hq
              have l1 := intL_len h1
              have l2 := intL_len h2
              refine ⟨_, _, rfl, wp_op (wp_op (wp_cb (wpa_cons (wp_var rfl (wpa_nil (rc_strI (log_small h1) (wp_str ?_)))))))⟩
              rw [show (" " : Str) = S [32] by decide +kernel]
              have e1 : (Str.ofString (toString q.1)) = S (intL q.1) := int_S _
              have e2 : (Str.ofString (toString q.2)) = S (intL q.2) := int_S _
              rw [e1]
              refine r2_addS (by rw [S_len, S_len]; show _ + 1 ≤ _; omega) ?_
              rw [S_cat]
              refine wp_cb (wpa_cons (wp_var rfl (wpa_nil (rc_strI (log_small h2) ?_))))
              rw [e2]
              refine r2_addS (by rw [S_len, S_len, List.length_append]; show _ + 1 + _ ≤ _; omega) ?_
              rw [S_cat, List.append_assoc]
              rfl
            · congr 1
              rw [List.map_map, List.map_map]
              rfl
          · rw [strs_map]
            have hsum : (((r.map pairC).map S).map (·.length)).sum ≤ 60 := by
              have := sum_len hps15
              rw [List.length_map] at this
              have e : r.length * 15 ≤ 4 * 15 := Nat.mul_le_mul hr.1 (Nat.le_refl _)
              omega
            rw [show (" " : Str) = S [32] by decide +kernel]
            refine rm_join ?_ ?_
            · rw [List.length_map, List.length_map]
              show _ + _ * 1 ≤ _
              have := hr.1
              omega
            · rw [join_SS, show ("  " : Str) = S [32, 32] by decide +kernel]
              have hj : (joinL [32] (r.map pairC)).length ≤ 66 := by
                unfold rowC at hl
                rw [List.length_append] at hl
                omega
              refine r2_addS ?_ ?_
              · rw [S_len, S_len]; show 2 + _ ≤ _; omega
              · rw [S_cat]
                rfl
        · have : (p.2.take k).length ≤ 100 := by rw [List.length_take]; omega
          simp only [List.length_cons, List.length_map, List.length_append, List.length_nil]
          omega
        · refine ⟨.d (rowD r), ?_⟩
          show [_, _, _, _, _, _, _, _, _] = [_, _, _, _, _, _, _, _, _]
          rw [List.take_add_one, hr0]
          simp
      · obtain ⟨z3, rfl⟩ := hI
        refine ⟨.d (intsD p.1), .d (rowsD p.2), z3, ?_⟩
        rw [List.length_map, List.take_of_length_le (Nat.le_refl _), List.take_add_one, hp]
        unfold pasC
        simp
  · obtain ⟨z1, z2, z3, rfl⟩ := hI
    rw [List.length_map, List.take_of_length_le (Nat.le_refl _)]
    refine wps_know 1 rfl (wps_ret (wp_l (wpl_op (wp_var rfl ?_))))
    refine wp_is (.lst (g.ts.map fun t => strD (telC t))) (wp_l (wpl_lcNN rfl rfl (wpi_tup (wp_op (wp_var rfl (wp_int (r2_ixT rfl ⟨g.ts.map telD, rfl, ?_⟩))))))) ?_
    · refine ⟨by rw [List.length_map]; have := hs.t; omega, fun i acc => acc = (g.ts.take i).map fun t => strD (telC t), rfl, fun i d acc a o hd hI => ?_, fun acc hI => ?_⟩
      · obtain ⟨t, ht, rfl⟩ := map_at hd
        obtain ⟨h1, h2⟩ := hs.tw t (List.mem_of_getElem? ht)
        have l2 := intL_len h2
        have e2 : (Str.ofString (toString t.2)) = S (intL t.2) := int_S _
        refine ⟨_, _, rfl, wpt_yes (iteT (wp_op (wp_op (wp_op (wp_str (wp_var rfl ?_))))))⟩
        rw [show ("tell " : Str) = S (wTell ++ [32]) by decide +kernel]
        refine r2_addS (by rw [S_len, S_len]; show 5 + _ ≤ _; omega) ?_
        rw [S_cat, show (" " : Str) = S [32] by decide +kernel]
        refine wp_str (r2_addS (by rw [S_len, S_len, List.length_append]; show 5 + _ + 1 ≤ _; omega) ?_)
        rw [S_cat]
        refine wp_cb (wpa_cons (wp_var rfl (wpa_nil (rc_strI (log_small h2) ?_))))
        rw [e2]
        refine r2_addS (by rw [S_len, S_len, List.length_append, List.length_append]; show 5 + _ + 1 + _ ≤ _; omega) ?_
        rw [S_cat]
        show acc ++ [_] = (g.ts.take (i + 1)).map fun t => strD (telC t)
        have hI' : acc = (g.ts.take i).map fun t => strD (telC t) := hI
        rw [hI', List.take_add_one, ht, List.map_append]
        congr 1
        show [D.str _] = [D.str _]
        congr 2
        unfold telC
        simp [List.append_assoc]
      · have hI' : acc = (g.ts.take (g.ts.map telD).length).map fun t => strD (telC t) := hI
        rw [hI', List.length_map, List.take_of_length_le (Nat.le_refl _)]
    · have eL : strD (kindsC g.ks) :: List.map strD (g.ps.flatMap pasC) ++ g.ts.map (fun t => strD (telC t)) = g.lines.map strD := by
        unfold Pg.lines
        simp
      refine r2_cat ?_ fun g2 e => ?_
      · have := congrArg List.length eL
        rw [List.length_append, List.length_map (as := g.lines)] at this
        rw [this]
        omega
      · rw [eL, Pg.D_inj e.symm]
abbrev sp__law_page (K : PySem.W.Frag) : Sp := spP K (pre1 fun x => ∃ ls : List (List Nat), x = .lst (ls.map strD) ∧ ls.length ≤ 303 ∧ ∀ l ∈ ls, l.length ≤ 808) (post1 fun x d => ∀ ls : List (List Nat), x = .lst (ls.map strD) → d = strD (pageC ls))
theorem ok__law_page (T : Tx K mg) : FnOk P wd K mg base CX0 1 T.f__law_page T.d__law_page ["_law_lines_here"] (sp__law_page K) := by
  refine fn_P T.F__law_page sc__law_page (fun ds h => by obtain ⟨_, rfl, _⟩ := pre1_inv h; rfl) (fun cdv A outer s H E hr => ⟨_, (have nd := sc__law_page.nd; (pss_one (ps_ret (pe_join pe_str (pe_lc (own := [("_law_line", 1)]) (g := gName 1) rfl nd (pi_list (pv 0)) (blkOk_by (N := N__law_page) (sc := defScope s__law_page) (by decide +kernel)) (fun _ _ _ _ _ => (pg_name (i := 1) nd rfl (.inl rfl))) (fun _ _ _ _ _ => pts_nil) (fun _ _ _ _ _ => (castE (pe_op op_add_str (pv 1) pe_str) (by walk_at "r")))))))), fun F0 H0 ds hp => ?_⟩)
  walk_at "s"
  obtain ⟨x, rfl, ls, rfl, hl, hw⟩ := pre1_inv hp
  show wps _ _ [.d (.lst (ls.map strD)), .no] _ _
  refine wps_ret (wp_m1 (wp_str ⟨⟨_, rfl⟩, ?_⟩))
  refine wp_is (.lst ((ls.map (· ++ [10])).map strD)) (wp_l (wpl_lcN rfl (wpi_lst ?_))) ?_
  · refine wp_var rfl ⟨_, rfl, by rw [List.length_map]; omega, fun i acc => acc = ((ls.take i).map (· ++ [10])).map strD, rfl, fun i d acc a o hd hI => ?_, fun acc hI => ?_⟩
    · obtain ⟨l, hl, rfl⟩ := map_at hd
      have := hw l (List.mem_of_getElem? hl)
      refine wpt_yes (iteT (wp_op (wp_var rfl (wp_str ?_))))
      have en : ("\n" : Str) = S [10] := by decide +kernel
      rw [en]
      refine r2_addS (by rw [S_len, S_len]; show _ + 1 ≤ _; omega) ?_
      rw [S_cat]
      have hI' : acc = ((ls.take i).map (· ++ [10])).map strD := hI
      show acc ++ [_] = ((ls.take (i + 1)).map (· ++ [10])).map strD
      rw [hI', List.take_add_one, hl, List.map_append, List.map_append]
      rfl
    · have hI' : acc = ((ls.take (ls.map strD).length).map (· ++ [10])).map strD := hI
      rw [hI', List.length_map, List.take_of_length_le (Nat.le_refl _)]
  · rw [strs_map, show ("" : Str) = S [] by decide +kernel]
    refine rm_join ?_ fun ls2 e2 => ?_
    · have := sum_len (m := 809) (ps := ls.map (· ++ [10])) fun q hq => by
        obtain ⟨l, hl, rfl⟩ := List.mem_map.mp hq
        have := hw l hl
        rw [List.length_append]
        show _ + 1 ≤ _
        omega
      rw [List.length_map (f := fun x => x ++ [10])] at this
      have e3 : ls.length * 809 ≤ 303 * 809 := Nat.mul_le_mul hl (Nat.le_refl _)
      rw [S_len]
      show _ + _ * 0 ≤ _
      omega
    · rw [join_SS, kD_inj (D.lst.inj e2.symm)]
      rfl
end Sd
set_option Elab.async false
set_option linter.all false
set_option maxRecDepth 100000
set_option maxHeartbeats 4000000
namespace Sd
open PySem PySem.Spec L2
open SX (S S_len S_cat S_inj)
open TL (numL joinL spl)
local macro_rules | `(tactic| walk_at "r") => `(tactic| (first | (dsimp only [cxOf, Cx.nox, Cx.wish, Cx.blk]; done) | (dsimp only [cxOf, Cx.nox, Cx.wish, Cx.blk]; rfl) | rfl))
local macro_rules | `(tactic| walk_at "k") => `(tactic| kernel_rfl)
local macro_rules | `(tactic| walk_at "s") => `(tactic| try dsimp only [cxOf, List.map_cons, List.map_nil])
local macro_rules | `(tactic| walk_at "d") => `(tactic| first
  | (with_reducible refine wps_seq ?_)
  | (with_reducible refine wps_ret ?_)
  | (with_reducible refine wps_if ?_)
  | (with_reducible refine wps_next ?_)
  | (with_reducible refine wps_drop ?_)
  | (with_reducible refine wpt_test ?_)
  | (with_reducible refine wpt_B ?_)
  | (with_reducible refine wpt_not ?_)
  | (with_reducible refine wpt_or ?_)
  | (with_reducible refine wpt_and ?_)
  | (with_reducible refine wp_andV ?_)
  | (with_reducible refine wp_orV ?_)
  | (with_reducible refine wp_notV ?_)
  | (refine wp_isiB (by decide) ?_)
  | (with_reducible refine wp_chain ?_)
  | (with_reducible refine wp_op ?_)
  | (with_reducible refine wp_tup ?_)
  | (with_reducible refine wpl_lst ?_)
  | (with_reducible refine wp_m1 ?_)
  | (with_reducible refine wp_m0 ?_)
  | (with_reducible refine wp_cb ?_)
  | (with_reducible refine wpa_cons ?_)
  | (with_reducible refine wpa_nil ?_)
  | (with_reducible refine wp_int ?_)
  | (with_reducible refine wp_str ?_)
  | (with_reducible refine wp_bl ?_)
  | (with_reducible refine wp_non ?_)
  | (refine wp_var rfl ?_)
  | (refine rc_len rfl ?_)
  | (refine r2_ii ?_)
  | (refine r2_ib ?_)
  | (refine ⟨_, rfl, ?_⟩))
variable {P : Program} {wd : World} {mg : Str → Option Value} {base : Heap} {K : PySem.W.Frag}
abbrev sp__law_lap (K : PySem.W.Frag) : Sp := spR K (pre3 fun x y z => ∃ a b c : Nat, x = .int a ∧ y = .int b ∧ z = .int c ∧ a ≤ 100 ∧ b ≤ 100 ∧ 1 ≤ c ∧ c ≤ 100) (post3 fun x y z r => ∀ a b c : Nat, x = .int a → y = .int b → z = .int c → ∃ p : Pas, r = pasD p ∧ LapOk a b c p)
theorem ok__law_lap (T : Tx K mg) : FnOk P wd K mg base CX0 4 T.f__law_lap T.d__law_lap ["_law_draws", "_law_size", "_law_starts", "_law_most"] (sp__law_lap K) := by
  refine fn_R T.F__law_lap sc__law_lap (fun ds h => by obtain ⟨_, _, _, rfl, _⟩ := pre3_inv h; rfl) (fun cdv A outer s H E hr => ⟨_, (have nd := sc__law_lap.nd; (pss_cons (ps_asg (pe_tup (pa_cons (pe_op op_add pe_int (pe_call (ok__law_draw T) (hr.mono (by decide)) rfl T.g__law_draw T.F__law_draw.kp T.b__law_draw .nil pass0 (pa_cons (pv 0) (pa_cons (pv 3) pa_nil)))) (pa_cons (pe_lst pa_nil) pa_nil))) (pg_tup rfl (pgs_cons (pg_name (i := 4) nd rfl (.inr rfl)) (pgs_cons (pg_name (i := 5) nd rfl (.inl rfl)) pgs_nil))))
      (pss_cons (ps_for PassesOwn.never rfl (pi_range1 rfl T.m_range (pa_cons (pv 4) pa_nil)) (pg_name (i := 6) nd rfl (.inl rfl)) (pss_cons (ps_set (i := 7) nd rfl (.inl rfl) (pe_lst pa_nil))
      (pss_cons (ps_for PassesOwn.never rfl (pi_range1 rfl T.m_range (pa_cons (pv 1) pa_nil)) (pg_name (i := 8) nd rfl (.inl rfl)) (pss_one (ps_expr (pe_bm PySem.F.plainAttrs_list PySem.F.slot_list_append PySem.F.type_list_append mt_append (pv 7) (pa_cons (pe_tup (pa_cons (pe_call (ok__law_pick T) (hr.mono (by decide)) rfl T.g__law_pick T.F__law_pick.kp T.b__law_pick .nil pass0 (pa_cons (pv 0) (pa_cons (pe_lst (pa_cons (pv 6) (pa_cons (pe_call (ok__law_draw T) (hr.mono (by decide)) rfl T.g__law_draw T.F__law_draw.kp T.b__law_draw .nil pass0 (pa_cons (pv 0) (pa_cons (pv 4) pa_nil))) pa_nil))) pa_nil))) (pa_cons (pe_call (ok__law_gain T) (hr.mono (by decide)) rfl T.g__law_gain T.F__law_gain.kp T.b__law_gain .nil pass0 (pa_cons (pv 0) pa_nil)) pa_nil))) pa_nil)))))
      (pss_one (ps_expr (pe_bm PySem.F.plainAttrs_list PySem.F.slot_list_append PySem.F.type_list_append mt_append (pv 5) (pa_cons (pe_callTy call_tuple_of rfl T.m_tuple (by decide +kernel) (pa_cons (pv 7) pa_nil)) pa_nil)))))))
      (pss_one (ps_ret (pe_tup (pa_cons (pe_callTy call_tuple_of rfl T.m_tuple (by decide +kernel) (pa_cons (pe_lc (own := [("_law_k", 8)]) (g := gName 8) rfl nd (pi_range1 rfl T.m_range (pa_cons (pv 2) pa_nil)) (blkOk_by (N := N__law_lap) (sc := defScope s__law_lap) (by decide +kernel)) (fun _ _ _ _ _ => (pg_name (i := 8) nd rfl (.inl rfl))) (fun _ _ _ _ _ => pts_nil) (fun _ _ _ _ _ => (castE (pe_call (ok__law_draw T) (hr.mono (by decide)) rfl T.g__law_draw T.F__law_draw.kp T.b__law_draw .nil pass0 (pa_cons (pv 0) (pa_cons (pv 4) pa_nil))) (by walk_at "r")))) pa_nil)) (pa_cons (pe_callTy call_tuple_of rfl T.m_tuple (by decide +kernel) (pa_cons (pv 5) pa_nil)) pa_nil)))))))), fun F0 H0 p c ds hp => ?_⟩)
  walk_at "s"
  obtain ⟨x, y, z, rfl, sz, st, mo, rfl, rfl, rfl, hsz, hst, hm1, hm⟩ := pre3_inv hp
  show wps _ _ [.dr p c, .d (.int sz), .d (.int st), .d (.int mo), .no, .no, .no, .no, .no] _ _
  refine wps_seq (wps_asgT2 (wp_op (wp_int (wp_callR rfl (wpa_cons (wp_var rfl (wpa_nil ⟨⟨(mo : Int), rfl, by omega, by omega⟩, fun r e => ?_⟩)))))))
  obtain ⟨k, rfl, k0, k1⟩ := e mo rfl
  refine r2_ii ?_
  obtain ⟨n, hn⟩ : ∃ n : Nat, 1 + k = n := ⟨_, (Int.toNat_of_nonneg (by omega)).symm⟩
  rw [hn]
  have n1 : 1 ≤ n := by omega
  have nm : n ≤ mo := by omega
  show wps _ _ [.dr p c, .d (.int sz), .d (.int st), .d (.int mo), .d (.int n), .l [], .no, .no, .no] _ _
  refine wps_seq (wps_for (ts := [6]) (wpi_rng (wpa_cons (wp_var rfl (wpa_nil ⟨n, rfl, by omega, ?_⟩)))))
  refine ⟨fun i G => ∃ (rows : List Row) (z1 z2 z3 : Ent), G = [.dr p c, .d (.int sz), .d (.int st), .d (.int mo), .d (.int n), .l (rows.map rowD), z1, z2, z3] ∧ rows.length = i ∧ ∀ x ∈ rows, x.length = sz ∧ ∀ q ∈ x, (0 ≤ q.1 ∧ q.1 < n) ∧ -999 ≤ q.2 ∧ q.2 ≤ 999, ⟨[], .no, .no, .no, rfl, rfl, by simp⟩, fun i d G hd hI => ?_, fun G hI => ?_⟩
  · obtain ⟨rows, z1, z2, z3, rfl, hl, hr⟩ := hI
    obtain ⟨at_, hat, rfl⟩ := map_at hd
    have hi := (List.getElem?_eq_some_iff.mp hat).1
    rw [List.length_range] at hi
    have hat' : at_ = i := by
      rw [List.getElem?_range hi] at hat
      exact (Option.some.inj hat).symm
    subst hat'
    have hin : at_ < n := by omega
    refine wpg_name (by simp) ?_
    show wps _ _ [.dr p c, .d (.int sz), .d (.int st), .d (.int mo), .d (.int n), .l (rows.map rowD), .d (.int at_), z2, z3] _ _
    refine wps_seq (wps_asgL (wpl_lst (wpa_nil ⟨by simp, ?_⟩)))
    show wps _ _ [.dr p c, .d (.int sz), .d (.int st), .d (.int mo), .d (.int n), .l (rows.map rowD), .d (.int at_), .l [], z3] _ _
    refine wps_seq (wps_for (ts := [8]) (wpi_rng (wpa_cons (wp_var rfl (wpa_nil ⟨sz, rfl, by omega, ?_⟩)))))
    refine ⟨fun j G => ∃ (row : Row) (z3 : Ent), G = [.dr p c, .d (.int sz), .d (.int st), .d (.int mo), .d (.int n), .l (rows.map rowD), .d (.int at_), .l (row.map pairD), z3] ∧ row.length = j ∧ ∀ q ∈ row, (0 ≤ q.1 ∧ q.1 < n) ∧ -999 ≤ q.2 ∧ q.2 ≤ 999, ⟨[], z3, rfl, rfl, by simp⟩, fun j d G hd hI => ?_, fun G hI => ?_⟩
    · obtain ⟨row, z3, rfl, hl2, hr2⟩ := hI
      have hj := (List.getElem?_eq_some_iff.mp hd).1
      rw [List.length_map, List.length_range] at hj
      refine wpg_name (by simp) ?_
      show wps _ _ [.dr p c, .d (.int sz), .d (.int st), .d (.int mo), .d (.int n), .l (rows.map rowD), .d (.int at_), .l (row.map pairD), .d d] _ _
      refine wps_append rfl (wp_tup (wpa_cons (wp_callR rfl (wpa_cons (wp_l (wpl_lst (wpa_cons (wp_var rfl (wpa_cons (wp_callR rfl (wpa_cons (wp_var rfl (wpa_nil ⟨⟨(n : Int), rfl, by omega, by omega⟩, fun r e => ?_⟩)))))))))))))
      obtain ⟨s2, rfl, s20, s21⟩ := e n rfl
      refine wpa_nil ⟨by simp, wpa_nil ⟨⟨by simp [itemsP], by simp [itemsP]⟩, fun r e => ?_⟩⟩
      have hs : ∃ s : Int, r = .int s ∧ 0 ≤ s ∧ s < n := by
        have e' : r ∈ [D.int at_, .int s2] := e
        simp only [List.mem_cons, List.not_mem_nil, or_false] at e'
        rcases e' with rfl | rfl
        · exact ⟨_, rfl, by omega, by omega⟩
        · exact ⟨_, rfl, s20, s21⟩
      obtain ⟨s, rfl, s0, s1⟩ := hs
      refine wpa_cons (wp_callR rfl (wpa_nil ⟨trivial, fun r e => ?_⟩))
      obtain ⟨g, rfl, g0, g1⟩ := e
      refine wpa_nil ⟨by simp, ?_, row ++ [(s, g)], .d d, ?_, by rw [List.length_append, hl2]; rfl, fun q hq => ?_⟩
      · rw [List.length_map]; omega
      · rw [List.map_append]; rfl
      · rcases List.mem_append.mp hq with hq | hq
        · exact hr2 q hq
        · obtain rfl : q = (s, g) := by simpa using hq
          exact ⟨⟨s0, s1⟩, g0, g1⟩
    · obtain ⟨row, z3, rfl, hl2, hr2⟩ := hI
      rw [List.length_map, List.length_range] at hl2
      refine wps_know 7 rfl ?_
      show wps _ _ [.dr p c, .d (.int sz), .d (.int st), .d (.int mo), .d (.int n), .l (rows.map rowD), .d (.int at_), .d (.lst (row.map pairD)), z3] _ _
      refine wps_append rfl (wp_cb (wpa_cons (wp_var rfl (wpa_nil (rc_tupL ⟨?_, rows ++ [row], .d (.int at_), .d (.lst (row.map pairD)), z3, ?_, by rw [List.length_append, hl]; rfl, fun x hx => ?_⟩)))))
      · rw [List.length_map]; omega
      · rw [List.map_append]; rfl
      · rcases List.mem_append.mp hx with hx | hx
        · exact hr x hx
        · obtain rfl : x = row := by simpa using hx
          exact ⟨by omega, hr2⟩
  · obtain ⟨rows, z1, z2, z3, rfl, hl, hr⟩ := hI
    rw [List.length_map, List.length_range] at hl
    have hln : rows.length = n := by omega
    refine wps_know 5 rfl (wps_forget 8 (wps_ret ?_))
    show wp _ _ [.dr p c, .d (.int sz), .d (.int st), .d (.int mo), .d (.int n), .d (.lst (rows.map rowD)), z1, z2, .no] _
    refine wp_tup (wpa_cons (wp_cb (wpa_cons (wp_l (wpl_each (intIn n) rfl (wpi_rng ?_))))))
    refine wpa_cons (wp_var rfl (wpa_nil ⟨st, rfl, by omega, ?_, fun d a o hd => ?_, fun ys h1 h2 => wpa_nil (rc_tupL ?_)⟩))
    · rw [List.length_map, List.length_range]; omega
    · exact wp_callR rfl (wpa_cons (wp_var rfl (wpa_nil ⟨⟨(n : Int), rfl, by omega, by omega⟩, fun r e => e n rfl⟩)))
    · obtain ⟨bs, rfl, h3, h4⟩ := ints_of (P := fun k => 0 ≤ k ∧ k < n) fun y hy => h2 y hy
      have h1 : bs.length = st := by rw [h3, h1, List.length_map, List.length_range]; omega
      refine wpa_cons (wp_cb (wpa_cons (wp_var rfl (wpa_nil (rc_tupL (wpa_nil ⟨by simp, rfl, fun a b c e1 e2 e3 => ?_⟩))))))
      cases Int.ofNat.inj (D.int.inj e1)
      cases Int.ofNat.inj (D.int.inj e2)
      cases Int.ofNat.inj (D.int.inj e3)
      refine ⟨(bs, rows), rfl, ⟨by show bs.length = _; omega, by show 1 ≤ rows.length; omega, by show rows.length ≤ _; omega, fun i hi => ?_, fun x hx => ?_⟩⟩
      · have := h4 i hi
        show 0 ≤ i ∧ i < (rows.length : Int)
        rw [hln]; exact this
      · obtain ⟨h5, h6⟩ := hr x hx
        refine ⟨h5, fun q hq => ?_⟩
        show (0 ≤ q.1 ∧ q.1 < (rows.length : Int)) ∧ _
        rw [hln]; exact h6 q hq
end Sd
set_option Elab.async false
set_option linter.all false
set_option maxRecDepth 100000
set_option maxHeartbeats 4000000
namespace Sd
open PySem PySem.Spec L2
open SX (S S_len S_cat S_inj)
open TL (numL joinL spl)
local macro_rules | `(tactic| walk_at "r") => `(tactic| (first | (dsimp only [cxOf, Cx.nox, Cx.wish, Cx.blk]; done) | (dsimp only [cxOf, Cx.nox, Cx.wish, Cx.blk]; rfl) | rfl))
local macro_rules | `(tactic| walk_at "k") => `(tactic| kernel_rfl)
local macro_rules | `(tactic| walk_at "s") => `(tactic| try dsimp only [cxOf, List.map_cons, List.map_nil])
local macro_rules | `(tactic| walk_at "d") => `(tactic| first
  | (with_reducible refine wps_seq ?_)
  | (with_reducible refine wps_ret ?_)
  | (with_reducible refine wps_if ?_)
  | (with_reducible refine wps_next ?_)
  | (with_reducible refine wps_drop ?_)
  | (with_reducible refine wpt_test ?_)
  | (with_reducible refine wpt_B ?_)
  | (with_reducible refine wpt_not ?_)
  | (with_reducible refine wpt_or ?_)
  | (with_reducible refine wpt_and ?_)
  | (with_reducible refine wp_andV ?_)
  | (with_reducible refine wp_orV ?_)
  | (with_reducible refine wp_notV ?_)
  | (refine wp_isiB (by decide) ?_)
  | (with_reducible refine wp_chain ?_)
  | (with_reducible refine wp_op ?_)
  | (with_reducible refine wp_tup ?_)
  | (with_reducible refine wpl_lst ?_)
  | (with_reducible refine wp_m1 ?_)
  | (with_reducible refine wp_m0 ?_)
  | (with_reducible refine wp_cb ?_)
  | (with_reducible refine wpa_cons ?_)
  | (with_reducible refine wpa_nil ?_)
  | (with_reducible refine wp_int ?_)
  | (with_reducible refine wp_str ?_)
  | (with_reducible refine wp_bl ?_)
  | (with_reducible refine wp_non ?_)
  | (refine wp_var rfl ?_)
  | (refine rc_len rfl ?_)
  | (refine r2_ii ?_)
  | (refine r2_ib ?_)
  | (refine ⟨_, rfl, ?_⟩))
variable {P : Program} {wd : World} {mg : Str → Option Value} {base : Heap} {K : PySem.W.Frag}
abbrev sp__law_labels (K : PySem.W.Frag) : Sp := spR K (pre1 fun x => ∃ m : Nat, x = .int m ∧ m ≤ 20) (post1 fun x r => ∀ m : Nat, x = .int m → ∃ fs : List (List Nat), r = .lst (fs.map strD) ∧ fs.length = m ∧ fs.Nodup ∧ ∀ f ∈ fs, nameC f = true)
theorem ok__law_labels (T : Tx K mg) : FnOk P wd K mg base CX0 3 T.f__law_labels T.d__law_labels ["_law_draws", "_law_many"] (sp__law_labels K) := by
  refine fn_R T.F__law_labels sc__law_labels (fun ds h => by obtain ⟨_, rfl, _⟩ := pre1_inv h; rfl) (fun cdv A outer s H E hr => ⟨_, (have nd := sc__law_labels.nd; (pss_cons (ps_asg (pe_tup (pa_cons pe_str (pa_cons (pe_lst pa_nil) pa_nil))) (pg_tup rfl (pgs_cons (pg_name (i := 2) nd rfl (.inr rfl)) (pgs_cons (pg_name (i := 3) nd rfl (.inr rfl)) pgs_nil))))
      (pss_cons (ps_set (i := 4) nd rfl (.inl rfl) (pe_lst (pa_cons pe_str (pa_cons pe_str (pa_cons pe_str (pa_cons pe_str (pa_cons pe_str (pa_cons pe_str (pa_cons pe_str (pa_cons pe_str (pa_cons pe_str (pa_cons pe_str (pa_cons pe_str (pa_cons pe_str pa_nil))))))))))))))
      (pss_cons (ps_for PassesOwn.never rfl (pi_range1 rfl T.m_range (pa_cons (pv 1) pa_nil)) (pg_name (i := 5) nd rfl (.inl rfl)) (pss_cons (ps_set (i := 6) nd rfl (.inr rfl) (pe_call (ok__law_pick T) (hr.mono (by decide)) rfl T.g__law_pick T.F__law_pick.kp T.b__law_pick .nil pass0 (pa_cons (pv 0) (pa_cons (pv 4) pa_nil))))
      (pss_cons (ps_if (pt_cmpR op_gt (pe_call (ok__law_draw T) (hr.mono (by decide)) rfl T.g__law_draw T.F__law_draw.kp T.b__law_draw .nil pass0 (pa_cons (pv 0) (pa_cons pe_int pa_nil))) pe_int (nomark _)) (pss_one (ps_set (i := 6) nd rfl (.inr rfl) (pe_join pe_str (pe_lc (own := [("_law_j", 8)]) (g := gName 8) rfl nd (pi_range1 rfl T.m_range (pa_cons (pe_call (ok__law_pick T) (hr.mono (by decide)) rfl T.g__law_pick T.F__law_pick.kp T.b__law_pick .nil pass0 (pa_cons (pv 0) (pa_cons (pe_lst (pa_cons pe_int (pa_cons pe_int (pa_cons pe_int (pa_cons pe_int pa_nil))))) pa_nil))) pa_nil)) (blkOk_by (N := N__law_labels) (sc := defScope s__law_labels) (by decide +kernel)) (fun _ _ _ _ _ => (pg_name (i := 8) nd rfl (.inl rfl))) (fun _ _ _ _ _ => pts_nil) (fun _ _ _ _ _ => (castE (pe_call (ok__law_pick T) (hr.mono (by decide)) rfl T.g__law_pick T.F__law_pick.kp T.b__law_pick .nil pass0 (pa_cons (pv 0) (pa_cons (pv 2) pa_nil))) (by walk_at "r"))))))) pss_nil)
      (pss_cons (ps_setLc (i := 7) (own := [("_law_sign", 9)]) (g := gName 9) rfl nd rfl rfl (sw_true rfl rfl rfl (by decide +kernel)) (pi_str (pv 2)) (blkOk_by (N := N__law_labels) (sc := defScope s__law_labels) (by decide +kernel)) (fun _ _ _ _ _ => (pg_name (i := 9) nd rfl (.inl rfl))) (fun _ _ _ _ _ => pts_nil) (fun _ _ _ _ _ => (castE (pe_op op_add_str (pe_slice sl_str (pv 6) po_none (po_some pe_int)) (pv 9)) (by walk_at "r"))))
      (pss_one (ps_expr (pe_bm PySem.F.plainAttrs_list PySem.F.slot_list_append PySem.F.type_list_append mt_append (pv 3) (pa_cons (pe_ix ix_list (pe_lc (own := [("_law_word", 10)]) (g := gName 10) rfl nd (pi_list (pe_op op_cat (pe_lst (pa_cons (pv 6) pa_nil)) (pv 7))) (blkOk_by (N := N__law_labels) (sc := defScope s__law_labels) (by decide +kernel)) (fun _ _ _ _ _ => (pg_name (i := 10) nd rfl (.inl rfl))) (fun _ _ _ _ _ => (castT (pts_one (pt_cmpR op_notIn_seq (pv 10) (pv 3) (by rfl))) (by walk_at "r"))) (fun _ _ _ _ _ => (castE (pv 10) (by walk_at "r")))) pe_int (fun _ _ => rfl)) pa_nil))))))))
      (pss_one (ps_ret (pv 3))))))), fun F0 H0 p c ds hp => ?_⟩)
  walk_at "s"
  obtain ⟨x, rfl, m, rfl, hm⟩ := pre1_inv hp
  show wps _ _ [.dr p c, .d (.int m), .no, .no, .no, .no, .no, .no, .no, .no, .no] _ _
  refine wps_seq (wps_asgT2 (wp_str ?_))
  show wps _ _ [.dr p c, .d (.int m), .d (.str letters), .l [], .no, .no, .no, .no, .no, .no, .no] _ _
  refine wps_seq (wps_asgV (.lst (ownL.map .str)) (wp_l (wpl_lst ?_)) ?_)
  · repeat (first | refine wpa_cons (wp_str ?_) | refine wpa_nil ⟨by simp, ?_⟩)
    rfl
  show wps _ _ [.dr p c, .d (.int m), .d (.str letters), .l [], .d (.lst (ownL.map .str)), .no, .no, .no, .no, .no, .no] _ _
  refine wps_seq (wps_for (ts := [5]) (wpi_rng (wpa_cons (wp_var rfl (wpa_nil ⟨m, rfl, by omega, ?_⟩)))))
  refine ⟨fun i G => ∃ (fs : List (List Nat)) (z5 z6 z7 : Ent), G = [.dr p c, .d (.int m), .d (.str letters), .l (fs.map strD), .d (.lst (ownL.map .str)), z5, z6, z7, .no, .no, .no] ∧ fs.length = i ∧ fs.Nodup ∧ ∀ f ∈ fs, nameC f = true, ⟨[], .no, .no, .no, rfl, rfl, List.nodup_nil, by simp⟩, fun i d G hd hI => ?_, fun G hI => ?_⟩
  · obtain ⟨fs, z5, z6, z7, rfl, hl, hnd, hfs⟩ := hI
    have hi := (List.getElem?_eq_some_iff.mp hd).1
    rw [List.length_map, List.length_range] at hi
    refine wpg_name (by simp) ?_
    show wps _ _ [.dr p c, .d (.int m), .d (.str letters), .l (fs.map strD), .d (.lst (ownL.map .str)), .d d, z6, z7, .no, .no, .no] _ _
    refine wps_seq (wps_asg (wp_callR rfl (wpa_cons (wp_var rfl (wpa_nil ⟨⟨by simp [itemsP, ownL], by simp [itemsP, ownL]⟩, fun r e => ?_⟩)))))
    obtain ⟨y, hy, rfl⟩ := List.mem_map.mp (show r ∈ ownL.map D.str from e)
    have hny : nameC (TL.tl y) = true := own_names y hy
    show wps _ _ [.dr p c, .d (.int m), .d (.str letters), .l (fs.map strD), .d (.lst (ownL.map .str)), .d d, .d (.str y), z7, .no, .no, .no] _ _
    refine wps_seq ((wps_if (N := fun G' => ∃ l, nameC l = true ∧ G' = [.dr p c, .d (.int m), .d (.str letters), .l (fs.map strD), .d (.lst (ownL.map .str)), .d d, .d (strD l), z7, .no, .no, .no]) (wpt_test (wp_op (wp_callR rfl (wpa_cons (wp_int (wpa_nil ⟨⟨3, rfl, by omega, by omega⟩, fun r e => ?_⟩))))))).imp (fun G' hG => ?_) fun _ _ h => h)
    · obtain ⟨k, rfl, k0, k1⟩ := e 3 rfl
      refine wp_int (r2_ib ⟨_, rfl, ite_b (fun _ => ?_) (fun _ => ?_)⟩)
      · refine wps_asg (wp_m1 (wp_str ⟨⟨_, rfl⟩, ?_⟩))
        refine wp_l (wpl_each (fun d => ∃ c ∈ letL, d = strD [c]) rfl (wpi_rng ?_))
        refine wpa_cons (wp_callR rfl (wpa_cons (wp_l (wpl_lst (wpa_cons (wp_int (wpa_cons (wp_int (wpa_cons (wp_int (wpa_cons (wp_int (wpa_nil ⟨by simp, wpa_nil ⟨⟨by simp [itemsP], by simp [itemsP]⟩, fun r e => ?_⟩⟩)))))))))))))
        have hn : ∃ n : Nat, r = .int n ∧ 1 ≤ n ∧ n ≤ 8 := by
          have e' : r ∈ [D.int 1, .int 1, .int 2, .int 8] := e
          simp only [List.mem_cons, List.not_mem_nil, or_false] at e'
          rcases e' with rfl | rfl | rfl | rfl
          · exact ⟨1, rfl, by omega, by omega⟩
          · exact ⟨1, rfl, by omega, by omega⟩
          · exact ⟨2, rfl, by omega, by omega⟩
          · exact ⟨8, rfl, by omega, by omega⟩
        obtain ⟨n, rfl, n0, n1⟩ := hn
        refine wpa_nil ⟨n, rfl, by omega, ?_, fun d a o hd => ?_, fun ys h1 h2 => ?_⟩
        · rw [List.length_map, List.length_range]; omega
        · refine wp_callR rfl (wpa_cons (wp_var rfl (wpa_nil ⟨⟨?_, ?_⟩, fun r e => ?_⟩)))
          · show (TL.tl letters).map (fun c => D.str ⟨#[c]⟩) ≠ []
            rw [tl_letters]; simp [letL]
          · show ((TL.tl letters).map (fun c => D.str ⟨#[c]⟩)).length ≤ 1000
            rw [tl_letters]; simp [letL]
          · have e' : r ∈ (TL.tl letters).map (fun c => D.str ⟨#[c]⟩) := e
            rw [tl_letters] at e'
            obtain ⟨c, hc, rfl⟩ := List.mem_map.mp e'
            exact ⟨c, hc, rfl⟩
        · obtain ⟨ws, rfl, h3, h4⟩ := strs_of (P := fun w => ∃ c ∈ letL, w = [c]) fun y hy => by
            obtain ⟨c, hc, rfl⟩ := h2 y hy
            exact ⟨[c], rfl, c, hc, rfl⟩
          have h1 : ws.length = n := by rw [h3, h1, List.length_map, List.length_range]; omega
          have hlen1 : ∀ w ∈ ws, w.length ≤ 1 := fun w hw => by
            obtain ⟨c, _, rfl⟩ := h4 w hw
            exact Nat.le_refl _
          rw [strs_map, show ("" : Str) = S [] by decide +kernel]
          have hsum := sum_len hlen1
          refine rm_join ?_ ?_
          · rw [List.length_map, S_len]; show _ + _ * 0 ≤ _; omega
          · rw [join_SS, joinL_nil]
            refine ⟨ws.flatten, ?_, rfl⟩
            obtain ⟨h5, h6⟩ := flat_ones h4
            exact nameC_iff.mpr ⟨by omega, fun c hc => letL_in (h6 c hc)⟩
      · refine wps_next ⟨TL.tl y, hny, ?_⟩
        rw [show strD (TL.tl y) = .str y from congrArg D.str (SX.S_tl y)]
    obtain ⟨l, hln, rfl⟩ := hG
    obtain ⟨⟨hl1, hl2⟩, hl3⟩ := nameC_iff.mp hln
    refine wps_seq (wps_asgV (.lst (letL.map fun c => strD (l.take 7 ++ [c]))) (wp_l (wpl_lcN rfl (wpi_str ?_))) ?_)
    · refine wp_var rfl ⟨_, rfl, ?_⟩
      show List.length ((TL.tl letters).map fun c => D.str ⟨#[c]⟩) ≤ _ ∧ ∃ I : Nat → List D → Prop, I 0 [] ∧ (∀ i d acc a o, ((TL.tl letters).map fun c => D.str ⟨#[c]⟩)[i]? = some d → _) ∧ ∀ acc, I ((TL.tl letters).map fun c => D.str ⟨#[c]⟩).length acc → _
      rw [tl_letters]
      refine ⟨by simp [letL], fun i acc => acc = (letL.take i).map fun c => strD (l.take 7 ++ [c]), rfl, fun i d acc a o hd hI => ?_, fun acc hI => ?_⟩
      · obtain ⟨ch, hc, rfl⟩ := map_at hd
        refine wpt_yes (iteT (wp_op (wp_sl (wp_var rfl (wpo_none (wpo_some (wp_int ⟨7, rfl, rs_str (by rw [S_len]; omega) (wp_var rfl ?_)⟩)))))))
        rw [show cutS (S l) none (some 7) = S (l.take 7) from cut_to l 7]
        refine r2_addS (by rw [S_len, List.length_take]; show _ + 1 ≤ _; omega) ?_
        have hI' : acc = (letL.take i).map fun c => strD (l.take 7 ++ [c]) := hI
        show acc ++ [_] = (letL.take (i + 1)).map fun c => strD (l.take 7 ++ [c])
        rw [hI', List.take_add_one (l := letL) (i := i), hc, List.map_append, show (⟨#[ch]⟩ : Str) = S [ch] from rfl, S_cat]
        rfl
      · have hI' : acc = (letL.take (letL.map fun c => D.str ⟨#[c]⟩).length).map fun c => strD (l.take 7 ++ [c]) := hI
        rw [hI', List.length_map, List.take_of_length_le (Nat.le_refl _)]
    show wps _ _ [.dr p c, .d (.int m), .d (.str letters), .l (fs.map strD), .d (.lst (ownL.map .str)), .d d, .d (strD l), .d (.lst (letL.map fun c => strD (l.take 7 ++ [c]))), .no, .no, .no] _ _
    refine wps_append rfl ((wp_peek (Q := fun r => ∃ w, r = strD w ∧ w ∉ fs ∧ nameC w = true) fun F0 H0 => ?_).imp fun r hr => ?_)
    · show wp _ _ [.no, .d (.int m), .d (.str letters), .d (.lst (fs.map strD)), .d (.lst (ownL.map .str)), .d d, .d (strD l), .d (.lst (letL.map fun c => strD (l.take 7 ++ [c]))), .no, .no, .no] _
      refine wp_op (wp_l (wpl_filter (fun d => !inD d (fs.map strD)) id rfl (wpi_lst (wp_l (wpl_op ?_)))))
      refine wp_l (wpl_lst (wpa_cons (wp_var rfl (wpa_nil ⟨by simp, wp_var rfl (r2_cat (by simp [letL]) ⟨_, rfl, by simp [letL], fun d a o hd => ?_, ?_⟩)⟩))))
      · have fl : flatD d = true := by
          rcases List.mem_append.mp hd with hd | hd
          · obtain rfl : d = strD l := by simpa using hd
            rfl
          · obtain ⟨c, hc, rfl⟩ := List.mem_map.mp hd
            rfl
        refine wpt_test (wp_op (wp_var rfl (wp_var rfl (r2_inL (neg := true) fl (by rw [strs_map]; exact flat_strs _) ⟨_, rfl, rfl, fun _ => wp_var rfl rfl⟩))))
      · obtain ⟨c2, hc2, hn2⟩ := pigeon (fs := fs) (l.take 7) letL_nd (by show fs.length < 26; omega)
        have hin : ∀ w : List Nat, inD (strD w) (fs.map strD) = decide (w ∈ fs) := fun w => by
          rw [strs_map, inD_strs]
          refine decide_eq_decide.mpr ⟨fun h => ?_, fun h => List.mem_map_of_mem h⟩
          obtain ⟨v, hv, e⟩ := List.mem_map.mp h
          rw [← S_inj e]; exact hv
        have hmem : strD (l.take 7 ++ [c2]) ∈ ((([strD l] : List D) ++ letL.map fun c => strD (l.take 7 ++ [c])).filter fun d => !inD d (fs.map strD)) := by
          refine List.mem_filter.mpr ⟨List.mem_append_right _ (List.mem_map_of_mem (f := fun c => strD (l.take 7 ++ [c])) hc2), ?_⟩
          rw [hin, decide_eq_false hn2]
          rfl
        rw [List.map_id]
        cases hf : (([strD l] : List D) ++ letL.map fun c => strD (l.take 7 ++ [c])).filter fun d => !inD d (fs.map strD) with
        | nil => rw [hf] at hmem; cases hmem
        | cons r rs =>
          refine wp_int (r2_ixL (at0 _ _) ?_)
          have hr : r ∈ (([strD l] : List D) ++ letL.map fun c => strD (l.take 7 ++ [c])).filter fun d => !inD d (fs.map strD) := by rw [hf]; simp
          obtain ⟨h1, h2⟩ := List.mem_filter.mp hr
          have hw : ∃ w, r = strD w ∧ nameC w = true := by
            rcases List.mem_append.mp h1 with h1 | h1
            · exact ⟨l, by simpa using h1, hln⟩
            · obtain ⟨c, hc, rfl⟩ := List.mem_map.mp h1
              exact ⟨_, rfl, nameC_app hln (letL_in hc)⟩
          obtain ⟨w, rfl, hw⟩ := hw
          rw [hin] at h2
          exact ⟨rfl, w, rfl, of_decide_eq_false (nb_t h2), hw⟩
    · obtain ⟨w, rfl, hw1, hw2⟩ := hr
      refine ⟨by rw [List.length_map]; omega, fs ++ [w], .d d, .d (strD l), .d (.lst (letL.map fun c => strD (l.take 7 ++ [c]))), ?_, by rw [List.length_append, hl]; rfl, ?_, fun f hf => ?_⟩
      · rw [List.map_append]; rfl
      · exact List.nodup_append.mpr ⟨hnd, by simp, fun a ha b hb e => by
          obtain rfl : b = w := by simpa using hb
          exact hw1 (e ▸ ha)⟩
      · rcases List.mem_append.mp hf with hf | hf
        · exact hfs f hf
        · obtain rfl : f = w := by simpa using hf
          exact hw2
  · obtain ⟨fs, z5, z6, z7, rfl, hl, hnd, hfs⟩ := hI
    refine wps_retO rfl ⟨rfl, fun m2 e => ⟨fs, rfl, ?_, hnd, hfs⟩⟩
    cases Int.ofNat.inj (D.int.inj e)
    rw [hl, List.length_map, List.length_range]
    omega
end Sd
set_option Elab.async false
set_option linter.all false
set_option maxRecDepth 100000
set_option maxHeartbeats 4000000
namespace Sd
open PySem PySem.Spec L2
open SX (S S_len S_cat S_inj)
open TL (numL joinL spl)
local macro_rules | `(tactic| walk_at "r") => `(tactic| (first | (dsimp only [cxOf, Cx.nox, Cx.wish, Cx.blk]; done) | (dsimp only [cxOf, Cx.nox, Cx.wish, Cx.blk]; rfl) | rfl))
local macro_rules | `(tactic| walk_at "k") => `(tactic| kernel_rfl)
local macro_rules | `(tactic| walk_at "s") => `(tactic| try dsimp only [cxOf, List.map_cons, List.map_nil])
local macro_rules | `(tactic| walk_at "d") => `(tactic| first
  | (with_reducible refine wps_seq ?_)
  | (with_reducible refine wps_ret ?_)
  | (with_reducible refine wps_if ?_)
  | (with_reducible refine wps_next ?_)
  | (with_reducible refine wps_drop ?_)
  | (with_reducible refine wpt_test ?_)
  | (with_reducible refine wpt_B ?_)
  | (with_reducible refine wpt_not ?_)
  | (with_reducible refine wpt_or ?_)
  | (with_reducible refine wpt_and ?_)
  | (with_reducible refine wp_andV ?_)
  | (with_reducible refine wp_orV ?_)
  | (with_reducible refine wp_notV ?_)
  | (refine wp_isiB (by decide) ?_)
  | (with_reducible refine wp_chain ?_)
  | (with_reducible refine wp_op ?_)
  | (with_reducible refine wp_tup ?_)
  | (with_reducible refine wpl_lst ?_)
  | (with_reducible refine wp_m1 ?_)
  | (with_reducible refine wp_m0 ?_)
  | (with_reducible refine wp_cb ?_)
  | (with_reducible refine wpa_cons ?_)
  | (with_reducible refine wpa_nil ?_)
  | (with_reducible refine wp_int ?_)
  | (with_reducible refine wp_str ?_)
  | (with_reducible refine wp_bl ?_)
  | (with_reducible refine wp_non ?_)
  | (refine wp_var rfl ?_)
  | (refine rc_len rfl ?_)
  | (refine r2_ii ?_)
  | (refine r2_ib ?_)
  | (refine ⟨_, rfl, ?_⟩))
variable {P : Program} {wd : World} {mg : Str → Option Value} {base : Heap} {K : PySem.W.Frag}
abbrev sp__law_parts (K : PySem.W.Frag) : Sp := spR K (pre2 fun x y => ∃ a b : Nat, x = .int a ∧ y = .int b ∧ 1 ≤ a ∧ a ≤ 4 ∧ 1 ≤ b ∧ b ≤ 6) (post2 fun x y r => ∃ g : Pg, r = g.D ∧ PgOk g)
theorem ok__law_parts (T : Tx K mg) : FnOk P wd K mg base CX0 5 T.f__law_parts T.d__law_parts ["_law_draws", "_law_many", "_law_most"] (sp__law_parts K) := by
  refine fn_R T.F__law_parts sc__law_parts (fun ds h => by obtain ⟨_, _, rfl, _⟩ := pre2_inv h; rfl) (fun cdv A outer s H E hr => ⟨_, (have nd := sc__law_parts.nd; (pss_cons (ps_set (i := 3) nd rfl (.inl rfl) (pe_callTy call_tuple_of rfl T.m_tuple (by decide +kernel) (pa_cons (pe_callB cr_sortedS rfl T.m_sorted (by decide +kernel) (pa_cons (pe_call (ok__law_labels T) (hr.mono (by decide)) rfl T.g__law_labels T.F__law_labels.kp T.b__law_labels .nil pass0 (pa_cons (pv 0) (pa_cons (pe_op op_add pe_int (pe_call (ok__law_draw T) (hr.mono (by decide)) rfl T.g__law_draw T.F__law_draw.kp T.b__law_draw .nil pass0 (pa_cons (pv 0) (pa_cons (pv 1) pa_nil)))) pa_nil))) pa_nil)) pa_nil)))
      (pss_cons (ps_set (i := 4) nd rfl (.inl rfl) (pe_tup (pa_cons (pe_call (ok__law_lap T) (hr.mono (by decide)) rfl T.g__law_lap T.F__law_lap.kp T.b__law_lap .nil pass0 (pa_cons (pv 0) (pa_cons (pe_callB call_len rfl T.m_len (by decide +kernel) (pa_cons (pv 3) pa_nil)) (pa_cons pe_int (pa_cons (pv 2) pa_nil))))) pa_nil)))
      (pss_cons (ps_if (pt_cmpR op_eq (pe_call (ok__law_draw T) (hr.mono (by decide)) rfl T.g__law_draw T.F__law_draw.kp T.b__law_draw .nil pass0 (pa_cons (pv 0) (pa_cons pe_int pa_nil))) pe_int (nomark _)) (pss_one (ps_set (i := 4) nd rfl (.inl rfl) (pe_op op_catA (pv 4) (pe_tup (pa_cons (pe_call (ok__law_lap T) (hr.mono (by decide)) rfl T.g__law_lap T.F__law_lap.kp T.b__law_lap .nil pass0 (pa_cons (pv 0) (pa_cons (pe_callB call_len rfl T.m_len (by decide +kernel) (pa_cons (pv 3) pa_nil)) (pa_cons (pe_callB call_len rfl T.m_len (by decide +kernel) (pa_cons (pe_ix ix_tup (pe_ix ix_tup (pv 4) pe_int (fun _ _ => rfl)) pe_int (fun _ _ => rfl)) pa_nil)) (pa_cons (pv 2) pa_nil))))) pa_nil))))) pss_nil)
      (pss_cons (ps_set (i := 5) nd rfl (.inr rfl) (pe_call (ok__law_labels T) (hr.mono (by decide)) rfl T.g__law_labels T.F__law_labels.kp T.b__law_labels .nil pass0 (pa_cons (pv 0) (pa_cons pe_int pa_nil))))
      (pss_cons (ps_set (i := 6) nd rfl (.inr rfl) (pe_lst (pa_cons pe_int (pa_cons pe_int (pa_cons (pe_call (ok__law_gain T) (hr.mono (by decide)) rfl T.g__law_gain T.F__law_gain.kp T.b__law_gain .nil pass0 (pa_cons (pv 0) pa_nil)) pa_nil)))))
      (pss_cons (ps_set (i := 7) nd rfl (.inl rfl) (pe_callTy call_tuple_of rfl T.m_tuple (by decide +kernel) (pa_cons (pe_lc (own := [("_law_line", 8)]) (g := gName 8) rfl nd (pi_tup (pe_ix ix_tup (pe_ix ix_tup (pv 4) (pe_un un_neg pe_int) (fun _ _ => rfl)) pe_int (fun _ _ => rfl))) (blkOk_by (N := N__law_parts) (sc := defScope s__law_parts) (by decide +kernel)) (fun _ _ _ _ _ => (pg_name (i := 8) nd rfl (.inl rfl))) (fun _ _ _ _ _ => pts_nil) (fun _ _ _ _ _ => (castE (pe_tup (pa_cons (pe_call (ok__law_pick T) (hr.mono (by decide)) rfl T.g__law_pick T.F__law_pick.kp T.b__law_pick .nil pass0 (pa_cons (pv 0) (pa_cons (pv 5) pa_nil))) (pa_cons (pe_call (ok__law_pick T) (hr.mono (by decide)) rfl T.g__law_pick T.F__law_pick.kp T.b__law_pick .nil pass0 (pa_cons (pv 0) (pa_cons (pv 6) pa_nil))) pa_nil))) (by walk_at "r")))) pa_nil)))
      (pss_one (ps_ret (pe_tup (pa_cons (pv 3) (pa_cons (pv 4) (pa_cons (pv 7) pa_nil))))))))))))), fun F0 H0 p c ds hp => ?_⟩)
  walk_at "s"
  obtain ⟨x, y, rfl, a, b, rfl, rfl, a1, a4, b1, b6⟩ := pre2_inv hp
  show wps _ _ [.dr p c, .d (.int a), .d (.int b), .no, .no, .no, .no, .no, .no] _ _
  refine wps_seq (wps_asg (wp_cb (wpa_cons (wp_l (wpl_cb (wpa_cons (wp_callR rfl (wpa_cons (wp_op (wp_int (wp_callR rfl (wpa_cons (wp_var rfl (wpa_nil ⟨⟨(a : Int), rfl, by omega, by omega⟩, fun r e => ?_⟩))))))))))))))
  obtain ⟨k, rfl, k0, k1⟩ := e a rfl
  refine r2_ii ?_
  obtain ⟨n, hn⟩ : ∃ n : Nat, 1 + k = n := ⟨_, (Int.toNat_of_nonneg (by omega)).symm⟩
  rw [hn]
  refine wpa_nil ⟨⟨n, rfl, by omega⟩, fun r e => ?_⟩
  obtain ⟨fs, rfl, fl, fnd, fnm⟩ := e n rfl
  rw [strs_map]
  refine wpa_nil (rc_sortS (by rw [List.length_map]; omega) fun ys hperm hsort => wpa_nil (rc_tupL ?_))
  obtain ⟨ks, rfl⟩ : ∃ ks : List (List Nat), ys = ks.map S := ⟨ys.map TL.tl, by rw [List.map_map]; exact (List.map_id'' (fun x => (str_S x).symm) ys).symm⟩
  have hkp : ks.Perm fs := by
    have := hperm.map TL.tl
    rwa [SX.map_S_tl, SX.map_S_tl] at this
  have hkl : ks.length = n := by rw [hkp.length_eq, fl]
  have hkn : ∀ k ∈ ks, nameC k = true := fun k hk => fnm k (hkp.mem_iff.mp hk)
  have hknd : (ks.map S).Nodup := List.Pairwise.map _ (fun a b hab e => hab (S_inj e)) (hkp.nodup_iff.mpr fnd)
  have hka : ascD (ks.map strD) = true := by rw [strs_map]; exact asc_sorted hsort hknd
  rw [← strs_map]
  show wps _ _ [.dr p c, .d (.int a), .d (.int b), .d (.tup (ks.map strD)), .no, .no, .no, .no, .no] _ _
  have hlen : (ks.map strD).length = n := by rw [List.length_map]; exact hkl
  refine wps_seq (wps_asg (wp_tup (wpa_cons (wp_callR rfl (wpa_cons (wp_cb (wpa_cons (wp_var rfl (wpa_nil (rc_len rfl ?_))))))))))
  rw [hlen]
  refine wpa_cons (wp_int (wpa_cons (wp_var rfl (wpa_nil ⟨⟨n, 1, b, rfl, rfl, rfl, by omega, by omega, b1, by omega⟩, fun r e => ?_⟩))))
  obtain ⟨l1, rfl, hl1⟩ := e n 1 b rfl rfl rfl
  refine wpa_nil ⟨by simp, ?_⟩
  have up : ∀ {x y : Nat} {q : Pas}, LapOk x y b q → LapOk x y 6 q := fun h => ⟨h.b, h.r0, Nat.le_trans h.r1 b6, h.s, h.w⟩
  show wps _ _ [.dr p c, .d (.int a), .d (.int b), .d (.tup (ks.map strD)), .d (.tup [pasD l1]), .no, .no, .no, .no] _ _
  refine wps_seq ((wps_if (N := fun G' => ∃ (ps : List Pas) (l : Pas), ((ps = [l1] ∧ l = l1) ∨ (ps = [l1, l] ∧ LapOk n l1.2.length 6 l)) ∧ G' = [.dr p c, .d (.int a), .d (.int b), .d (.tup (ks.map strD)), .d (.tup (ps.map pasD)), .no, .no, .no, .no]) (wpt_test (wp_op (wp_callR rfl (wpa_cons (wp_int (wpa_nil ⟨⟨2, rfl, by omega, by omega⟩, fun r e => ?_⟩))))))).imp (fun G' hG => ?_) fun _ _ h => h)
  · obtain ⟨k2, rfl, _, _⟩ := e 2 rfl
    refine wp_int (r2_eqI ⟨_, rfl, ite_b (fun _ => ?_) (fun _ => ?_)⟩)
    · refine wps_asg (wp_op (wp_var rfl (wp_tup (wpa_cons (wp_callR rfl (wpa_cons (wp_cb (wpa_cons (wp_var rfl (wpa_nil (rc_len rfl ?_)))))))))))
      rw [hlen]
      refine wpa_cons (wp_cb (wpa_cons (wp_op (wp_op (wp_var rfl (wp_int (r2_ixT rfl (wp_int (r2_ixT rfl (wpa_nil (rc_len rfl ?_)))))))))))
      rw [List.length_map]
      refine wpa_cons (wp_var rfl (wpa_nil ⟨⟨n, l1.2.length, b, rfl, rfl, rfl, by omega, by have := hl1.r1; omega, b1, by omega⟩, fun r e => ?_⟩))
      obtain ⟨l2, rfl, hl2⟩ := e n l1.2.length b rfl rfl rfl
      exact wpa_nil ⟨by simp, r2_catT (by simp) ⟨[l1, l2], l2, .inr ⟨rfl, up hl2⟩, rfl⟩⟩
    · exact wps_next ⟨[l1], l1, .inl ⟨rfl, rfl⟩, rfl⟩
  obtain ⟨ps, l, hps, rfl⟩ := hG
  have hlast : L2.atI (ps.map pasD) (-1) = some (pasD l) := by
    rcases hps with ⟨rfl, rfl⟩ | ⟨rfl, _⟩ <;> rfl
  have hll : l.2.length ≤ 6 := by
    rcases hps with ⟨_, rfl⟩ | ⟨_, h⟩
    · exact (up hl1).r1
    · exact h.r1
  refine wps_seq (wps_asg (wp_callR rfl (wpa_cons (wp_int (wpa_nil ⟨⟨2, rfl, by omega⟩, fun r e => ?_⟩)))))
  obtain ⟨ws, rfl, wl, _, wn⟩ := e 2 rfl
  show wps _ _ [.dr p c, .d (.int a), .d (.int b), .d (.tup (ks.map strD)), .d (.tup (ps.map pasD)), .d (.lst (ws.map strD)), .no, .no, .no] _ _
  refine wps_seq (wps_asg (wp_l (wpl_lst (wpa_cons (wp_int (wpa_cons (wp_int (wpa_cons (wp_callR rfl (wpa_nil ⟨trivial, fun r e => ?_⟩))))))))))
  obtain ⟨gn, rfl, g0, g1⟩ := e
  refine wpa_nil ⟨by simp, ?_⟩
  show wps _ _ [.dr p c, .d (.int a), .d (.int b), .d (.tup (ks.map strD)), .d (.tup (ps.map pasD)), .d (.lst (ws.map strD)), .d (.lst [.int 0, .int 0, .int gn]), .no, .no] _ _
  refine wps_seq (wps_asg (wp_cb (wpa_cons (wp_l (wpl_each (fun d => ∃ t, d = telD t ∧ nameC t.1 = true ∧ -999 ≤ t.2 ∧ t.2 ≤ 999) rfl (wpi_tup ?_))))))
  refine wp_op (wp_op (wp_var rfl (wp_un (wp_int (ru_ii (r2_ixT hlast (wp_int (r2_ixT rfl ⟨l.2.map rowD, rfl, ?_, fun d a o hd => ?_, fun ys h1 h2 => ?_⟩))))))))
  · rw [List.length_map]; omega
  · refine wp_tup (wpa_cons (wp_callR rfl (wpa_cons (wp_var rfl (wpa_nil ⟨⟨?_, ?_⟩, fun r e => ?_⟩)))))
    · show ws.map strD ≠ []
      intro z
      have := congrArg List.length z
      rw [List.length_map, wl] at this
      cases this
    · show (ws.map strD).length ≤ 1000
      rw [List.length_map]; omega
    · obtain ⟨w, hw, rfl⟩ := List.mem_map.mp (show r ∈ ws.map strD from e)
      refine wpa_cons (wp_callR rfl (wpa_cons (wp_var rfl (wpa_nil ⟨⟨by simp [itemsP], by simp [itemsP]⟩, fun r e => ?_⟩))))
      have e' : r ∈ [D.int 0, .int 0, .int gn] := e
      simp only [List.mem_cons, List.not_mem_nil, or_false] at e'
      rcases e' with rfl | rfl | rfl
      · exact wpa_nil ⟨by simp, (w, 0), rfl, wn w hw, by omega, by omega⟩
      · exact wpa_nil ⟨by simp, (w, 0), rfl, wn w hw, by omega, by omega⟩
      · exact wpa_nil ⟨by simp, (w, gn), rfl, wn w hw, g0, g1⟩
  · obtain ⟨ts, rfl, h3, h4⟩ := tels_of h2
    have htl : ts.length = l.2.length := by rw [h3, h1, List.length_map]
    refine wpa_nil (rc_tupL ?_)
    refine wps_ret (wp_tup (wpa_cons (wp_var rfl (wpa_cons (wp_var rfl (wpa_cons (wp_var rfl (wpa_nil ⟨by simp, rfl, ?_⟩))))))))
    refine ⟨⟨ks, ps, ts⟩, rfl, by show 1 ≤ ks.length; omega, by show ks.length ≤ 4; omega, hkn, hka, ?_, h4⟩
    show (∃ q, ps = [q] ∧ LapOk ks.length 1 6 q ∧ ts.length = q.2.length) ∨ ∃ q r, ps = [q, r] ∧ LapOk ks.length 1 6 q ∧ LapOk ks.length q.2.length 6 r ∧ ts.length = r.2.length
    rw [hkl]
    rcases hps with ⟨rfl, rfl⟩ | ⟨rfl, h⟩
    · exact .inl ⟨_, rfl, up hl1, htl⟩
    · exact .inr ⟨_, _, rfl, up hl1, h, htl⟩
end Sd
set_option Elab.async false
set_option linter.all false
set_option maxRecDepth 100000
set_option maxHeartbeats 4000000
namespace Sd
open PySem PySem.Spec L2
open SX (S S_len S_cat S_inj)
open TL (numL joinL spl)
local macro_rules | `(tactic| walk_at "r") => `(tactic| (first | (dsimp only [cxOf, Cx.nox, Cx.wish, Cx.blk]; done) | (dsimp only [cxOf, Cx.nox, Cx.wish, Cx.blk]; rfl) | rfl))
local macro_rules | `(tactic| walk_at "k") => `(tactic| kernel_rfl)
local macro_rules | `(tactic| walk_at "s") => `(tactic| try dsimp only [cxOf, List.map_cons, List.map_nil])
local macro_rules | `(tactic| walk_at "d") => `(tactic| first
  | (with_reducible refine wps_seq ?_)
  | (with_reducible refine wps_ret ?_)
  | (with_reducible refine wps_if ?_)
  | (with_reducible refine wps_next ?_)
  | (with_reducible refine wps_drop ?_)
  | (with_reducible refine wpt_test ?_)
  | (with_reducible refine wpt_B ?_)
  | (with_reducible refine wpt_not ?_)
  | (with_reducible refine wpt_or ?_)
  | (with_reducible refine wpt_and ?_)
  | (with_reducible refine wp_andV ?_)
  | (with_reducible refine wp_orV ?_)
  | (with_reducible refine wp_notV ?_)
  | (refine wp_isiB (by decide) ?_)
  | (with_reducible refine wp_chain ?_)
  | (with_reducible refine wp_op ?_)
  | (with_reducible refine wp_tup ?_)
  | (with_reducible refine wpl_lst ?_)
  | (with_reducible refine wp_m1 ?_)
  | (with_reducible refine wp_m0 ?_)
  | (with_reducible refine wp_cb ?_)
  | (with_reducible refine wpa_cons ?_)
  | (with_reducible refine wpa_nil ?_)
  | (with_reducible refine wp_int ?_)
  | (with_reducible refine wp_str ?_)
  | (with_reducible refine wp_bl ?_)
  | (with_reducible refine wp_non ?_)
  | (refine wp_var rfl ?_)
  | (refine rc_len rfl ?_)
  | (refine r2_ii ?_)
  | (refine r2_ib ?_)
  | (refine ⟨_, rfl, ?_⟩))
variable {P : Program} {wd : World} {mg : Str → Option Value} {base : Heap} {K : PySem.W.Frag}
theorem ok_Reader_init (T : Tx K mg) : FnOk P wd K mg base CX0 1 T.f_Reader_init T.d_Reader_init ["self"] (spRd K T.a_Reader) := by
  exact T.F_Reader_init.ok sc_Reader_init (fun vs H Q E h => by obtain ⟨_, _, rfl, _⟩ := h; rfl) (fun cdv A outer s H vs Q E hr h => ⟨_, (have nd := sc_Reader_init.nd; (pss_cons (ps_fld (pv 0) (pe_tup pa_nil) rfl)
      (pss_cons (ps_fld (pv 0) (pe_lst pa_nil) rfl)
      (pss_one (ps_fld (pv 0) (pe_lst pa_nil) rfl))))), spRd_body (by decide) T.c_Reader T.n_Reader_r_kinds T.n_Reader_r_passes T.n_Reader_r_tells h⟩)
abbrev sp_Reader_takes_kinds {K : PySem.W.Frag} {mg : Str → Option Value} (T : Tx K mg) : Sp := spO K (rdO K T.a_Reader) (fun s ds => (∃ n, n ≤ 100000 ∧ RsOk n s) ∧ pre1 (fun x => wordsP x) ds) (fun s ds d s' => ∀ ws : List (List Nat), ds = [.lst (ws.map strD)] → outc (takesK s ws) s d s')
theorem ok_Reader_takes_kinds (T : Tx K mg) : FnOk P wd K mg base CX0 2 T.f_Reader_takes_kinds T.d_Reader_takes_kinds ["self", "words"] (sp_Reader_takes_kinds T) := by
  refine fn_O rdO_at T.F_Reader_takes_kinds sc_Reader_takes_kinds (fun s ds h => by have h := h.2; obtain ⟨_, rfl, _⟩ := pre1_inv h; rfl) (fun cdv A outer s H E hr => ⟨_, (have nd := sc_Reader_takes_kinds.nd; (pss_cons (ps_if (PW.pt (pw_or (pt_cmpR op_ne (pe_ix ix_list (pv 1) pe_int (fun _ _ => rfl)) pe_str (nomark _)) (pw_or (pt_cmpR op_eq (pe_callB call_len rfl T.m_len (by decide +kernel) (pa_cons (pv 1) pa_nil)) pe_int (nomark _)) (pw_or1 (pt_not (pt_val (pe_callB (cr_all rfl) rfl T.m_all (by decide +kernel) (pa_cons (pe_lc (own := [("word", 2)]) (g := gName 2) rfl nd (pi_list (pe_slice sl_list (pv 1) (po_some pe_int) po_none)) (blkOk_by (N := N_Reader_takes_kinds) (sc := defScope s_Reader_takes_kinds) (by decide +kernel)) (fun _ _ _ _ _ => (pg_name (i := 2) nd rfl (.inl rfl))) (fun _ _ _ _ _ => pts_nil) (fun _ _ _ _ _ => (castE (pe_call (ok_is_name T) (hr.mono (by decide)) rfl T.g_is_name T.F_is_name.kp T.b_is_name .nil pass0 (pa_cons (pv 2) pa_nil)) (by walk_at "r")))) pa_nil)))))))) (pss_one (ps_ret pe_bl)) pss_nil)
      (pss_cons (ps_fld (pv 0) (pe_callTy call_tuple_of rfl T.m_tuple (by decide +kernel) (pa_cons (pe_slice sl_list (pv 1) (po_some pe_int) po_none) pa_nil)) rfl)
      (pss_one (ps_ret pe_bl))))), fun F0 H0 O a s ds hp => ?_⟩)
  walk_at "s"
  obtain ⟨⟨n, hn, hs⟩, hp⟩ := hp
  obtain ⟨x, rfl, ws, rfl, hne, hwl, hw⟩ := pre1_inv hp
  obtain ⟨w0, wr, rfl⟩ : ∃ w0 wr, ws = w0 :: wr := by
    cases ws with
    | nil => exact absurd rfl hne
    | cons a b => exact ⟨a, b, rfl⟩
  have hcut : cutD ((w0 :: wr).map strD) (some 1) none = wr.map strD := by rw [cut1]; rfl
  have hlen : ((w0 :: wr).map strD).length = wr.length + 1 := by simp
  have l1 : wr.length + 1 ≤ 2001 := by simpa using hwl

  show wps _ _ [.o (rdO K T.a_Reader a s), .d (.lst ((w0 :: wr).map strD)), .no] _ _
  have inj : ∀ ws2 : List (List Nat), [D.lst ((w0 :: wr).map strD)] = [.lst (ws2.map strD)] → ws2 = w0 :: wr := fun ws2 e => by
    simp only [List.cons.injEq, D.lst.injEq, and_true] at e
    exact (kD_inj e).symm
  have key : takesK s (w0 :: wr) = if decide (w0 = wKinds) = true ∧ decide (((wr.length + 1 : Nat) : Int) = 1) = false ∧ wr.all nameC = true then some { s with ks := wr } else none := by
    unfold takesK
    congr 1
    rw [decide_eq_true_eq, decide_eq_false_iff_not]
    simp only [List.head?_cons, Option.some.injEq, List.length_cons, List.tail_cons, eq_iff_iff]
    constructor
    · rintro ⟨h1, h2, h3⟩; exact ⟨h1, by omega, h3⟩
    · rintro ⟨h1, h2, h3⟩; exact ⟨h1, by omega, h3⟩
  refine wps_seq (wps_ifD ((!decide (w0 = wKinds)) || (decide (((wr.length + 1 : Nat) : Int) = 1) || !wr.all nameC)) (wpt_orD ?_ fun _ => wpt_orD ?_ fun _ => ?_) (fun h => ?_) (fun h => ?_))
  · refine wpt_test (wp_op (wp_op (wp_var rfl (wp_int (r2_ixL (at0 _ _) (wp_str (r2_neS ⟨_, rfl, ?_⟩)))))))
    rw [show ("kinds" : Str) = S wKinds by decide +kernel, S_eq]
  · refine wpt_test (wp_op (wp_cb (wpa_cons (wp_var rfl (wpa_nil (rc_len rfl (wp_int (r2_eqI ⟨_, rfl, ?_⟩))))))))
    rw [hlen]
  · refine wpt_notD (wpt_B ?_)
    refine wp_allLc isNameD rfl (wpi_lst (wp_l (wpl_sl (wp_var rfl (wpo_some (wp_int ⟨1, rfl, wpo_none (rs_list ?_)⟩))))))
    rw [hcut]
    refine ⟨_, rfl, by rw [List.length_map]; omega, fun d a o hd => ?_, _, rfl, ?_⟩
    · obtain ⟨w, hw2, rfl⟩ := List.mem_map.mp hd
      exact wp_callP (wpa_cons (wp_var rfl (wpa_nil ⟨(hw w (by simp [hw2])).ok, fun r e => e⟩)))
    · rw [List.all_map]
      show wr.all _ = wr.all _
      congr 1
      funext w
      exact name_is
  · refine wps_ret (wp_bl ⟨s, rfl, fun ws2 e => ?_⟩)
    rw [inj ws2 e, key, if_neg fun z => by rw [z.1, z.2.1, z.2.2] at h; cases h]
    exact ⟨rfl, rfl⟩
  · have hh : decide (w0 = wKinds) = true ∧ decide (((wr.length + 1 : Nat) : Int) = 1) = false ∧ wr.all nameC = true := by
      simp only [Bool.or_eq_false_iff, Bool.not_eq_false'] at h
      exact h
    refine wps_next (wps_seq (wps_rdK (st := s.st) rfl T.c_Reader T.n_Reader_r_kinds (wp_cb (wpa_cons (wp_l (wpl_sl (wp_var rfl (wpo_some (wp_int ⟨1, rfl, wpo_none (rs_list ?_)⟩)))))))))
    rw [hcut]
    refine wpa_nil (rc_tupL (wps_ret (wp_bl ⟨{ s with ks := wr }, rfl, fun ws2 e => ?_⟩)))
    rw [inj ws2 e, key, if_pos hh]
    exact ⟨rfl, rfl⟩
abbrev sp_Reader_takes_pass {K : PySem.W.Frag} {mg : Str → Option Value} (T : Tx K mg) : Sp := spO K (rdO K T.a_Reader) (fun s ds => (∃ n, n ≤ 100000 ∧ RsOk n s) ∧ pre1 (fun x => wordsP x) ds) (fun s ds d s' => ∀ ws : List (List Nat), ds = [.lst (ws.map strD)] → outc (takesP s ws) s d s')
theorem ok_Reader_takes_pass (T : Tx K mg) : FnOk P wd K mg base CX0 3 T.f_Reader_takes_pass T.d_Reader_takes_pass ["self", "words"] (sp_Reader_takes_pass T) := by
  refine fn_O rdO_at T.F_Reader_takes_pass sc_Reader_takes_pass (fun s ds h => by have h := h.2; obtain ⟨_, rfl, _⟩ := pre1_inv h; rfl) (fun cdv A outer s H E hr => ⟨_, (have nd := sc_Reader_takes_pass.nd; (pss_cons (ps_set (i := 2) nd rfl (.inl rfl) (pe_call (ok_numbers_in T) (hr.mono (by decide)) rfl T.g_numbers_in T.F_numbers_in.kp T.b_numbers_in .nil pass0 (pa_cons (pe_slice sl_list (pv 1) (po_some pe_int) po_none) pa_nil)))
      (pss_cons (ps_if (PW.pt (pw_or (pt_cmpR op_ne (pe_ix ix_list (pv 1) pe_int (fun _ _ => rfl)) pe_str (nomark _)) (pw_or (pt_cmpR op_eq (pe_callB call_len rfl T.m_len (by decide +kernel) (pa_cons (pv 1) pa_nil)) pe_int (nomark _)) (pw_or (pt_cmpR op_isN (pv 2) pe_non (nomark _)) (pw_or1 (pt_cmpR (op_neD hr.units) (pe_fld (pv 0) rfl) (pe_lst pa_nil) (nomark _))))))) (pss_one (ps_ret pe_bl)) pss_nil)
      (pss_cons (ps_expr (pe_bm PySem.F.plainAttrs_list PySem.F.slot_list_append PySem.F.type_list_append mt_append (pe_fld (pv 0) rfl) (pa_cons (pe_tup (pa_cons (pv 2) (pa_cons (pe_lst pa_nil) pa_nil))) pa_nil)))
      (pss_one (ps_ret pe_bl)))))), fun F0 H0 O a s ds hp => ?_⟩)
  walk_at "s"
  obtain ⟨⟨n, hn, hs⟩, hp⟩ := hp
  obtain ⟨x, rfl, ws, rfl, hne, hwl, hw⟩ := pre1_inv hp
  obtain ⟨w0, wr, rfl⟩ : ∃ w0 wr, ws = w0 :: wr := by
    cases ws with
    | nil => exact absurd rfl hne
    | cons a b => exact ⟨a, b, rfl⟩
  have hcut : cutD ((w0 :: wr).map strD) (some 1) none = wr.map strD := by rw [cut1]; rfl
  have hlen : ((w0 :: wr).map strD).length = wr.length + 1 := by simp
  have l1 : wr.length + 1 ≤ 2001 := by simpa using hwl

  show wps _ _ [.o (rdO K T.a_Reader a s), .d (.lst ((w0 :: wr).map strD)), .no] _ _
  have inj : ∀ ws2 : List (List Nat), [D.lst ((w0 :: wr).map strD)] = [.lst (ws2.map strD)] → ws2 = w0 :: wr := fun ws2 e => by
    simp only [List.cons.injEq, D.lst.injEq, and_true] at e
    exact (kD_inj e).symm
  refine wps_seq (wps_asgV (numsD (numsC wr)) (wp_callP (wpa_cons (wp_l (wpl_sl (wp_var rfl (wpo_some (wp_int ⟨1, rfl, wpo_none (rs_list ?_)⟩))))))) ?_)
  · rw [hcut]
    exact wpa_nil ⟨⟨wr, rfl, by omega, fun w h => by have := (hw w (by simp [h])).1; omega⟩, fun r e => e wr rfl⟩
  show wps _ _ [.o (rdO K T.a_Reader a s), .d (.lst ((w0 :: wr).map strD)), .d (numsD (numsC wr))] _ _
  have hN : isN (numsD (numsC wr)) = (numsC wr).isNone := by cases numsC wr <;> rfl
  have key : takesP s (w0 :: wr) = match numsC wr with | none => none | some bs => if decide (w0 = wPass) = true ∧ decide (((wr.length + 1 : Nat) : Int) = 1) = false ∧ s.ts.isEmpty = true then some { s with ps := s.ps ++ [(bs, [])] } else none := by
    unfold takesP
    rw [List.tail_cons]
    cases numsC wr with
    | none => rfl
    | some bs =>
      dsimp only
      congr 1
      rw [decide_eq_true_eq, decide_eq_false_iff_not, List.isEmpty_iff]
      simp only [List.head?_cons, Option.some.injEq, List.length_cons, eq_iff_iff]
      constructor
      · rintro ⟨h1, h2, h3⟩; exact ⟨h1, by omega, h3⟩
      · rintro ⟨h1, h2, h3⟩; exact ⟨h1, by omega, h3⟩
  refine wps_seq (wps_ifD ((!decide (w0 = wPass)) || (decide (((wr.length + 1 : Nat) : Int) = 1) || ((numsC wr).isNone || !s.ts.isEmpty))) (wpt_orD ?_ fun _ => wpt_orD ?_ fun _ => wpt_orD ?_ fun _ => ?_) (fun h => ?_) (fun h => ?_))
  · refine wpt_test (wp_op (wp_op (wp_var rfl (wp_int (r2_ixL (at0 _ _) (wp_str (r2_neS ⟨_, rfl, ?_⟩)))))))
    rw [show ("pass" : Str) = S wPass by decide +kernel, S_eq]
  · refine wpt_test (wp_op (wp_cb (wpa_cons (wp_var rfl (wpa_nil (rc_len rfl (wp_int (r2_eqI ⟨_, rfl, ?_⟩))))))))
    rw [hlen]
  · exact wpt_test (wp_op (wp_var rfl (wp_non (r2_isN ⟨_, rfl, hN⟩))))
  · refine wpt_pkL (.cons pk_rdO (.cons pk_d (.cons pk_d .nil))) fun F1 H1 => ?_
    refine wpt_test (wp_op (wp_fld T.c_Reader T.n_Reader_r_tells (wp_var rfl ⟨_, _, _, rfl, rfl, wp_l (wpl_lst (wpa_nil ⟨by simp, r2_neD (hs.okT hn).cmp ok_nilL.cmp ⟨_, rfl, ?_⟩⟩))⟩)))
    rw [eqv_nilL]
    show (!(s.ts.map telD).isEmpty) = !s.ts.isEmpty
    cases s.ts <;> rfl
  · refine wps_ret (wp_bl ⟨s, rfl, fun ws2 e => ?_⟩)
    rw [inj ws2 e, key]
    cases hb : numsC wr with
    | none => exact ⟨rfl, rfl⟩
    | some bs =>
      dsimp only
      rw [if_neg fun z => by rw [z.1, z.2.1, z.2.2, hb] at h; cases h]
      exact ⟨rfl, rfl⟩
  · simp only [Bool.or_eq_false_iff, Bool.not_eq_false'] at h
    cases hb : numsC wr with
    | none => rw [hb] at h; exact absurd h.2.2.1 (by simp)
    | some bs =>
      refine wps_next (wps_seq (wps_rdPass (j := 2) (b := intsD bs) (st := s.st) rfl rfl T.c_Reader T.n_Reader_r_passes ?_ (wps_ret (wp_bl ⟨{ s with ps := s.ps ++ [(bs, [])] }, ?_, fun ws2 e => ?_⟩))))
      · show (s.ps.map _).length < 1000000
        rw [List.length_map]
        have := hs.p.1
        omega
      · show some (Ent.o (readerP K T.a_Reader a _)) = some (Ent.o (readerP K T.a_Reader a _))
        unfold RS.st
        rw [List.map_append]
        rfl
      · rw [inj ws2 e, key, hb]
        dsimp only
        rw [if_pos ⟨h.1, h.2.1, h.2.2.2⟩]
        exact ⟨rfl, rfl⟩
abbrev sp_Reader_takes_row {K : PySem.W.Frag} {mg : Str → Option Value} (T : Tx K mg) : Sp := spO K (rdO K T.a_Reader) (fun s ds => (∃ n, n ≤ 100000 ∧ RsOk n s) ∧ pre1 (fun x => ∃ l, x = strD l ∧ LnOk l) ds) (fun s ds d s' => ∀ l : List Nat, ds = [strD l] → outc (takesR s l) s d s')
theorem ok_Reader_takes_row (T : Tx K mg) : FnOk P wd K mg base CX0 4 T.f_Reader_takes_row T.d_Reader_takes_row ["self", "line"] (sp_Reader_takes_row T) := by
  refine fn_O rdO_at T.F_Reader_takes_row sc_Reader_takes_row (fun s ds h => by have h := h.2; obtain ⟨_, rfl, _⟩ := pre1_inv h; rfl) (fun cdv A outer s H E hr => ⟨_, (have nd := sc_Reader_takes_row.nd; (pss_cons (ps_set (i := 2) nd rfl (.inl rfl) (pe_call (ok_read_row T) (hr.mono (by decide)) rfl T.g_read_row T.F_read_row.kp T.b_read_row .nil pass0 (pa_cons (pe_callB call_len rfl T.m_len (by decide +kernel) (pa_cons (pe_fld (pv 0) rfl) pa_nil)) (pa_cons (pv 1) pa_nil))))
      (pss_cons (ps_if (PW.pt (pw_or (pt_cmpR op_isN (pv 2) pe_non (nomark _)) (pw_or (pt_cmpR (op_eqD hr.units) (pe_fld (pv 0) rfl) (pe_lst pa_nil) (nomark _)) (pw_or1 (pt_cmpR (op_neD hr.units) (pe_fld (pv 0) rfl) (pe_lst pa_nil) (nomark _)))))) (pss_one (ps_ret pe_bl)) pss_nil)
      (pss_cons (ps_expr (pe_bm PySem.F.plainAttrs_list PySem.F.slot_list_append PySem.F.type_list_append mt_append (pe_ix ix_tup (pe_ix ix_list (pe_fld (pv 0) rfl) (pe_un un_neg pe_int) (fun _ _ => rfl)) pe_int (fun _ _ => rfl)) (pa_cons (pv 2) pa_nil)))
      (pss_one (ps_ret pe_bl)))))), fun F0 H0 O a s ds hp => ?_⟩)
  walk_at "s"
  obtain ⟨⟨n, hn, hs⟩, hp⟩ := hp
  obtain ⟨x, rfl, l, rfl, hl⟩ := pre1_inv hp
  show wps _ _ [.o (rdO K T.a_Reader a s), .d (strD l), .no] _ _
  have inj : ∀ l2 : List Nat, [strD l] = [strD l2] → l2 = l := fun l2 e => by
    simp only [List.cons.injEq, and_true] at e
    exact (strD_inj e).symm
  refine wps_seq (wps_asgV (rowOD (rowOf s.ks.length l)) (wp_callP (wpa_cons ?_)) ?_)
  · refine wp_is (.int s.ks.length) (wp_pkL (.cons pk_rdO (.cons pk_d (.cons pk_no .nil))) fun F1 H1 => ?_) ?_
    · refine wp_cb (wpa_cons (wp_fld T.c_Reader T.n_Reader_r_kinds (wp_var rfl ⟨_, _, _, rfl, rfl, wpa_nil (rc_len rfl ⟨rfl, ?_⟩)⟩)))
      rw [List.length_map]
    · exact wpa_cons (wp_var rfl (wpa_nil ⟨⟨⟨_, rfl, by have := hs.k.1; omega⟩, l, rfl, by have := hl.1; omega⟩, fun r e => e _ _ rfl rfl⟩))
  show wps _ _ [.o (rdO K T.a_Reader a s), .d (strD l), .d (rowOD (rowOf s.ks.length l))] _ _
  have hN : isN (rowOD (rowOf s.ks.length l)) = (rowOf s.ks.length l).isNone := by cases rowOf s.ks.length l <;> rfl
  have key : takesR s l = match rowOf s.ks.length l with | none => none | some r => if s.ps.isEmpty = false ∧ s.ts.isEmpty = true then some { s with ps := addRow s.ps r } else none := by
    unfold takesR
    cases rowOf s.ks.length l with
    | none => rfl
    | some r =>
      dsimp only
      congr 1
      rw [List.isEmpty_iff, List.isEmpty_eq_false_iff]
  refine wps_seq (wps_ifD ((rowOf s.ks.length l).isNone || (s.ps.isEmpty || !s.ts.isEmpty)) (wpt_orD ?_ fun _ => wpt_orD ?_ fun _ => ?_) (fun h => ?_) (fun h => ?_))
  · exact wpt_test (wp_op (wp_var rfl (wp_non (r2_isN ⟨_, rfl, hN⟩))))
  · refine wpt_pkL (.cons pk_rdO (.cons pk_d (.cons pk_d .nil))) fun F1 H1 => ?_
    refine wpt_test (wp_op (wp_fld T.c_Reader T.n_Reader_r_passes (wp_var rfl ⟨_, _, _, rfl, rfl, wp_l (wpl_lst (wpa_nil ⟨by simp, r2_eqD (hs.okP hn).cmp ok_nilL.cmp ⟨_, rfl, ?_⟩⟩))⟩)))
    rw [eqv_nilL]
    show ((s.ps.map _).map _).isEmpty = s.ps.isEmpty
    cases s.ps <;> rfl
  · refine wpt_pkL (.cons pk_rdO (.cons pk_d (.cons pk_d .nil))) fun F1 H1 => ?_
    refine wpt_test (wp_op (wp_fld T.c_Reader T.n_Reader_r_tells (wp_var rfl ⟨_, _, _, rfl, rfl, wp_l (wpl_lst (wpa_nil ⟨by simp, r2_neD (hs.okT hn).cmp ok_nilL.cmp ⟨_, rfl, ?_⟩⟩))⟩)))
    rw [eqv_nilL]
    show (!(s.ts.map telD).isEmpty) = !s.ts.isEmpty
    cases s.ts <;> rfl
  · refine wps_ret (wp_bl ⟨s, rfl, fun l2 e => ?_⟩)
    rw [inj l2 e, key]
    cases hb : rowOf s.ks.length l with
    | none => exact ⟨rfl, rfl⟩
    | some bs =>
      dsimp only
      rw [if_neg fun z => by rw [z.1, z.2, hb] at h; cases h]
      exact ⟨rfl, rfl⟩
  · simp only [Bool.or_eq_false_iff, Bool.not_eq_false'] at h
    cases hb : rowOf s.ks.length l with
    | none => rw [hb] at h; exact absurd h.1 (by simp)
    | some r =>
      have hne : s.ps ≠ [] := List.isEmpty_eq_false_iff.mp h.2.1
      obtain ⟨ps, q, hps⟩ : ∃ ps q, s.ps = ps ++ [q] := ⟨_, _, (List.dropLast_concat_getLast hne).symm⟩
      have hq := hs.p.2 q (by rw [hps]; simp)
      refine wps_next (wps_seq (wps_rdRow (j := 2) (d := rowD r) (p := (intsD q.1, q.2.map rowD)) (ps := ps.map fun p => (intsD p.1, p.2.map rowD)) (st := s.st) rfl rfl T.c_Reader T.n_Reader_r_passes ?_ ?_ (wps_ret (wp_bl ⟨{ s with ps := ps ++ [(q.1, q.2 ++ [r])] }, ?_, fun l2 e => ?_⟩))))
      · show s.ps.map _ = _
        rw [hps, List.map_append]
        rfl
      · show (q.2.map rowD).length < 1000000
        rw [List.length_map]
        omega
      · show some (Ent.o (readerP K T.a_Reader a _)) = some (Ent.o (readerP K T.a_Reader a _))
        unfold RS.st
        simp only [List.map_append, List.map_cons, List.map_nil]
      · rw [inj l2 e, key, hb]
        dsimp only
        rw [if_pos ⟨h.2.1, h.2.2⟩, hps, add_last]
        exact ⟨rfl, rfl⟩
abbrev sp_Reader_takes_tell {K : PySem.W.Frag} {mg : Str → Option Value} (T : Tx K mg) : Sp := spO K (rdO K T.a_Reader) (fun s ds => (∃ n, n ≤ 100000 ∧ RsOk n s) ∧ pre1 (fun x => wordsP x) ds) (fun s ds d s' => ∀ ws : List (List Nat), ds = [.lst (ws.map strD)] → outc (takesT s ws) s d s')
theorem ok_Reader_takes_tell (T : Tx K mg) : FnOk P wd K mg base CX0 2 T.f_Reader_takes_tell T.d_Reader_takes_tell ["self", "words"] (sp_Reader_takes_tell T) := by
  refine fn_O rdO_at T.F_Reader_takes_tell sc_Reader_takes_tell (fun s ds h => by have h := h.2; obtain ⟨_, rfl, _⟩ := pre1_inv h; rfl) (fun cdv A outer s H E hr => ⟨_, (have nd := sc_Reader_takes_tell.nd; (pss_cons (ps_if (PW.pt (pw_or (pt_cmpR op_ne (pe_ix ix_list (pv 1) pe_int (fun _ _ => rfl)) pe_str (nomark _)) (pw_or (pt_cmpR op_ne (pe_callB call_len rfl T.m_len (by decide +kernel) (pa_cons (pv 1) pa_nil)) pe_int (nomark _)) (pw_or (pt_not (pt_val (pe_call (ok_is_name T) (hr.mono (by decide)) rfl T.g_is_name T.F_is_name.kp T.b_is_name .nil pass0 (pa_cons (pe_ix ix_list (pv 1) pe_int (fun _ _ => rfl)) pa_nil)))) (pw_or1 (pt_not (pt_val (pe_call (ok_is_numeral T) (hr.mono (by decide)) rfl T.g_is_numeral T.F_is_numeral.kp T.b_is_numeral .nil pass0 (pa_cons (pe_ix ix_list (pv 1) pe_int (fun _ _ => rfl)) pa_nil))))))))) (pss_one (ps_ret pe_bl)) pss_nil)
      (pss_cons (ps_if (pt_cmpR (op_eqD hr.units) (pe_fld (pv 0) rfl) (pe_lst pa_nil) (nomark _)) (pss_one (ps_ret pe_bl)) pss_nil)
      (pss_cons (ps_expr (pe_bm PySem.F.plainAttrs_list PySem.F.slot_list_append PySem.F.type_list_append mt_append (pe_fld (pv 0) rfl) (pa_cons (pe_tup (pa_cons (pe_ix ix_list (pv 1) pe_int (fun _ _ => rfl)) (pa_cons (pe_callTy call_int_str rfl T.m_int (by decide +kernel) (pa_cons (pe_ix ix_list (pv 1) pe_int (fun _ _ => rfl)) pa_nil)) pa_nil))) pa_nil)))
      (pss_one (ps_ret pe_bl)))))), fun F0 H0 O a s ds hp => ?_⟩)
  walk_at "s"
  obtain ⟨⟨n, hn, hs⟩, hp⟩ := hp
  obtain ⟨x, rfl, ws, rfl, hne, hwl, hw⟩ := pre1_inv hp
  show wps _ _ [.o (rdO K T.a_Reader a s), .d (.lst (ws.map strD))] _ _
  obtain ⟨w0, wr, rfl⟩ : ∃ w0 wr, ws = w0 :: wr := by
    cases ws with
    | nil => exact absurd rfl hne
    | cons a b => exact ⟨a, b, rfl⟩
  have inj : ∀ ws2 : List (List Nat), [D.lst ((w0 :: wr).map strD)] = [.lst (ws2.map strD)] → ws2 = w0 :: wr := fun ws2 e => by
    simp only [List.cons.injEq, D.lst.injEq, and_true] at e
    exact (kD_inj e).symm
  have no : ∀ {G : List Ent}, takesT s (w0 :: wr) = none → G[0]? = some (.o (rdO K T.a_Reader a s)) → ∃ s', G[0]? = some (Ent.o (rdO K T.a_Reader a s')) ∧ ∀ ws : List (List Nat), [D.lst ((w0 :: wr).map strD)] = [.lst (ws.map strD)] → outc (takesT s ws) s (.bl false) s' := fun h0 hG => ⟨s, hG, fun ws2 e => by rw [inj ws2 e, h0]; exact ⟨rfl, rfl⟩⟩
  have hlen : ((w0 :: wr).map strD).length = wr.length + 1 := by simp
  refine wps_seq (wps_if (wpt_or (wpt_test (wp_op (wp_op (wp_var rfl (wp_int (r2_ixL (at0 _ _) (wp_str (r2_neS ⟨_, rfl, ?_⟩))))))))))
  rw [show ("tell" : Str) = S wTell by decide +kernel, S_eq]
  refine ite_b (fun h0 => ?_) (fun h0 => ?_)
  · refine ite_t rfl (wps_ret (wp_bl (no ?_ rfl)))
    unfold takesT
    split
    · rename_i a b c e
      cases e
      rw [if_neg fun z => of_decide_eq_false (nb_t h0) z.1]
    · rfl
  refine wpt_or (wpt_test (wp_op (wp_cb (wpa_cons (wp_var rfl (wpa_nil (rc_len rfl (wp_int (r2_neI ⟨_, rfl, ?_⟩)))))))))
  rw [hlen]
  refine ite_b (fun h1 => ?_) (fun h1 => ?_)
  · refine ite_t rfl (wps_ret (wp_bl (no ?_ rfl)))
    unfold takesT
    split
    · rename_i a b c e
      cases e
      exact absurd rfl (of_decide_eq_false (nb_t h1))
    · rfl
  have hl2 : wr.length = 2 := by have := of_decide_eq_true (nb_f h1); omega
  obtain ⟨w1, w2, rfl⟩ : ∃ w1 w2, wr = [w1, w2] := by
    match wr, hl2 with
    | [a, b], _ => exact ⟨a, b, rfl⟩
  have key : takesT s [w0, w1, w2] = if w0 = wTell ∧ nameC w1 = true ∧ numC w2 = true ∧ s.ps ≠ [] then some { s with ts := s.ts ++ [(w1, valC w2)] } else none := rfl
  have hw1 := hw w1 (by simp)
  have hw2 := hw w2 (by simp)
  refine wpt_or (wpt_not (wpt_B (wp_callP (wpa_cons (wp_op (wp_var rfl (wp_int (r2_ixL rfl (wpa_nil ⟨hw1.ok, fun r e => ⟨_, e, ?_⟩⟩)))))))))
  rw [name_is]
  refine ite_b (fun h2 => ?_) (fun h2 => ?_)
  · exact ite_t rfl (wps_ret (wp_bl (no (by rw [key, if_neg fun z => by rw [z.2.1] at h2; cases h2]) rfl)))
  refine wpt_not (wpt_B (wp_callP (wpa_cons (wp_op (wp_var rfl (wp_int (r2_ixL rfl (wpa_nil ⟨⟨w2, rfl, by have := hw2.1; omega⟩, fun r e => ⟨_, e _ rfl, ?_⟩⟩))))))))
  refine ite_b (fun h3 => ?_) (fun h3 => ?_)
  · exact wps_ret (wp_bl (no (by rw [key, if_neg fun z => by rw [z.2.2.1] at h3; cases h3]) rfl))
  refine wps_next (wps_seq (wps_ifD s.ps.isEmpty ?_ (fun h4 => ?_) (fun h4 => ?_)))
  · refine wpt_pkL (.cons pk_rdO (.cons pk_d .nil)) fun F1 H1 => ?_
    refine wpt_test (wp_op (wp_fld T.c_Reader T.n_Reader_r_passes (wp_var rfl ⟨_, _, _, rfl, rfl, wp_l (wpl_lst (wpa_nil ⟨by simp, r2_eqD (hs.okP hn).cmp ok_nilL.cmp ⟨_, rfl, ?_⟩⟩))⟩)))
    rw [eqv_nilL]
    show ((s.ps.map _).map _).isEmpty = s.ps.isEmpty
    cases s.ps <;> rfl
  · exact wps_ret (wp_bl (no (by rw [key, if_neg fun z => z.2.2.2 (List.isEmpty_iff.mp h4)]) rfl))
  obtain ⟨i1, i2⟩ := numC_val (nb_f h3)
  refine wps_next (wps_seq (wps_rdTell (st := s.st) (.cons pk_rdO (.cons pk_d .nil)) rfl T.c_Reader T.n_Reader_r_tells ?_ fun F1 H1 => ?_))
  · show (s.ts.map telD).length < 1000000
    rw [List.length_map]
    have := hs.t.1
    omega
  refine wpa_cons (wp_op (wp_var rfl (wp_int (r2_ixL rfl (wpa_cons (wp_cb (wpa_cons (wp_op (wp_var rfl (wp_int (r2_ixL rfl (wpa_nil (rc_intS i1 (by rw [S_len]; omega) ?_)))))))))))))
  refine wpa_nil ⟨rfl, by simp, wps_ret (wp_bl ⟨{ s with ts := s.ts ++ [(w1, valC w2)] }, ?_, fun ws2 e => ?_⟩)⟩
  · show some (Ent.o (readerP K T.a_Reader a _)) = some (Ent.o (readerP K T.a_Reader a _))
    unfold RS.st
    simp only [List.map_append, List.map_cons, List.map_nil]
    rfl
  · rw [inj ws2 e, key, if_pos ⟨of_decide_eq_true (nb_f h0), nb_f h2, nb_f h3, List.isEmpty_eq_false_iff.mp h4⟩]
    exact ⟨rfl, rfl⟩
abbrev sp_Reader_takes {K : PySem.W.Frag} {mg : Str → Option Value} (T : Tx K mg) : Sp := spO K (rdO K T.a_Reader) (fun s ds => (∃ n, n ≤ 100000 ∧ RsOk n s) ∧ pre1 (fun x => ∃ l, x = strD l ∧ LnOk l) ds) (fun s ds d s' => ∀ l : List Nat, ds = [strD l] → outc (takesC s l) s d s')
theorem ok_Reader_takes (T : Tx K mg) : FnOk P wd K mg base CX0 5 T.f_Reader_takes T.d_Reader_takes ["self", "line"] (sp_Reader_takes T) := by
  refine fn_O rdO_at T.F_Reader_takes sc_Reader_takes (fun s ds h => by have h := h.2; obtain ⟨_, rfl, _⟩ := pre1_inv h; rfl) (fun cdv A outer s H E hr => ⟨_, (have nd := sc_Reader_takes.nd; (pss_cons (ps_set (i := 2) nd rfl (.inl rfl) (pe_split (pv 1) pe_str))
      (pss_cons (ps_if (pt_cmpR (op_eqD hr.units) (pe_fld (pv 0) rfl) (pe_tup pa_nil) (nomark _)) (pss_one (ps_ret (pe_meth (pv 0) T.c_Reader T.M_Reader_takes_kinds (ok_Reader_takes_kinds T) (hr.mono (by decide)) T.b_Reader_takes_kinds .nil pass0 (pa_cons (pv 2) pa_nil)))) pss_nil)
      (pss_one (ps_ret (pe_or (pe_meth (pv 0) T.c_Reader T.M_Reader_takes_pass (ok_Reader_takes_pass T) (hr.mono (by decide)) T.b_Reader_takes_pass .nil pass0 (pa_cons (pv 2) pa_nil)) (pe_or (pe_meth (pv 0) T.c_Reader T.M_Reader_takes_row (ok_Reader_takes_row T) (hr.mono (by decide)) T.b_Reader_takes_row .nil pass0 (pa_cons (pv 1) pa_nil)) (pe_one (pe_meth (pv 0) T.c_Reader T.M_Reader_takes_tell (ok_Reader_takes_tell T) (hr.mono (by decide)) T.b_Reader_takes_tell .nil pass0 (pa_cons (pv 2) pa_nil)))))))))), fun F0 H0 O a s ds hp => ?_⟩)
  walk_at "s"
  obtain ⟨⟨n, hn, hs⟩, hp⟩ := hp
  obtain ⟨x, rfl, l, rfl, hl⟩ := pre1_inv hp
  show wps _ _ [.o (rdO K T.a_Reader a s), .d (strD l), .no] _ _
  have inj : ∀ l2 : List Nat, [strD l] = [strD l2] → l2 = l := fun l2 e => by
    simp only [List.cons.injEq, and_true] at e
    exact (strD_inj e).symm
  obtain ⟨w1, w2, w3⟩ := words_ok hl
  have hwp : wordsP (.lst ((splitC l 32).map strD)) := ⟨_, rfl, w2, w1, w3⟩
  refine wps_seq (wps_asgV (.lst ((splitC l 32).map strD)) (wp_l (wpl_m1 (wp_var rfl ⟨⟨_, rfl⟩, wp_str ?_⟩))) ?_)
  · rw [show (" " : Str) = S [32] by decide +kernel]
    refine rm_split (by decide +kernel) (by rw [S_len]; have := hl.1; omega) ?_
    rw [split_C _ _ (by decide), ← strs_map]
  show wps _ _ [.o (rdO K T.a_Reader a s), .d (strD l), .d (.lst ((splitC l 32).map strD))] _ _
  refine wps_seq (wps_ifD s.ks.isEmpty ?_ (fun h => ?_) (fun h => ?_))
  · refine wpt_pkL (.cons pk_rdO (.cons pk_d (.cons pk_d .nil))) fun F1 H1 => ?_
    refine wpt_test (wp_op (wp_fld T.c_Reader T.n_Reader_r_kinds (wp_var rfl ⟨_, _, _, rfl, rfl, wp_tup (wpa_nil ⟨by simp, r2_eqD hs.okK.cmp ok_nil.cmp ⟨_, rfl, ?_⟩⟩)⟩)))
    show eqvD (.tup (s.ks.map strD)) (.tup []) = _
    rw [eqv_nil]
    cases s.ks <;> rfl
  · refine wps_retX (wpx_methO (rdO_ins (by decide +kernel) (by decide +kernel) (by decide +kernel)) rfl (wpa_cons (wp_var rfl (wpa_nil ⟨⟨⟨n, hn, hs⟩, hwp⟩, fun d s' e => ⟨s', rfl, fun l2 e2 => ?_⟩⟩))))
    rw [inj l2 e2]
    unfold takesC
    rw [if_pos (List.isEmpty_iff.mp h)]
    exact e _ rfl
  · have hk : s.ks ≠ [] := List.isEmpty_eq_false_iff.mp h
    have key : takesC s l = match takesP s (splitC l 32) with | some s' => some s' | none => match takesR s l with | some s' => some s' | none => takesT s (splitC l 32) := by
      unfold takesC
      exact (if_neg hk).trans rfl
    refine wps_next (wps_retX (wpx_orV (wpx_methO (rdO_ins (by decide +kernel) (by decide +kernel) (by decide +kernel)) rfl (wpa_cons (wp_var rfl (wpa_nil ⟨⟨⟨n, hn, hs⟩, hwp⟩, fun d s' e => ?_⟩))))))
    have e := e _ rfl
    cases e1 : takesP s (splitC l 32) with
    | some s2 =>
      rw [e1] at e
      obtain ⟨rfl, rfl⟩ := e
      refine ⟨true, rfl, iteT ⟨_, rfl, fun l2 e2 => ?_⟩⟩
      rw [inj l2 e2, key, e1]
      exact ⟨rfl, rfl⟩
    | none =>
      rw [e1] at e
      obtain ⟨rfl, es⟩ := e
      rw [es]
      refine ⟨false, rfl, iteF (wpx_orV (wpx_methO (rdO_ins (by decide +kernel) (by decide +kernel) (by decide +kernel)) rfl (wpa_cons (wp_var rfl (wpa_nil ⟨⟨⟨n, hn, hs⟩, l, rfl, hl⟩, fun d s' e => ?_⟩)))))⟩
      have e := e _ rfl
      cases e2 : takesR s l with
      | some s2 =>
        rw [e2] at e
        obtain ⟨rfl, rfl⟩ := e
        refine ⟨true, rfl, iteT ⟨_, rfl, fun l2 e3 => ?_⟩⟩
        rw [inj l2 e3, key, e1, e2]
        exact ⟨rfl, rfl⟩
      | none =>
        rw [e2] at e
        obtain ⟨rfl, es⟩ := e
        rw [es]
        refine ⟨false, rfl, iteF (wpx_methO (rdO_ins (by decide +kernel) (by decide +kernel) (by decide +kernel)) rfl (wpa_cons (wp_var rfl (wpa_nil ⟨⟨⟨n, hn, hs⟩, hwp⟩, fun d s2 e => ⟨s2, rfl, fun l2 e3 => ?_⟩⟩))))⟩
        have e := e _ rfl
        rw [inj l2 e3, key, e1, e2]
        exact e
abbrev sp_Reader_result {K : PySem.W.Frag} {mg : Str → Option Value} (T : Tx K mg) : Sp := spP K (pre1 fun x => ∃ g : Pg, x = rdD T.a_Reader (RS.st ⟨g.ks, g.ps, g.ts⟩) ∧ PgOk g) (post1 fun x r => ∀ g : Pg, x = rdD T.a_Reader (RS.st ⟨g.ks, g.ps, g.ts⟩) → r = pgD T.a_Program g.kD g.pD g.tD)
theorem ok_Reader_result (T : Tx K mg) : FnOk P wd K mg base CX0 9 T.f_Reader_result T.d_Reader_result ["self"] (sp_Reader_result T) := by
  refine fn_P T.F_Reader_result sc_Reader_result (fun ds h => by obtain ⟨_, rfl, _⟩ := pre1_inv h; rfl) (fun cdv A outer s H E hr => ⟨_, (have nd := sc_Reader_result.nd; (pss_cons (ps_set (i := 1) nd rfl (.inl rfl) (pe_callTy call_tuple_of rfl T.m_tuple (by decide +kernel) (pa_cons (pe_lc (own := [("begins", 2), ("rows", 3)]) (g := gTup _ 2 (gCons (gName 2) (gCons (gName 3) gNil))) rfl nd (pi_list (pe_fld (pv 0) rfl)) (blkOk_by (N := N_Reader_result) (sc := defScope s_Reader_result) (by decide +kernel)) (fun _ _ _ _ _ => (pg_tup rfl (pgs_cons (pg_name (i := 2) nd rfl (.inl rfl)) (pgs_cons (pg_name (i := 3) nd rfl (.inl rfl)) pgs_nil)))) (fun _ _ _ _ _ => pts_nil) (fun _ _ _ _ _ => (castE (pe_tup (pa_cons (pv 2) (pa_cons (pe_callTy call_tuple_of rfl T.m_tuple (by decide +kernel) (pa_cons (pv 3) pa_nil)) pa_nil))) (by walk_at "r")))) pa_nil)))
      (pss_one (ps_ret (pe_make T.K_Program (ok_Program_init T) (hr.mono (by decide)) rfl T.g_Program T.b_Program_init .nil pass0 (pa_cons (pe_fld (pv 0) rfl) (pa_cons (pv 1) (pa_cons (pe_callTy call_tuple_of rfl T.m_tuple (by decide +kernel) (pa_cons (pe_fld (pv 0) rfl) pa_nil)) pa_nil)))))))), fun F0 H0 ds hp => ?_⟩)
  walk_at "s"
  obtain ⟨x, rfl, g, rfl, hg⟩ := pre1_inv hp
  show wps _ _ [.d (rdD T.a_Reader (RS.st ⟨g.ks, g.ps, g.ts⟩)), .no, .no, .no] _ _
  have hs := hg.size
  refine wps_seq (wps_asgV g.pD (wp_cb (wpa_cons (wp_l (wpl_lcNN rfl rfl (wpi_lst ?_))))) ?_)
  · refine wp_fld T.c_Reader T.n_Reader_r_passes (wp_var rfl ⟨_, _, _, rfl, rfl, _, rfl, ?_⟩)
    rw [st_ps]
    refine ⟨by rw [List.length_map]; have := hs.p; omega, fun i acc => acc = (g.ps.take i).map pasD, rfl, fun i d acc a o hd hI => ?_, fun acc hI => ?_⟩
    · obtain ⟨p, hp, rfl⟩ := map_at hd
      refine ⟨_, _, rfl, wpt_yes (iteT (wp_tup (wpa_cons (wp_var rfl (wpa_cons (wp_cb (wpa_cons (wp_var rfl (wpa_nil (rc_tupL (wpa_nil ⟨by simp, ?_⟩)))))))))))⟩
      have hI' : acc = (g.ps.take i).map pasD := hI
      show acc ++ [_] = (g.ps.take (i + 1)).map pasD
      rw [hI', List.take_add_one, hp, List.map_append]
      rfl
    · have hI' : acc = (g.ps.take _).map pasD := hI
      rw [List.length_map, List.take_of_length_le (Nat.le_refl _)] at hI'
      rw [hI']
      exact wpa_nil (rc_tupL rfl)
  show wps _ _ [.d (rdD T.a_Reader (RS.st ⟨g.ks, g.ps, g.ts⟩)), .d g.pD, .no, .no] _ _
  refine wps_ret (wp_make (wpa_cons (wp_fld T.c_Reader T.n_Reader_r_kinds (wp_var rfl ⟨_, _, _, rfl, rfl, ?_⟩))))
  refine wpa_cons (wp_var rfl (wpa_cons (wp_cb (wpa_cons (wp_fld T.c_Reader T.n_Reader_r_tells (wp_var rfl ⟨_, _, _, rfl, rfl, wpa_nil (rc_tupL ?_)⟩))))))
  refine wpa_nil ⟨⟨rfl, hg.ok⟩, fun d s' e => ⟨e.1, fun g2 e2 => ?_⟩⟩
  rw [e.2]
  have e3 := (D.obj.inj e2).2.2
  simp only [List.cons.injEq, D.lst.injEq, and_true] at e3
  have k1 : g.ks = g2.ks := kD_inj (D.tup.inj e3.1)
  have k3 : g.ts = g2.ts := tD_inj e3.2.2
  have k2 : g.ps = g2.ps := by
    have h : (g.ps.map fun p => (intsD p.1, p.2.map rowD)).map (fun p : D × List D => D.tup [p.1, .lst p.2]) = (g2.ps.map fun p => (intsD p.1, p.2.map rowD)).map fun p : D × List D => D.tup [p.1, .lst p.2] := e3.2.1
    rw [List.map_map, List.map_map] at h
    refine map_inj (fun a b h => ?_) h
    have h := D.tup.inj h
    simp only [List.cons.injEq, D.lst.injEq, and_true] at h
    exact Prod.ext (intsD_inj h.1) (map_inj (fun _ _ => rowD_inj) h.2)
  have : g = g2 := by
    cases g
    cases g2
    simp only at k1 k2 k3
    rw [k1, k2, k3]
  rw [this]
  rfl
end Sd
set_option Elab.async false
set_option linter.all false
set_option maxRecDepth 100000
set_option maxHeartbeats 4000000
namespace Sd
open PySem PySem.Spec L2
open SX (S S_len S_cat S_inj)
open TL (numL joinL spl)
local macro_rules | `(tactic| walk_at "r") => `(tactic| (first | (dsimp only [cxOf, Cx.nox, Cx.wish, Cx.blk]; done) | (dsimp only [cxOf, Cx.nox, Cx.wish, Cx.blk]; rfl) | rfl))
local macro_rules | `(tactic| walk_at "k") => `(tactic| kernel_rfl)
local macro_rules | `(tactic| walk_at "s") => `(tactic| try dsimp only [cxOf, List.map_cons, List.map_nil])
local macro_rules | `(tactic| walk_at "d") => `(tactic| first
  | (with_reducible refine wps_seq ?_)
  | (with_reducible refine wps_ret ?_)
  | (with_reducible refine wps_if ?_)
  | (with_reducible refine wps_next ?_)
  | (with_reducible refine wps_drop ?_)
  | (with_reducible refine wpt_test ?_)
  | (with_reducible refine wpt_B ?_)
  | (with_reducible refine wpt_not ?_)
  | (with_reducible refine wpt_or ?_)
  | (with_reducible refine wpt_and ?_)
  | (with_reducible refine wp_andV ?_)
  | (with_reducible refine wp_orV ?_)
  | (with_reducible refine wp_notV ?_)
  | (refine wp_isiB (by decide) ?_)
  | (with_reducible refine wp_chain ?_)
  | (with_reducible refine wp_op ?_)
  | (with_reducible refine wp_tup ?_)
  | (with_reducible refine wpl_lst ?_)
  | (with_reducible refine wp_m1 ?_)
  | (with_reducible refine wp_m0 ?_)
  | (with_reducible refine wp_cb ?_)
  | (with_reducible refine wpa_cons ?_)
  | (with_reducible refine wpa_nil ?_)
  | (with_reducible refine wp_int ?_)
  | (with_reducible refine wp_str ?_)
  | (with_reducible refine wp_bl ?_)
  | (with_reducible refine wp_non ?_)
  | (refine wp_var rfl ?_)
  | (refine rc_len rfl ?_)
  | (refine r2_ii ?_)
  | (refine r2_ib ?_)
  | (refine ⟨_, rfl, ?_⟩))
variable {P : Program} {wd : World} {mg : Str → Option Value} {base : Heap} {K : PySem.W.Frag}
abbrev sp_read_program {K : PySem.W.Frag} {mg : Str → Option Value} (T : Tx K mg) : Sp := spP K (pre1 fun x => ∃ g : Pg, x = strD (pageC g.lines) ∧ PgOk g) (post1 fun x r => ∀ g : Pg, PgOk g → x = strD (pageC g.lines) → r = pgD T.a_Program g.kD g.pD g.tD)
theorem ok_read_program (T : Tx K mg) : FnOk P wd K mg base CX0 10 T.f_read_program T.d_read_program ["text"] (sp_read_program T) := by
  refine fn_P T.F_read_program sc_read_program (fun ds h => by obtain ⟨_, rfl, _⟩ := pre1_inv h; rfl) (fun cdv A outer s H E hr => ⟨_, (have nd := sc_read_program.nd; (pss_cons (ps_if (pt_not (pt_val (pe_callB call_isi rfl T.m_isinstance (by decide +kernel) (pa_cons (pv 0) (pa_cons (pe_bltn (v := .ty "str") (u := .type "str") rfl T.m_str (by decide +kernel) rfl) pa_nil))))) (pss_one ps_never) pss_nil)
      (pss_cons (ps_par (i := 1) (j := 2) rfl nd rfl rfl (by decide) rfl rfl (pa_cons (pe_split (pv 0) pe_str) (pa_cons (pe_make0 T.K_Reader (ok_Reader_init T) (hr.mono (by decide)) rfl T.g_Reader T.b_Reader_init .nil pass0) pa_nil)) (by rfl))
      (pss_cons (ps_set (i := 3) nd rfl (.inl rfl) (pe_cmpR op_eq (pe_ix ix_list (pv 1) (pe_un un_neg pe_int) (fun _ _ => rfl)) pe_str (nomark _)))
      (pss_cons (ps_set (i := 1) nd rfl (.inl rfl) (pe_ifExp (pt_val (pv 3)) (pe_slice sl_list (pv 1) po_none (po_some (pe_un un_neg pe_int))) (pv 1)))
      (pss_cons (ps_for PassesOwn.never rfl (pi_enum rfl T.m_enumerate (pa_cons (pv 1) pa_nil)) (pg_tup rfl (pgs_cons (pg_name (i := 4) nd rfl (.inl rfl)) (pgs_cons (pg_name (i := 5) nd rfl (.inl rfl)) pgs_nil))) (pss_one (ps_if (pt_not (pt_val (pe_meth (pv 2) T.c_Reader T.M_Reader_takes (ok_Reader_takes T) (hr.mono (by decide)) T.b_Reader_takes .nil pass0 (pa_cons (pv 5) pa_nil)))) (pss_one ps_never) pss_nil)))
      (pss_cons (ps_if (PW.pt (pw_or (pt_not (pt_val (pv 3))) (pw_or1 (pt_cmpR (op_eqD hr.units) (pe_fld (pv 2) rfl) (pe_lst pa_nil) (nomark _))))) (pss_one ps_never) pss_nil)
      (pss_one (ps_ret (pe_meth0 (pv 2) T.c_Reader T.M_Reader_result (ok_Reader_result T) (hr.mono (by decide)) T.b_Reader_result .nil pass0)))))))))), fun F0 H0 ds hp => ?_⟩)
  walk_at "s"
  obtain ⟨x, rfl, g, rfl, hg⟩ := pre1_inv hp
  show wps _ _ [.d (strD (pageC g.lines)), .no, .no, .no, .no, .no] _ _
  obtain ⟨hll, hlw⟩ := lines_len hg.size
  have hpl := page_len hll hlw
  have hrd := read_lines hg
  have hsp : splitC (pageC g.lines) 10 = g.lines ++ [[]] := split_page (nl_free hg)
  refine wps_seq (wps_ifD false ?_ (fun h => nomatch h) (fun _ => wps_next ?_))
  · exact wpt_notD (b := true) (wpt_B (wp_isiB (by decide) (wp_var rfl ⟨rfl, _, rfl, rfl⟩)))
  refine wps_seq (wps_parRd (by simp) (wp_is (.lst ((g.lines ++ [[]]).map strD)) (wp_l (wpl_m1 (wp_var rfl ⟨⟨_, rfl⟩, wp_str ?_⟩))) fun x => ?_))
  · rw [show ("\n" : Str) = S [10] by decide +kernel]
    refine rm_split (by decide +kernel) (by rw [S_len]; omega) ?_
    rw [split_C _ _ (by decide), ← strs_map, hsp]
  show wps _ _ [.d (strD (pageC g.lines)), .d (.lst ((g.lines ++ [[]]).map strD)), .o (rdO K T.a_Reader x ⟨[], [], []⟩), .no, .no, .no] _ _
  have eL : (g.lines ++ [[]]).map strD = g.lines.map strD ++ [strD []] := by rw [List.map_append]; rfl
  rw [eL]
  refine wps_seq (wps_asgV (.bl true) (wp_op (wp_op (wp_var rfl (wp_un (wp_int (ru_ii (r2_ixL (HT_last _ _) (wp_str (r2_eqS ?_))))))))) ?_)
  · rw [show ("" : Str) = S [] by decide +kernel, S_eq]
    rfl
  show wps _ _ [.d (strD (pageC g.lines)), .d (.lst (g.lines.map strD ++ [strD []])), .o (rdO K T.a_Reader x ⟨[], [], []⟩), .d (.bl true), .no, .no] _ _
  refine wps_seq (wps_asgV (.lst (g.lines.map strD)) (wp_ifD true (wpt_B (wp_var rfl ⟨_, rfl, rfl⟩)) (fun _ => wp_l (wpl_sl (wp_var rfl (wpo_none (wpo_some (wp_un (wp_int (ru_ii ⟨-1, rfl, rs_list ?_⟩)))))))) fun h => nomatch h) ?_)
  · rw [cutm1]
  show wps _ _ [.d (strD (pageC g.lines)), .d (.lst (g.lines.map strD)), .o (rdO K T.a_Reader x ⟨[], [], []⟩), .d (.bl true), .no, .no] _ _
  refine wps_seq (wps_for (ts := [4, 5]) (wpi_enum (wpa_cons (wp_var rfl (wpa_nil ⟨_, rfl, ?_⟩)))))
  refine ⟨fun i G => ∃ (s : RS) (z4 z5 : Ent), G = [.d (strD (pageC g.lines)), .d (.lst (g.lines.map strD)), .o (rdO K T.a_Reader x s), .d (.bl true), z4, z5] ∧ readC ⟨[], [], []⟩ (g.lines.take i) = some s ∧ RsOk i s, ⟨⟨[], [], []⟩, .no, .no, rfl, rfl, rs0_ok⟩, fun i d G hd hI => ?_, fun G hI => ?_⟩
  · obtain ⟨s, z4, z5, rfl, hs, hok⟩ := hI
    obtain ⟨j, hj, rfl⟩ := map_at hd
    have hi := (List.getElem?_eq_some_iff.mp hj).1
    rw [List.length_range, List.length_map] at hi
    obtain rfl : j = i := by
      rw [List.getElem?_range (by rw [List.length_map]; exact hi)] at hj
      exact (Option.some.inj hj).symm
    have hl : g.lines[j]? = some g.lines[j] := List.getElem?_eq_getElem hi
    have hD : (g.lines.map strD).getD j .non = strD g.lines[j] := by
      rw [List.getD_eq_getElem?_getD, List.getElem?_map, hl]
      rfl
    obtain ⟨s1, s2, r1, r2, r3⟩ := readC_at (s := ⟨[], [], []⟩) hrd hl
    rw [hs] at r1
    cases r1
    have hln := lines_ok hg _ (List.getElem_mem hi)
    rw [hD]
    refine wpg_tup rfl rfl (wpgs_cons (wpg_name (by simp) (wpgs_cons (wpg_name (by simp) (wpgs_nil ?_)))))
    show wps _ _ [.d (strD (pageC g.lines)), .d (.lst (g.lines.map strD)), .o (rdO K T.a_Reader x s), .d (.bl true), .d (.int j), .d (strD g.lines[j])] _ _
    refine wps_ifNX (wpx_methO (rdO_ins (by decide +kernel) (by decide +kernel) (by decide +kernel)) rfl (wpa_cons (wp_var rfl (wpa_nil ⟨⟨⟨j, by omega, hok⟩, _, rfl, hln⟩, fun d s' e => ?_⟩))))
    have e := e _ rfl
    rw [r2] at e
    obtain ⟨rfl, rfl⟩ := e
    exact ⟨true, rfl, iteT (wps_next ⟨s', _, _, rfl, r3, takesC_ok hok hln r2⟩)⟩
  · obtain ⟨s, z4, z5, rfl, hs, hok⟩ := hI
    rw [List.length_map, List.length_range, List.length_map, List.take_of_length_le (Nat.le_refl _), hrd] at hs
    cases hs
    rw [List.length_map, List.length_range, List.length_map] at hok
    refine wps_knowO 2 rfl rfl pk_rdO ?_
    show wps _ _ [.d (strD (pageC g.lines)), .d (.lst (g.lines.map strD)), .d (rdD T.a_Reader (RS.st ⟨g.ks, g.ps, g.ts⟩)), .d (.bl true), z4, z5] _ _
    have hne : g.ts ≠ [] := fun z => by
      rcases hg.ps with ⟨p, e, h1, h2⟩ | ⟨p, q, e, h1, h2, h3⟩
      · have := h1.r0; rw [z] at h2; simp at h2; omega
      · have := h2.r0; rw [z] at h3; simp at h3; omega
    refine wps_seq (wps_ifD false (wpt_orD (b := false) (c := false) (wpt_notD (b := true) (wpt_B (wp_var rfl ⟨_, rfl, rfl⟩))) fun _ => ?_) (fun h => nomatch h) (fun _ => wps_next ?_))
    · refine wpt_test (wp_op (wp_fld T.c_Reader T.n_Reader_r_tells (wp_var rfl ⟨_, _, _, rfl, rfl, wp_l (wpl_lst (wpa_nil ⟨by simp, r2_eqD (hok.okT (by omega)).cmp ok_nilL.cmp ⟨_, rfl, ?_⟩⟩))⟩)))
      rw [eqv_nilL]
      show (g.ts.map telD).isEmpty = false
      cases e : g.ts with
      | nil => exact absurd e hne
      | cons a b => rfl
    · refine wps_ret (wp_methP (wp_var rfl ⟨_, _, rfl, by decide +kernel, wpa_nil ⟨⟨g, rfl, hg⟩, fun d e g2 hg2 e2 => ?_⟩⟩))
      have := page_inj hg hg2 (strD_inj e2)
      subst this
      exact e g rfl
end Sd
set_option Elab.async false
set_option linter.all false
set_option maxRecDepth 100000
set_option maxHeartbeats 4000000
namespace Sd
open PySem PySem.Spec L2
open SX (S S_len S_cat S_inj)
open TL (numL joinL spl)
local macro_rules | `(tactic| walk_at "r") => `(tactic| (first | (dsimp only [cxOf, Cx.nox, Cx.wish, Cx.blk]; done) | (dsimp only [cxOf, Cx.nox, Cx.wish, Cx.blk]; rfl) | rfl))
local macro_rules | `(tactic| walk_at "k") => `(tactic| kernel_rfl)
local macro_rules | `(tactic| walk_at "s") => `(tactic| try dsimp only [cxOf, List.map_cons, List.map_nil])
local macro_rules | `(tactic| walk_at "d") => `(tactic| first
  | (with_reducible refine wps_seq ?_)
  | (with_reducible refine wps_ret ?_)
  | (with_reducible refine wps_if ?_)
  | (with_reducible refine wps_next ?_)
  | (with_reducible refine wps_drop ?_)
  | (with_reducible refine wpt_test ?_)
  | (with_reducible refine wpt_B ?_)
  | (with_reducible refine wpt_not ?_)
  | (with_reducible refine wpt_or ?_)
  | (with_reducible refine wpt_and ?_)
  | (with_reducible refine wp_andV ?_)
  | (with_reducible refine wp_orV ?_)
  | (with_reducible refine wp_notV ?_)
  | (refine wp_isiB (by decide) ?_)
  | (with_reducible refine wp_chain ?_)
  | (with_reducible refine wp_op ?_)
  | (with_reducible refine wp_tup ?_)
  | (with_reducible refine wpl_lst ?_)
  | (with_reducible refine wp_m1 ?_)
  | (with_reducible refine wp_m0 ?_)
  | (with_reducible refine wp_cb ?_)
  | (with_reducible refine wpa_cons ?_)
  | (with_reducible refine wpa_nil ?_)
  | (with_reducible refine wp_int ?_)
  | (with_reducible refine wp_str ?_)
  | (with_reducible refine wp_bl ?_)
  | (with_reducible refine wp_non ?_)
  | (refine wp_var rfl ?_)
  | (refine rc_len rfl ?_)
  | (refine r2_ii ?_)
  | (refine r2_ib ?_)
  | (refine ⟨_, rfl, ?_⟩))
variable {P : Program} {wd : World} {mg : Str → Option Value} {base : Heap} {K : PySem.W.Frag}
theorem ok_law (T : Tx K mg) : LawRun P wd K mg base 11 T.f_law T.d_law ["_law_script"] (spLaw K) := by
  refine law_fn T.F_law sc_law (fun vs H Q E h => by obtain ⟨_, _, rfl, _⟩ := h; rfl) (fun cdv A outer s H vs Q E hg hr h => ?_)
  have hu := hr.un
  replace hu : (A.deeper (PyProof.Rows.envOfC "law" (defScope s_law) s.heap.objs.size T.f_law cdv)).units + 66 < cLine := by omega
  refine ⟨_, (have nd := sc_law.nd; (pss_cons (ps_set (i := 1) nd rfl (.inl rfl) (pe_call (ok__law_state T) (hr.mono (by decide)) rfl T.g__law_state T.F__law_state.kp T.b__law_state .nil pass0 (pa_cons (pv 0) pa_nil)))
      (pss_cons (ps_set (i := 2) nd rfl (.inl rfl) pe_non)
      (pss_cons (ps_for PassesOwn.never rfl (pi_range1 rfl T.m_range (pa_cons (pe_op op_add pe_int (pe_callB (call_min2 rfl) rfl T.m_min (by decide +kernel) (pa_cons (pe_callB call_len rfl T.m_len (by decide +kernel) (pa_cons (pv 0) pa_nil)) (pa_cons pe_int pa_nil)))) pa_nil)) (pg_name (i := 3) nd rfl (.inl rfl)) (pss_cons (ps_set (i := 4) nd rfl (.inl rfl) (pe_call (ok__law_parts T) (hr.mono (by decide)) rfl T.g__law_parts T.F__law_parts.kp T.b__law_parts .nil pass0 (pa_cons (pv 1) (pa_cons pe_int (pa_cons pe_int pa_nil)))))
      (pss_cons (ps_par (i := 5) (j := 6) rfl nd rfl rfl (by decide) rfl rfl (pa_cons (pe_call (ok__law_made T) (hr.mono (by decide)) rfl T.g__law_made T.F__law_made.kp T.b__law_made .nil pass0 (pa_cons (pv 4) pa_nil)) (pa_cons (pe_call (ok__law_page T) (hr.mono (by decide)) rfl T.g__law_page T.F__law_page.kp T.b__law_page .nil pass0 (pa_cons (pe_call (ok__law_lines T) (hr.mono (by decide)) rfl T.g__law_lines T.F__law_lines.kp T.b__law_lines .nil pass0 (pa_cons (pv 4) pa_nil)) pa_nil)) pa_nil)) (by rfl))
      (pss_cons (ps_if (PW.pt (pw_or (pt_cmpR op_ne (pe_call (ok_program_text T) (hr.mono (by decide)) rfl T.g_program_text T.F_program_text.kp T.b_program_text .nil pass0 (pa_cons (pv 5) pa_nil)) (pv 6) (nomark _)) (pw_or1 (pt_cmpR op_ne (pe_callW0 (ok_program_text T) (hr.mono (by decide)) rfl T.g_program_text T.F_program_text.kp T.kb_program_text pass0 (pk_cons (pv 5) pk_nil)) (pv 6) (nomark _))))) (pss_one (ps_ret pe_bl)) pss_nil)
      (pss_cons (ps_if (PW.pt (pw_or (pt_cmpR (op_neO (ok_Program_eq T) (hr.mono (by decide)) T.e_Program T.b_Program_eq pass0) (pe_call (ok_read_program T) (hr.mono (by decide)) rfl T.g_read_program T.F_read_program.kp T.b_read_program .nil pass0 (pa_cons (pv 6) pa_nil)) (pv 5) (nomark _)) (pw_or1 (pt_cmpR (op_neD hr.units) (pe_prop (pe_callW0 (ok_read_program T) (hr.mono (by decide)) rfl T.g_read_program T.F_read_program.kp T.kb_read_program pass0 (pk_cons (pv 6) pk_nil)) T.c_Program T.P_Program_passes (ok_Program_passes T) (hr.mono (by decide)) T.b_Program_passes .nil pass0 rfl) (pe_ix ix_tup (pv 4) pe_int (fun _ _ => rfl)) (nomark _))))) (pss_one (ps_ret pe_bl)) pss_nil)
      (pss_cons (ps_if (PW.pt (pw_and (pt_cmpR op_notN (pv 2) pe_non (nomark _)) (pw_and1 (pt_cmpR op_ne (pe_cmpR op_eq (pe_ix ix_tup (pv 2) pe_int (fun _ _ => rfl)) (pe_call (ok_program_text T) (hr.mono (by decide)) rfl T.g_program_text T.F_program_text.kp T.b_program_text .nil pass0 (pa_cons (pv 5) pa_nil)) (nomark _)) (pe_cmpR (op_eqD hr.units) (pe_ix ix_tup (pv 2) pe_int (fun _ _ => rfl)) (pv 4) (nomark _)) (nomark _))))) (pss_one (ps_ret pe_bl)) pss_nil)
      (pss_cons (ps_set (i := 2) nd rfl (.inl rfl) (pe_tup (pa_cons (pv 6) (pa_cons (pv 4) pa_nil))))
      (pss_cons (ps_set (i := 7) nd rfl (.inl rfl) (pe_call (ok__law_tour T) (hr.mono (by decide)) rfl T.g__law_tour T.F__law_tour.kp T.b__law_tour .nil pass0 (pa_cons (pv 1) (pa_cons (pe_ix ix_tup (pv 4) pe_int (fun _ _ => rfl)) (pa_cons pe_int pa_nil)))))
      (pss_cons (ps_set (i := 6) nd rfl (.inl rfl) (pe_ifExp (pt_cmpR (op_neD hr.units) (pv 7) (pe_tup pa_nil) (nomark _)) (pe_join pe_str (pv 7)) pe_str))
      (pss_cons (ps_if (PW.pt (pw_or (pt_cmpR op_ne (pe_call (ok_order_text T) (hr.mono (by decide)) rfl T.g_order_text T.F_order_text.kp T.b_order_text .nil pass0 (pa_cons (pv 7) pa_nil)) (pv 6) (nomark _)) (pw_or1 (pt_cmpR op_ne (pe_callW0 (ok_order_text T) (hr.mono (by decide)) rfl T.g_order_text T.F_order_text.kp T.kb_order_text pass0 (pk_cons (pe_callTy call_list_of rfl T.m_list (by decide +kernel) (pa_cons (pv 7) pa_nil)) pk_nil)) (pv 6) (nomark _))))) (pss_one (ps_ret pe_bl)) pss_nil)
      (pss_one (ps_if (pt_cmpR op_ne (pe_callB (call_reprD hg hu) rfl T.m_repr (by decide +kernel) (pa_cons (pe_lst (pa_cons (pe_call (ok_read_order T) (hr.mono (by decide)) rfl T.g_read_order T.F_read_order.kp T.b_read_order .nil pass0 (pa_cons (pv 5) (pa_cons (pv 6) pa_nil))) (pa_cons (pe_callW0 (ok_read_order T) (hr.mono (by decide)) rfl T.g_read_order T.F_read_order.kp T.kb_read_order pass0 (pk_cons (pv 6) (pk_cons (pv 5) pk_nil))) pa_nil))) pa_nil)) (pe_callB (call_reprD hg hu) rfl T.m_repr (by decide +kernel) (pa_cons (pe_lst (pa_cons (pv 7) (pa_cons (pv 7) pa_nil))) pa_nil)) (nomark _)) (pss_one (ps_ret pe_bl)) pss_nil))))))))))))
      (pss_one (ps_ret pe_bl)))))), spLaw_body (by decide) (fun H0 a ns hs hl => ?_) h⟩
  walk_at "s"
  show wps _ _ [.v (.ref a), .no, .no, .no, .no, .no, .no, .no] _ _
  refine wps_seq (wps_state rfl (by simp) (by simp) hs hl fun p c => ?_)
  show wps _ _ [.v (.ref a), .dr p c, .no, .no, .no, .no, .no, .no] _ _
  refine wps_seq (wps_asg (wp_non ?_))
  show wps _ _ [.v (.ref a), .dr p c, .d .non, .no, .no, .no, .no, .no] _ _
  refine wps_seq (wps_for (ts := [3]) (wpi_rng (wpa_cons (wp_op (wp_int (wp_cb (wpa_cons (wp_lenV rfl (by simp) hs (wpa_cons (wp_int (wpa_nil (rc_min2 (r2_ii ?_)))))))))))))
  rw [List.length_map]
  refine wpa_nil ⟨_, rfl, by split <;> omega, ?_⟩
  generalize ((5 : Int) + if (20 : Int) < (ns.length : Int) then 20 else (ns.length : Int)).toNat = turns
  refine ⟨fun i G => ∃ (bf : D) (z3 z4 z5 z6 z7 : Ent), G = [.v (.ref a), .dr p c, .d bf, z3, z4, z5, z6, z7] ∧ (bf = .non ∨ ∃ g0 : Pg, bf = .tup [strD (pageC g0.lines), g0.D] ∧ PgOk g0), ⟨.non, .no, .no, .no, .no, .no, rfl, .inl rfl⟩, fun i d G hd hI => ?_, fun G hI => ?_⟩
  · obtain ⟨bf, z3, z4, z5, z6, z7, rfl, hbf⟩ := hI
    refine wpg_name (by simp) ?_
    show wps _ _ [.v (.ref a), .dr p c, .d bf, .d d, z4, z5, z6, z7] _ _
    refine wps_seq (wps_asg (wp_callR rfl (wpa_cons (wp_int (wpa_cons (wp_int (wpa_nil ⟨⟨4, 6, rfl, rfl, by omega, by omega, by omega, by omega⟩, fun r e => ?_⟩)))))))
    obtain ⟨g, rfl, hg2⟩ := e
    have hgs := hg2.size
    obtain ⟨hll, hlw⟩ := lines_len hgs
    have hpl := page_len hll hlw
    show wps _ _ [.v (.ref a), .dr p c, .d bf, .d d, .d g.D, z5, z6, z7] _ _
    refine wps_seq (wps_par (wpa_is (pgD T.a_Program g.kD g.pD g.tD) (wp_callP (wpa_cons (wp_var rfl (wpa_nil ⟨⟨_, _, _, rfl, hg2.ok⟩, fun r e => e _ _ _ rfl⟩)))) (wpa_is (strD (pageC g.lines)) ?_ (wpa_nil ⟨_, _, rfl, ?_⟩))))
    · exact wp_callP (wpa_cons (wp_callP (wpa_cons (wp_var rfl (wpa_nil ⟨⟨g, rfl, hgs⟩, fun r e => by rw [e g rfl]; exact wpa_nil ⟨⟨_, rfl, hll, hlw⟩, fun r e => e _ rfl⟩⟩)))))
    show wps _ _ [.v (.ref a), .dr p c, .d bf, .d d, .d g.D, .d (pgD T.a_Program g.kD g.pD g.tD), .d (strD (pageC g.lines)), z7] _ _
    have ptxt : ∀ (G : List Ent) (w : Wd) (hK : w.K = K) (Q : D → Prop), G[5]? = some (.d (pgD T.a_Program g.kD g.pD g.tD)) → Q (strD (pageC g.lines)) → wpa w (tCons (tVar 5) tNil) G fun ds => (pre1 (fun x => ∃ g : Pg, x = pgD T.a_Program g.kD g.pD g.tD ∧ PgS g)) ds ∧ ∀ d, (post1 fun x d => ∀ g : Pg, x = pgD T.a_Program g.kD g.pD g.tD → d = strD (pageC g.lines)) ds d → Q d := fun G w hK Q h5 q => wpa_cons (wp_var h5 (wpa_nil ⟨⟨g, rfl, hgs⟩, fun r e => by rw [e g rfl]; exact q⟩))
    refine wps_seq (wps_ifD false (wpt_orD (b := false) (c := false) ?_ fun _ => ?_) (fun h => nomatch h) (fun _ => wps_next ?_))
    · exact wpt_test (wp_op (wp_callP (ptxt _ _ rfl _ rfl (wp_var rfl (r2_neS ⟨_, rfl, by simp⟩)))))
    · exact wpt_test (wp_op (wp_callW (wpa_nil (wpa_cons (wp_var rfl (wpa_nil ⟨rfl, rfl, ⟨g, rfl, hgs⟩, fun r e => by rw [e g rfl]; exact wp_var rfl (r2_neS ⟨_, rfl, by simp⟩)⟩))))))
    refine wps_seq (wps_ifD false (wpt_orD (b := false) (c := false) ?_ fun _ => ?_) (fun h => nomatch h) (fun _ => wps_next ?_))
    · refine wpt_test (wp_op (wp_callP (wpa_cons (wp_var rfl (wpa_nil ⟨⟨g, rfl, hg2⟩, fun r e => ?_⟩)))))
      rw [e g hg2 rfl]
      refine wp_var rfl (r2_neO ⟨⟨_, _, _, rfl, hg2.ok⟩, _, _, _, rfl, hg2.ok⟩ fun r e => ⟨_, e _ _ _ _ _ _ rfl rfl, _, rfl, ?_⟩)
      rw [show eqvD (.tup [g.kD, g.pD, g.tD]) (.tup [g.kD, g.pD, g.tD]) = true from (eqv_iff (nbl_pg g).1 (nbl_pg g).1).mpr rfl]
      rfl
    · refine wpt_test (wp_op (wp_propP (wp_callW (wpa_nil (wpa_cons (wp_var rfl (wpa_nil ⟨rfl, rfl, ⟨g, rfl, hg2⟩, fun r e => ?_⟩)))))))
      rw [show r = _ from e g hg2 rfl]
      refine ⟨_, _, rfl, ⟨_, _, _, rfl⟩, fun r e => ?_⟩
      rw [e _ _ _ rfl]
      refine wp_op (wp_var rfl (wp_int (r2_ixT rfl (r2_neD hg2.ok.op.cmp hg2.ok.op.cmp ⟨_, rfl, ?_⟩))))
      rw [(eqv_iff (nbl_pg g).2 (nbl_pg g).2).mpr rfl]
      rfl
    refine wps_seq (wps_ifD false ?_ (fun h => nomatch h) (fun _ => wps_next ?_))
    · refine wpt_and (wpt_test (wp_op (wp_var rfl (wp_non (r2_notN ⟨_, rfl, ?_⟩)))))
      rcases hbf with rfl | ⟨g0, rfl, hg0⟩
      · exact iteF rfl
      · refine ite_t rfl (wpt_test (wp_op (wp_op (wp_op (wp_var rfl (wp_int (r2_ixT rfl (wp_callP (ptxt _ _ rfl _ rfl (r2_eqS ?_))))))))))
        refine wp_op (wp_op (wp_var rfl (wp_int (r2_ixT rfl (wp_var rfl (r2_eqD (pg_fd hg0).cmp (pg_fd hg2).cmp (r2_neB ⟨_, rfl, ?_⟩)))))))
        rw [S_eq, eqv_dec (p := pageC g0.lines = pageC g.lines) (nbl_pg g0).1 (nbl_pg g).1 ⟨fun e => by rw [Pg.D_inj e], fun e => by rw [page_inj hg0 hg2 e]⟩]
        simp
    refine wps_seq (wps_asg (wp_tup (wpa_cons (wp_var rfl (wpa_cons (wp_var rfl (wpa_nil ⟨by simp, ?_⟩)))))))
    show wps _ _ [.v (.ref a), .dr p c, .d (.tup [strD (pageC g.lines), g.D]), .d d, .d g.D, .d (pgD T.a_Program g.kD g.pD g.tD), .d (strD (pageC g.lines)), z7] _ _
    refine wps_seq (wps_asg (wp_callR rfl (wpa_cons (wp_op (wp_var rfl (wp_int (r2_ixT rfl (wpa_cons (wp_int (wpa_nil ⟨⟨⟨g.ks, rfl, List.length_pos_iff.mp hg2.k1, by have := hg2.k4; omega⟩, 8, rfl, by omega, by omega⟩, fun r e => ?_⟩))))))))))
    obtain ⟨ws, rfl, hwl, hwm⟩ := e g.ks 8 rfl rfl
    have hw8 : ws.length ≤ 8 := by omega
    have hwn : ∀ w ∈ ws, nameC w = true := fun w hw => hg2.kn w (hwm w hw)
    have hwle : ∀ w ∈ ws, w.length ≤ 8 := fun w hw => (nameC_iff.mp (hwn w hw)).1.2
    show wps _ _ [.v (.ref a), .dr p c, .d (.tup [strD (pageC g.lines), g.D]), .d d, .d g.D, .d (pgD T.a_Program g.kD g.pD g.tD), .d (strD (pageC g.lines)), .d (.tup (ws.map strD))] _ _
    have ednil : ("-" : Str) = S [45] := by decide +kernel
    refine wps_seq (wps_asgV (strD (if ws = [] then [45] else joinL [32] ws)) (wp_ifD (decide (ws ≠ [])) ?_ (fun h => ?_) (fun h => ?_)) ?_)
    · refine wpt_test (wp_op (wp_var rfl (wp_tup (wpa_nil ⟨by simp, r2_neD (names_fd (by omega) hwn).cmp ok_nil.cmp ⟨_, rfl, ?_⟩⟩))))
      rw [eqv_nil]
      cases ws <;> simp
    · refine wp_m1 (wp_str ⟨⟨_, rfl⟩, wp_var rfl ?_⟩)
      rw [strs_map, show (" " : Str) = S [32] by decide +kernel]
      have hsum := sum_len hwle
      refine rm_joinT ?_ ?_
      · rw [List.length_map, S_len]
        show _ + _ * 1 ≤ _
        omega
      · rw [join_SS, if_neg (of_decide_eq_true h)]
    · refine wp_str ?_
      rw [if_pos (by simpa using h), ednil]
    show wps _ _ [.v (.ref a), .dr p c, .d (.tup [strD (pageC g.lines), g.D]), .d d, .d g.D, .d (pgD T.a_Program g.kD g.pD g.tD), .d (strD (if ws = [] then [45] else joinL [32] ws)), .d (.tup (ws.map strD))] _ _
    refine wps_seq (wps_ifD false (wpt_orD (b := false) (c := false) ?_ fun _ => ?_) (fun h => nomatch h) (fun _ => wps_next ?_))
    · refine wpt_test (wp_op (wp_callP (wpa_cons (wp_var rfl (wpa_nil ⟨⟨ws, .inr rfl, by omega, hwle⟩, fun r e => ?_⟩)))))
      rw [e ws (.inr rfl)]
      exact wp_var rfl (r2_neS ⟨_, rfl, by simp⟩)
    · refine wpt_test (wp_op (wp_callW (wpa_nil (wpa_cons (wp_l (wpl_cb (wpa_cons (wp_var rfl (wpa_nil (rc_list rfl (wpa_nil ⟨rfl, rfl, ⟨ws, .inl rfl, by omega, hwle⟩, fun r e => ?_⟩)))))))))))
      rw [e ws (.inl rfl)]
      exact wp_var rfl (r2_neS ⟨_, rfl, by simp⟩)
    have hord : (if (if ws = [] then [45] else joinL [32] ws) = [45] then [] else splitC (if ws = [] then [45] else joinL [32] ws) 32) = ws := by
      by_cases h : ws = []
      · rw [if_pos h, if_pos rfl, h]
      · obtain ⟨h1, h2⟩ := split_tour h hwn
        rw [if_neg h, if_neg h2, h1]
    have hjl : (if ws = [] then [45] else joinL [32] ws).length ≤ 500000 := by
      split
      · simp
      · have := joinL_len [32] (m := 8) hwle
        have e : ws.length * (8 + [32].length) ≤ 8 * (8 + [32].length) := Nat.mul_le_mul hw8 (Nat.le_refl _)
        simp only [List.length_cons, List.length_nil] at this e
        omega
    have hwin : (if ws = [] then [45] else joinL [32] ws) ≠ [45] → ∀ w ∈ splitC (if ws = [] then [45] else joinL [32] ws) 32, w ∈ g.ks := fun h w hw => by
      rw [if_neg h] at hord
      rw [hord] at hw
      exact hwm w hw
    obtain ⟨r1, r2, r3, r4, r5⟩ := repr_ok hw8 hwn
    have res : ∀ r : D, (∀ (g2 : Pg) (l : List Nat), pgD T.a_Program g.kD g.pD g.tD = pgD T.a_Program g2.kD g2.pD g2.tD → strD (if ws = [] then [45] else joinL [32] ws) = strD l → r = .tup ((if l = [45] then [] else splitC l 32).map strD)) → r = .tup (ws.map strD) := fun r e => by
      rw [e g _ rfl rfl, hord]
    refine wps_ifD false (wpt_test (wp_op (wp_is (.str (toPy (.lst [.tup (ws.map strD), .tup (ws.map strD)])).shown) (wp_cb (wpa_is (.lst [.tup (ws.map strD), .tup (ws.map strD)]) (wp_l (wpl_lst ?_)) (wpa_nil (rc_repr ⟨_, .inl rfl⟩ r1 r2 r3 r4 r5 rfl)))) ?_))) (fun h => nomatch h) (fun _ => wps_next ?_)
    · refine wpa_cons (wp_callP (wpa_cons (wp_var rfl (wpa_cons (wp_var rfl (wpa_nil ⟨⟨g, _, rfl, rfl, hgs, hjl, hwin⟩, fun r e => ?_⟩))))))
      rw [res r e]
      refine wpa_cons (wp_callW (wpa_nil (wpa_cons (wp_var rfl (wpa_cons (wp_var rfl (wpa_nil ⟨rfl, rfl, ⟨g, _, rfl, rfl, hgs, hjl, hwin⟩, fun r e => ?_⟩)))))))
      rw [res r e]
      exact wpa_nil ⟨by simp, rfl⟩
    · refine wp_cb (wpa_is (.lst [.tup (ws.map strD), .tup (ws.map strD)]) (wp_l (wpl_lst (wpa_cons (wp_var rfl (wpa_cons (wp_var rfl (wpa_nil ⟨by simp, rfl⟩))))))) (wpa_nil (rc_repr ⟨_, .inl rfl⟩ r1 r2 r3 r4 r5 (r2_neS ⟨_, rfl, by simp⟩))))
    · exact ⟨_, _, _, _, _, _, rfl, .inr ⟨g, rfl, hg2⟩⟩
  · obtain ⟨bf, z3, z4, z5, z6, z7, rfl, _⟩ := hI
    exact wps_ret (wp_bl rfl)
end Sd
set_option Elab.async false
set_option linter.all false
set_option maxRecDepth 100000
set_option maxHeartbeats 4000000
namespace Sd
open PySem PySem.Spec L2
theorem all_mk {P : Program} {w : World} {K : PySem.W.Frag} {h : Heap} {mg : Str → Option Value} {fa : Addr} {a_Program : Addr} {a_Reader : Addr} {f_is_integer : Addr} {oc0 kV0 dc0 pm0 cd0 ct0 : Value} {od0 an0 : Option Addr} {sl0 : Array (Option Value)} {f_is_name : Addr} {oc1 kV1 dc1 pm1 cd1 ct1 : Value} {od1 an1 : Option Addr} {sl1 : Array (Option Value)} {f_are_kinds : Addr} {oc2 kV2 dc2 pm2 cd2 ct2 : Value} {od2 an2 : Option Addr} {sl2 : Array (Option Value)} {f_is_state : Addr} {oc3 kV3 dc3 pm3 cd3 ct3 : Value} {od3 an3 : Option Addr} {sl3 : Array (Option Value)} {f_is_pair : Addr} {oc4 kV4 dc4 pm4 cd4 ct4 : Value} {od4 an4 : Option Addr} {sl4 : Array (Option Value)} {f_are_rows : Addr} {oc5 kV5 dc5 pm5 cd5 ct5 : Value} {od5 an5 : Option Addr} {sl5 : Array (Option Value)} {f_is_pass : Addr} {oc6 kV6 dc6 pm6 cd6 ct6 : Value} {od6 an6 : Option Addr} {sl6 : Array (Option Value)} {f_are_passes : Addr} {oc7 kV7 dc7 pm7 cd7 ct7 : Value} {od7 an7 : Option Addr} {sl7 : Array (Option Value)} {f_is_tell : Addr} {oc8 kV8 dc8 pm8 cd8 ct8 : Value} {od8 an8 : Option Addr} {sl8 : Array (Option Value)} {f_Program_init : Addr} {oc9 kV9 dc9 pm9 cd9 ct9 : Value} {od9 an9 : Option Addr} {sl9 : Array (Option Value)} {f_Program_kinds : Addr} {oc10 kV10 dc10 pm10 cd10 ct10 : Value} {od10 an10 : Option Addr} {sl10 : Array (Option Value)} {p_Program_kinds : Addr} {rs10 : List Value} {f_Program_passes : Addr} {oc11 kV11 dc11 pm11 cd11 ct11 : Value} {od11 an11 : Option Addr} {sl11 : Array (Option Value)} {p_Program_passes : Addr} {rs11 : List Value} {f_Program_tells : Addr} {oc12 kV12 dc12 pm12 cd12 ct12 : Value} {od12 an12 : Option Addr} {sl12 : Array (Option Value)} {p_Program_tells : Addr} {rs12 : List Value} {f_Program_parts : Addr} {oc13 kV13 dc13 pm13 cd13 ct13 : Value} {od13 an13 : Option Addr} {sl13 : Array (Option Value)} {f_Program_eq : Addr} {oc14 kV14 dc14 pm14 cd14 ct14 : Value} {od14 an14 : Option Addr} {sl14 : Array (Option Value)} {f_row_line : Addr} {oc15 kV15 dc15 pm15 cd15 ct15 : Value} {od15 an15 : Option Addr} {sl15 : Array (Option Value)} {f_pass_lines : Addr} {oc16 kV16 dc16 pm16 cd16 ct16 : Value} {od16 an16 : Option Addr} {sl16 : Array (Option Value)} {f_program_text : Addr} {oc17 kV17 dc17 pm17 cd17 ct17 : Value} {od17 an17 : Option Addr} {sl17 : Array (Option Value)} {f_is_numeral : Addr} {oc18 kV18 dc18 pm18 cd18 ct18 : Value} {od18 an18 : Option Addr} {sl18 : Array (Option Value)} {f_numbers_in : Addr} {oc19 kV19 dc19 pm19 cd19 ct19 : Value} {od19 an19 : Option Addr} {sl19 : Array (Option Value)} {f_read_row : Addr} {oc20 kV20 dc20 pm20 cd20 ct20 : Value} {od20 an20 : Option Addr} {sl20 : Array (Option Value)} {f_Reader_init : Addr} {oc21 kV21 dc21 pm21 cd21 ct21 : Value} {od21 an21 : Option Addr} {sl21 : Array (Option Value)} {f_Reader_takes_kinds : Addr} {oc22 kV22 dc22 pm22 cd22 ct22 : Value} {od22 an22 : Option Addr} {sl22 : Array (Option Value)} {f_Reader_takes_pass : Addr} {oc23 kV23 dc23 pm23 cd23 ct23 : Value} {od23 an23 : Option Addr} {sl23 : Array (Option Value)} {f_Reader_takes_row : Addr} {oc24 kV24 dc24 pm24 cd24 ct24 : Value} {od24 an24 : Option Addr} {sl24 : Array (Option Value)} {f_Reader_takes_tell : Addr} {oc25 kV25 dc25 pm25 cd25 ct25 : Value} {od25 an25 : Option Addr} {sl25 : Array (Option Value)} {f_Reader_takes : Addr} {oc26 kV26 dc26 pm26 cd26 ct26 : Value} {od26 an26 : Option Addr} {sl26 : Array (Option Value)} {f_Reader_result : Addr} {oc27 kV27 dc27 pm27 cd27 ct27 : Value} {od27 an27 : Option Addr} {sl27 : Array (Option Value)} {f_read_program : Addr} {oc28 kV28 dc28 pm28 cd28 ct28 : Value} {od28 an28 : Option Addr} {sl28 : Array (Option Value)} {f_order_text : Addr} {oc29 kV29 dc29 pm29 cd29 ct29 : Value} {od29 an29 : Option Addr} {sl29 : Array (Option Value)} {f_read_order : Addr} {oc30 kV30 dc30 pm30 cd30 ct30 : Value} {od30 an30 : Option Addr} {sl30 : Array (Option Value)} {f__law_state : Addr} {oc31 kV31 dc31 pm31 cd31 ct31 : Value} {od31 an31 : Option Addr} {sl31 : Array (Option Value)} {f__law_draw : Addr} {oc32 kV32 dc32 pm32 cd32 ct32 : Value} {od32 an32 : Option Addr} {sl32 : Array (Option Value)} {f__law_pick : Addr} {oc33 kV33 dc33 pm33 cd33 ct33 : Value} {od33 an33 : Option Addr} {sl33 : Array (Option Value)} {f__law_labels : Addr} {oc34 kV34 dc34 pm34 cd34 ct34 : Value} {od34 an34 : Option Addr} {sl34 : Array (Option Value)} {f__law_gain : Addr} {oc35 kV35 dc35 pm35 cd35 ct35 : Value} {od35 an35 : Option Addr} {sl35 : Array (Option Value)} {f__law_lap : Addr} {oc36 kV36 dc36 pm36 cd36 ct36 : Value} {od36 an36 : Option Addr} {sl36 : Array (Option Value)} {f__law_parts : Addr} {oc37 kV37 dc37 pm37 cd37 ct37 : Value} {od37 an37 : Option Addr} {sl37 : Array (Option Value)} {f__law_made : Addr} {oc38 kV38 dc38 pm38 cd38 ct38 : Value} {od38 an38 : Option Addr} {sl38 : Array (Option Value)} {f__law_tour : Addr} {oc39 kV39 dc39 pm39 cd39 ct39 : Value} {od39 an39 : Option Addr} {sl39 : Array (Option Value)} {f__law_lines : Addr} {oc40 kV40 dc40 pm40 cd40 ct40 : Value} {od40 an40 : Option Addr} {sl40 : Array (Option Value)} {f__law_page : Addr} {oc41 kV41 dc41 pm41 cd41 ct41 : Value} {od41 an41 : Option Addr} {sl41 : Array (Option Value)} {f_law : Addr} {oc42 kV42 dc42 pm42 cd42 ct42 : Value} {od42 an42 : Option Addr} {sl42 : Array (Option Value)} {t_LETTERS : Tok} {t_MOST_LETTERS : Tok} {t_MOST_KINDS : Tok} {t_MOST_PASSES : Tok} {t_DIGITS : Tok} {t_MOST_DIGITS : Tok} {t_MARGIN : Tok} {t_EMPTY : Tok} (X : K.In h) (G : h.Ns mainGlobals mg) (hfa : mg "law" = some (.ref fa))
    (A_Program : PySem.W.nsIn K mainGlobals "Program" = some (some (.ref a_Program)))
    (pg_Program : PySem.W.plainGet K a_Program Str.empty = true)
    (hd_Program : PySem.W.hasDictIn K a_Program = true)
    (po_Program : PySem.W.plainOver K a_Program = true)
    (sa_Program : PySem.W.findIn K (.ref a_Program) "__setattr__" = some (some (.builtin "object.__setattr__")))
    (n_Program_p_kinds : PySem.W.findIn K (.ref a_Program) "p_kinds" = some none)
    (n_Program_p_passes : PySem.W.findIn K (.ref a_Program) "p_passes" = some none)
    (n_Program_p_tells : PySem.W.findIn K (.ref a_Program) "p_tells" = some none)
    (ia_Program : PySem.W.findIn K (.ref a_Program) "__class__" = some (some (.builtin "object.__class__")))
    (ib_Program : PySem.W.specialIn K (.builtin "object.__class__") "__get__" = some (some (.builtin "getset_descriptor.__get__")))
    (ic_Program : PySem.W.takesIn K (.builtin "object.__class__") = some true)
    (id_Program : PySem.W.mroIn K a_Program (.type "object") = some true)
    (A_Reader : PySem.W.nsIn K mainGlobals "Reader" = some (some (.ref a_Reader)))
    (pg_Reader : PySem.W.plainGet K a_Reader Str.empty = true)
    (hd_Reader : PySem.W.hasDictIn K a_Reader = true)
    (po_Reader : PySem.W.plainOver K a_Reader = true)
    (sa_Reader : PySem.W.findIn K (.ref a_Reader) "__setattr__" = some (some (.builtin "object.__setattr__")))
    (n_Reader_r_kinds : PySem.W.findIn K (.ref a_Reader) "r_kinds" = some none)
    (n_Reader_r_passes : PySem.W.findIn K (.ref a_Reader) "r_passes" = some none)
    (n_Reader_r_tells : PySem.W.findIn K (.ref a_Reader) "r_tells" = some none)
    (x0 : PySem.W.nsIn K mainGlobals "is_integer" = some (some (.ref f_is_integer)))
    (l0 : K.lookup f_is_integer = some ⟨oc0, od0, .func (PySem.W.fnOf "is_integer" "is_integer" (defArgs s_is_integer) (defBody s_is_integer) (defScope s_is_integer) .none kV0 dc0 pm0 an0 cd0 ct0), sl0⟩)
    (c0 : PySem.W.codeIn K cd0 "is_integer" = true)
    (k0 : PySem.W.keepIn K (.ref f_is_integer) = true)
    (x1 : PySem.W.nsIn K mainGlobals "is_name" = some (some (.ref f_is_name)))
    (l1 : K.lookup f_is_name = some ⟨oc1, od1, .func (PySem.W.fnOf "is_name" "is_name" (defArgs s_is_name) (defBody s_is_name) (defScope s_is_name) .none kV1 dc1 pm1 an1 cd1 ct1), sl1⟩)
    (c1 : PySem.W.codeIn K cd1 "is_name" = true)
    (k1 : PySem.W.keepIn K (.ref f_is_name) = true)
    (x2 : PySem.W.nsIn K mainGlobals "are_kinds" = some (some (.ref f_are_kinds)))
    (l2 : K.lookup f_are_kinds = some ⟨oc2, od2, .func (PySem.W.fnOf "are_kinds" "are_kinds" (defArgs s_are_kinds) (defBody s_are_kinds) (defScope s_are_kinds) .none kV2 dc2 pm2 an2 cd2 ct2), sl2⟩)
    (c2 : PySem.W.codeIn K cd2 "are_kinds" = true)
    (k2 : PySem.W.keepIn K (.ref f_are_kinds) = true)
    (x3 : PySem.W.nsIn K mainGlobals "is_state" = some (some (.ref f_is_state)))
    (l3 : K.lookup f_is_state = some ⟨oc3, od3, .func (PySem.W.fnOf "is_state" "is_state" (defArgs s_is_state) (defBody s_is_state) (defScope s_is_state) .none kV3 dc3 pm3 an3 cd3 ct3), sl3⟩)
    (c3 : PySem.W.codeIn K cd3 "is_state" = true)
    (k3 : PySem.W.keepIn K (.ref f_is_state) = true)
    (x4 : PySem.W.nsIn K mainGlobals "is_pair" = some (some (.ref f_is_pair)))
    (l4 : K.lookup f_is_pair = some ⟨oc4, od4, .func (PySem.W.fnOf "is_pair" "is_pair" (defArgs s_is_pair) (defBody s_is_pair) (defScope s_is_pair) .none kV4 dc4 pm4 an4 cd4 ct4), sl4⟩)
    (c4 : PySem.W.codeIn K cd4 "is_pair" = true)
    (k4 : PySem.W.keepIn K (.ref f_is_pair) = true)
    (x5 : PySem.W.nsIn K mainGlobals "are_rows" = some (some (.ref f_are_rows)))
    (l5 : K.lookup f_are_rows = some ⟨oc5, od5, .func (PySem.W.fnOf "are_rows" "are_rows" (defArgs s_are_rows) (defBody s_are_rows) (defScope s_are_rows) .none kV5 dc5 pm5 an5 cd5 ct5), sl5⟩)
    (c5 : PySem.W.codeIn K cd5 "are_rows" = true)
    (k5 : PySem.W.keepIn K (.ref f_are_rows) = true)
    (x6 : PySem.W.nsIn K mainGlobals "is_pass" = some (some (.ref f_is_pass)))
    (l6 : K.lookup f_is_pass = some ⟨oc6, od6, .func (PySem.W.fnOf "is_pass" "is_pass" (defArgs s_is_pass) (defBody s_is_pass) (defScope s_is_pass) .none kV6 dc6 pm6 an6 cd6 ct6), sl6⟩)
    (c6 : PySem.W.codeIn K cd6 "is_pass" = true)
    (k6 : PySem.W.keepIn K (.ref f_is_pass) = true)
    (x7 : PySem.W.nsIn K mainGlobals "are_passes" = some (some (.ref f_are_passes)))
    (l7 : K.lookup f_are_passes = some ⟨oc7, od7, .func (PySem.W.fnOf "are_passes" "are_passes" (defArgs s_are_passes) (defBody s_are_passes) (defScope s_are_passes) .none kV7 dc7 pm7 an7 cd7 ct7), sl7⟩)
    (c7 : PySem.W.codeIn K cd7 "are_passes" = true)
    (k7 : PySem.W.keepIn K (.ref f_are_passes) = true)
    (x8 : PySem.W.nsIn K mainGlobals "is_tell" = some (some (.ref f_is_tell)))
    (l8 : K.lookup f_is_tell = some ⟨oc8, od8, .func (PySem.W.fnOf "is_tell" "is_tell" (defArgs s_is_tell) (defBody s_is_tell) (defScope s_is_tell) .none kV8 dc8 pm8 an8 cd8 ct8), sl8⟩)
    (c8 : PySem.W.codeIn K cd8 "is_tell" = true)
    (k8 : PySem.W.keepIn K (.ref f_is_tell) = true)
    (x9 : PySem.W.findIn K (.ref a_Program) "__init__" = some (some (.ref f_Program_init)))
    (y9 : PySem.W.isFn K (.ref f_Program_init) = true)
    (l9 : K.lookup f_Program_init = some ⟨oc9, od9, .func (PySem.W.fnOf "__init__" "Program.__init__" (defArgs s_Program_init) (defBody s_Program_init) (defScope s_Program_init) .none kV9 dc9 pm9 an9 cd9 ct9), sl9⟩)
    (c9 : PySem.W.codeIn K cd9 "Program.__init__" = true)
    (k9 : PySem.W.keepIn K (.ref f_Program_init) = true)
    (mk_Program : PySem.W.makesIn K a_Program = true)
    (kc_Program : PySem.W.keepIn K (.ref a_Program) = true)
    (x10 : PySem.W.findIn K (.ref a_Program) "kinds" = some (some (.ref p_Program_kinds)))
    (y10 : PySem.W.specialIn K (.ref p_Program_kinds) "__get__" = some (some (.builtin "property.__get__")))
    (z10 : PySem.W.takesIn K (.ref p_Program_kinds) = some true)
    (w10 : PySem.W.recIn K p_Program_kinds "property" = some (.ref f_Program_kinds :: rs10))
    (l10 : K.lookup f_Program_kinds = some ⟨oc10, od10, .func (PySem.W.fnOf "kinds" "Program.kinds" (defArgs s_Program_kinds) (defBody s_Program_kinds) (defScope s_Program_kinds) .none kV10 dc10 pm10 an10 cd10 ct10), sl10⟩)
    (c10 : PySem.W.codeIn K cd10 "Program.kinds" = true)
    (k10 : PySem.W.keepIn K (.ref f_Program_kinds) = true)
    (x11 : PySem.W.findIn K (.ref a_Program) "passes" = some (some (.ref p_Program_passes)))
    (y11 : PySem.W.specialIn K (.ref p_Program_passes) "__get__" = some (some (.builtin "property.__get__")))
    (z11 : PySem.W.takesIn K (.ref p_Program_passes) = some true)
    (w11 : PySem.W.recIn K p_Program_passes "property" = some (.ref f_Program_passes :: rs11))
    (l11 : K.lookup f_Program_passes = some ⟨oc11, od11, .func (PySem.W.fnOf "passes" "Program.passes" (defArgs s_Program_passes) (defBody s_Program_passes) (defScope s_Program_passes) .none kV11 dc11 pm11 an11 cd11 ct11), sl11⟩)
    (c11 : PySem.W.codeIn K cd11 "Program.passes" = true)
    (k11 : PySem.W.keepIn K (.ref f_Program_passes) = true)
    (x12 : PySem.W.findIn K (.ref a_Program) "tells" = some (some (.ref p_Program_tells)))
    (y12 : PySem.W.specialIn K (.ref p_Program_tells) "__get__" = some (some (.builtin "property.__get__")))
    (z12 : PySem.W.takesIn K (.ref p_Program_tells) = some true)
    (w12 : PySem.W.recIn K p_Program_tells "property" = some (.ref f_Program_tells :: rs12))
    (l12 : K.lookup f_Program_tells = some ⟨oc12, od12, .func (PySem.W.fnOf "tells" "Program.tells" (defArgs s_Program_tells) (defBody s_Program_tells) (defScope s_Program_tells) .none kV12 dc12 pm12 an12 cd12 ct12), sl12⟩)
    (c12 : PySem.W.codeIn K cd12 "Program.tells" = true)
    (k12 : PySem.W.keepIn K (.ref f_Program_tells) = true)
    (x13 : PySem.W.findIn K (.ref a_Program) "parts" = some (some (.ref f_Program_parts)))
    (y13 : PySem.W.isFn K (.ref f_Program_parts) = true)
    (l13 : K.lookup f_Program_parts = some ⟨oc13, od13, .func (PySem.W.fnOf "parts" "Program.parts" (defArgs s_Program_parts) (defBody s_Program_parts) (defScope s_Program_parts) .none kV13 dc13 pm13 an13 cd13 ct13), sl13⟩)
    (c13 : PySem.W.codeIn K cd13 "Program.parts" = true)
    (k13 : PySem.W.keepIn K (.ref f_Program_parts) = true)
    (x14 : PySem.W.findIn K (.ref a_Program) "__eq__" = some (some (.ref f_Program_eq)))
    (y14 : PySem.W.isFn K (.ref f_Program_eq) = true)
    (l14 : K.lookup f_Program_eq = some ⟨oc14, od14, .func (PySem.W.fnOf "__eq__" "Program.__eq__" (defArgs s_Program_eq) (defBody s_Program_eq) (defScope s_Program_eq) .none kV14 dc14 pm14 an14 cd14 ct14), sl14⟩)
    (c14 : PySem.W.codeIn K cd14 "Program.__eq__" = true)
    (k14 : PySem.W.keepIn K (.ref f_Program_eq) = true)
    (ne_Program : PySem.W.findIn K (.ref a_Program) "__ne__" = some (some (.builtin "object.__ne__")))
    (mo_Program : PySem.W.mroIn K a_Program (.type "object") = some true)
    (x15 : PySem.W.nsIn K mainGlobals "row_line" = some (some (.ref f_row_line)))
    (l15 : K.lookup f_row_line = some ⟨oc15, od15, .func (PySem.W.fnOf "row_line" "row_line" (defArgs s_row_line) (defBody s_row_line) (defScope s_row_line) .none kV15 dc15 pm15 an15 cd15 ct15), sl15⟩)
    (c15 : PySem.W.codeIn K cd15 "row_line" = true)
    (k15 : PySem.W.keepIn K (.ref f_row_line) = true)
    (x16 : PySem.W.nsIn K mainGlobals "pass_lines" = some (some (.ref f_pass_lines)))
    (l16 : K.lookup f_pass_lines = some ⟨oc16, od16, .func (PySem.W.fnOf "pass_lines" "pass_lines" (defArgs s_pass_lines) (defBody s_pass_lines) (defScope s_pass_lines) .none kV16 dc16 pm16 an16 cd16 ct16), sl16⟩)
    (c16 : PySem.W.codeIn K cd16 "pass_lines" = true)
    (k16 : PySem.W.keepIn K (.ref f_pass_lines) = true)
    (x17 : PySem.W.nsIn K mainGlobals "program_text" = some (some (.ref f_program_text)))
    (l17 : K.lookup f_program_text = some ⟨oc17, od17, .func (PySem.W.fnOf "program_text" "program_text" (defArgs s_program_text) (defBody s_program_text) (defScope s_program_text) .none kV17 dc17 pm17 an17 cd17 ct17), sl17⟩)
    (c17 : PySem.W.codeIn K cd17 "program_text" = true)
    (k17 : PySem.W.keepIn K (.ref f_program_text) = true)
    (x18 : PySem.W.nsIn K mainGlobals "is_numeral" = some (some (.ref f_is_numeral)))
    (l18 : K.lookup f_is_numeral = some ⟨oc18, od18, .func (PySem.W.fnOf "is_numeral" "is_numeral" (defArgs s_is_numeral) (defBody s_is_numeral) (defScope s_is_numeral) .none kV18 dc18 pm18 an18 cd18 ct18), sl18⟩)
    (c18 : PySem.W.codeIn K cd18 "is_numeral" = true)
    (k18 : PySem.W.keepIn K (.ref f_is_numeral) = true)
    (x19 : PySem.W.nsIn K mainGlobals "numbers_in" = some (some (.ref f_numbers_in)))
    (l19 : K.lookup f_numbers_in = some ⟨oc19, od19, .func (PySem.W.fnOf "numbers_in" "numbers_in" (defArgs s_numbers_in) (defBody s_numbers_in) (defScope s_numbers_in) .none kV19 dc19 pm19 an19 cd19 ct19), sl19⟩)
    (c19 : PySem.W.codeIn K cd19 "numbers_in" = true)
    (k19 : PySem.W.keepIn K (.ref f_numbers_in) = true)
    (x20 : PySem.W.nsIn K mainGlobals "read_row" = some (some (.ref f_read_row)))
    (l20 : K.lookup f_read_row = some ⟨oc20, od20, .func (PySem.W.fnOf "read_row" "read_row" (defArgs s_read_row) (defBody s_read_row) (defScope s_read_row) .none kV20 dc20 pm20 an20 cd20 ct20), sl20⟩)
    (c20 : PySem.W.codeIn K cd20 "read_row" = true)
    (k20 : PySem.W.keepIn K (.ref f_read_row) = true)
    (x21 : PySem.W.findIn K (.ref a_Reader) "__init__" = some (some (.ref f_Reader_init)))
    (y21 : PySem.W.isFn K (.ref f_Reader_init) = true)
    (l21 : K.lookup f_Reader_init = some ⟨oc21, od21, .func (PySem.W.fnOf "__init__" "Reader.__init__" (defArgs s_Reader_init) (defBody s_Reader_init) (defScope s_Reader_init) .none kV21 dc21 pm21 an21 cd21 ct21), sl21⟩)
    (c21 : PySem.W.codeIn K cd21 "Reader.__init__" = true)
    (k21 : PySem.W.keepIn K (.ref f_Reader_init) = true)
    (mk_Reader : PySem.W.makesIn K a_Reader = true)
    (kc_Reader : PySem.W.keepIn K (.ref a_Reader) = true)
    (x22 : PySem.W.findIn K (.ref a_Reader) "takes_kinds" = some (some (.ref f_Reader_takes_kinds)))
    (y22 : PySem.W.isFn K (.ref f_Reader_takes_kinds) = true)
    (l22 : K.lookup f_Reader_takes_kinds = some ⟨oc22, od22, .func (PySem.W.fnOf "takes_kinds" "Reader.takes_kinds" (defArgs s_Reader_takes_kinds) (defBody s_Reader_takes_kinds) (defScope s_Reader_takes_kinds) .none kV22 dc22 pm22 an22 cd22 ct22), sl22⟩)
    (c22 : PySem.W.codeIn K cd22 "Reader.takes_kinds" = true)
    (k22 : PySem.W.keepIn K (.ref f_Reader_takes_kinds) = true)
    (x23 : PySem.W.findIn K (.ref a_Reader) "takes_pass" = some (some (.ref f_Reader_takes_pass)))
    (y23 : PySem.W.isFn K (.ref f_Reader_takes_pass) = true)
    (l23 : K.lookup f_Reader_takes_pass = some ⟨oc23, od23, .func (PySem.W.fnOf "takes_pass" "Reader.takes_pass" (defArgs s_Reader_takes_pass) (defBody s_Reader_takes_pass) (defScope s_Reader_takes_pass) .none kV23 dc23 pm23 an23 cd23 ct23), sl23⟩)
    (c23 : PySem.W.codeIn K cd23 "Reader.takes_pass" = true)
    (k23 : PySem.W.keepIn K (.ref f_Reader_takes_pass) = true)
    (x24 : PySem.W.findIn K (.ref a_Reader) "takes_row" = some (some (.ref f_Reader_takes_row)))
    (y24 : PySem.W.isFn K (.ref f_Reader_takes_row) = true)
    (l24 : K.lookup f_Reader_takes_row = some ⟨oc24, od24, .func (PySem.W.fnOf "takes_row" "Reader.takes_row" (defArgs s_Reader_takes_row) (defBody s_Reader_takes_row) (defScope s_Reader_takes_row) .none kV24 dc24 pm24 an24 cd24 ct24), sl24⟩)
    (c24 : PySem.W.codeIn K cd24 "Reader.takes_row" = true)
    (k24 : PySem.W.keepIn K (.ref f_Reader_takes_row) = true)
    (x25 : PySem.W.findIn K (.ref a_Reader) "takes_tell" = some (some (.ref f_Reader_takes_tell)))
    (y25 : PySem.W.isFn K (.ref f_Reader_takes_tell) = true)
    (l25 : K.lookup f_Reader_takes_tell = some ⟨oc25, od25, .func (PySem.W.fnOf "takes_tell" "Reader.takes_tell" (defArgs s_Reader_takes_tell) (defBody s_Reader_takes_tell) (defScope s_Reader_takes_tell) .none kV25 dc25 pm25 an25 cd25 ct25), sl25⟩)
    (c25 : PySem.W.codeIn K cd25 "Reader.takes_tell" = true)
    (k25 : PySem.W.keepIn K (.ref f_Reader_takes_tell) = true)
    (x26 : PySem.W.findIn K (.ref a_Reader) "takes" = some (some (.ref f_Reader_takes)))
    (y26 : PySem.W.isFn K (.ref f_Reader_takes) = true)
    (l26 : K.lookup f_Reader_takes = some ⟨oc26, od26, .func (PySem.W.fnOf "takes" "Reader.takes" (defArgs s_Reader_takes) (defBody s_Reader_takes) (defScope s_Reader_takes) .none kV26 dc26 pm26 an26 cd26 ct26), sl26⟩)
    (c26 : PySem.W.codeIn K cd26 "Reader.takes" = true)
    (k26 : PySem.W.keepIn K (.ref f_Reader_takes) = true)
    (x27 : PySem.W.findIn K (.ref a_Reader) "result" = some (some (.ref f_Reader_result)))
    (y27 : PySem.W.isFn K (.ref f_Reader_result) = true)
    (l27 : K.lookup f_Reader_result = some ⟨oc27, od27, .func (PySem.W.fnOf "result" "Reader.result" (defArgs s_Reader_result) (defBody s_Reader_result) (defScope s_Reader_result) .none kV27 dc27 pm27 an27 cd27 ct27), sl27⟩)
    (c27 : PySem.W.codeIn K cd27 "Reader.result" = true)
    (k27 : PySem.W.keepIn K (.ref f_Reader_result) = true)
    (x28 : PySem.W.nsIn K mainGlobals "read_program" = some (some (.ref f_read_program)))
    (l28 : K.lookup f_read_program = some ⟨oc28, od28, .func (PySem.W.fnOf "read_program" "read_program" (defArgs s_read_program) (defBody s_read_program) (defScope s_read_program) .none kV28 dc28 pm28 an28 cd28 ct28), sl28⟩)
    (c28 : PySem.W.codeIn K cd28 "read_program" = true)
    (k28 : PySem.W.keepIn K (.ref f_read_program) = true)
    (x29 : PySem.W.nsIn K mainGlobals "order_text" = some (some (.ref f_order_text)))
    (l29 : K.lookup f_order_text = some ⟨oc29, od29, .func (PySem.W.fnOf "order_text" "order_text" (defArgs s_order_text) (defBody s_order_text) (defScope s_order_text) .none kV29 dc29 pm29 an29 cd29 ct29), sl29⟩)
    (c29 : PySem.W.codeIn K cd29 "order_text" = true)
    (k29 : PySem.W.keepIn K (.ref f_order_text) = true)
    (x30 : PySem.W.nsIn K mainGlobals "read_order" = some (some (.ref f_read_order)))
    (l30 : K.lookup f_read_order = some ⟨oc30, od30, .func (PySem.W.fnOf "read_order" "read_order" (defArgs s_read_order) (defBody s_read_order) (defScope s_read_order) .none kV30 dc30 pm30 an30 cd30 ct30), sl30⟩)
    (c30 : PySem.W.codeIn K cd30 "read_order" = true)
    (k30 : PySem.W.keepIn K (.ref f_read_order) = true)
    (x31 : PySem.W.nsIn K mainGlobals "_law_state" = some (some (.ref f__law_state)))
    (l31 : K.lookup f__law_state = some ⟨oc31, od31, .func (PySem.W.fnOf "_law_state" "_law_state" (defArgs s__law_state) (defBody s__law_state) (defScope s__law_state) .none kV31 dc31 pm31 an31 cd31 ct31), sl31⟩)
    (c31 : PySem.W.codeIn K cd31 "_law_state" = true)
    (k31 : PySem.W.keepIn K (.ref f__law_state) = true)
    (x32 : PySem.W.nsIn K mainGlobals "_law_draw" = some (some (.ref f__law_draw)))
    (l32 : K.lookup f__law_draw = some ⟨oc32, od32, .func (PySem.W.fnOf "_law_draw" "_law_draw" (defArgs s__law_draw) (defBody s__law_draw) (defScope s__law_draw) .none kV32 dc32 pm32 an32 cd32 ct32), sl32⟩)
    (c32 : PySem.W.codeIn K cd32 "_law_draw" = true)
    (k32 : PySem.W.keepIn K (.ref f__law_draw) = true)
    (x33 : PySem.W.nsIn K mainGlobals "_law_pick" = some (some (.ref f__law_pick)))
    (l33 : K.lookup f__law_pick = some ⟨oc33, od33, .func (PySem.W.fnOf "_law_pick" "_law_pick" (defArgs s__law_pick) (defBody s__law_pick) (defScope s__law_pick) .none kV33 dc33 pm33 an33 cd33 ct33), sl33⟩)
    (c33 : PySem.W.codeIn K cd33 "_law_pick" = true)
    (k33 : PySem.W.keepIn K (.ref f__law_pick) = true)
    (x34 : PySem.W.nsIn K mainGlobals "_law_labels" = some (some (.ref f__law_labels)))
    (l34 : K.lookup f__law_labels = some ⟨oc34, od34, .func (PySem.W.fnOf "_law_labels" "_law_labels" (defArgs s__law_labels) (defBody s__law_labels) (defScope s__law_labels) .none kV34 dc34 pm34 an34 cd34 ct34), sl34⟩)
    (c34 : PySem.W.codeIn K cd34 "_law_labels" = true)
    (k34 : PySem.W.keepIn K (.ref f__law_labels) = true)
    (x35 : PySem.W.nsIn K mainGlobals "_law_gain" = some (some (.ref f__law_gain)))
    (l35 : K.lookup f__law_gain = some ⟨oc35, od35, .func (PySem.W.fnOf "_law_gain" "_law_gain" (defArgs s__law_gain) (defBody s__law_gain) (defScope s__law_gain) .none kV35 dc35 pm35 an35 cd35 ct35), sl35⟩)
    (c35 : PySem.W.codeIn K cd35 "_law_gain" = true)
    (k35 : PySem.W.keepIn K (.ref f__law_gain) = true)
    (x36 : PySem.W.nsIn K mainGlobals "_law_lap" = some (some (.ref f__law_lap)))
    (l36 : K.lookup f__law_lap = some ⟨oc36, od36, .func (PySem.W.fnOf "_law_lap" "_law_lap" (defArgs s__law_lap) (defBody s__law_lap) (defScope s__law_lap) .none kV36 dc36 pm36 an36 cd36 ct36), sl36⟩)
    (c36 : PySem.W.codeIn K cd36 "_law_lap" = true)
    (k36 : PySem.W.keepIn K (.ref f__law_lap) = true)
    (x37 : PySem.W.nsIn K mainGlobals "_law_parts" = some (some (.ref f__law_parts)))
    (l37 : K.lookup f__law_parts = some ⟨oc37, od37, .func (PySem.W.fnOf "_law_parts" "_law_parts" (defArgs s__law_parts) (defBody s__law_parts) (defScope s__law_parts) .none kV37 dc37 pm37 an37 cd37 ct37), sl37⟩)
    (c37 : PySem.W.codeIn K cd37 "_law_parts" = true)
    (k37 : PySem.W.keepIn K (.ref f__law_parts) = true)
    (x38 : PySem.W.nsIn K mainGlobals "_law_made" = some (some (.ref f__law_made)))
    (l38 : K.lookup f__law_made = some ⟨oc38, od38, .func (PySem.W.fnOf "_law_made" "_law_made" (defArgs s__law_made) (defBody s__law_made) (defScope s__law_made) .none kV38 dc38 pm38 an38 cd38 ct38), sl38⟩)
    (c38 : PySem.W.codeIn K cd38 "_law_made" = true)
    (k38 : PySem.W.keepIn K (.ref f__law_made) = true)
    (x39 : PySem.W.nsIn K mainGlobals "_law_tour" = some (some (.ref f__law_tour)))
    (l39 : K.lookup f__law_tour = some ⟨oc39, od39, .func (PySem.W.fnOf "_law_tour" "_law_tour" (defArgs s__law_tour) (defBody s__law_tour) (defScope s__law_tour) .none kV39 dc39 pm39 an39 cd39 ct39), sl39⟩)
    (c39 : PySem.W.codeIn K cd39 "_law_tour" = true)
    (k39 : PySem.W.keepIn K (.ref f__law_tour) = true)
    (x40 : PySem.W.nsIn K mainGlobals "_law_lines" = some (some (.ref f__law_lines)))
    (l40 : K.lookup f__law_lines = some ⟨oc40, od40, .func (PySem.W.fnOf "_law_lines" "_law_lines" (defArgs s__law_lines) (defBody s__law_lines) (defScope s__law_lines) .none kV40 dc40 pm40 an40 cd40 ct40), sl40⟩)
    (c40 : PySem.W.codeIn K cd40 "_law_lines" = true)
    (k40 : PySem.W.keepIn K (.ref f__law_lines) = true)
    (x41 : PySem.W.nsIn K mainGlobals "_law_page" = some (some (.ref f__law_page)))
    (l41 : K.lookup f__law_page = some ⟨oc41, od41, .func (PySem.W.fnOf "_law_page" "_law_page" (defArgs s__law_page) (defBody s__law_page) (defScope s__law_page) .none kV41 dc41 pm41 an41 cd41 ct41), sl41⟩)
    (c41 : PySem.W.codeIn K cd41 "_law_page" = true)
    (k41 : PySem.W.keepIn K (.ref f__law_page) = true)
    (x42 : PySem.W.nsIn K mainGlobals "law" = some (some (.ref f_law)))
    (l42 : K.lookup f_law = some ⟨oc42, od42, .func (PySem.W.fnOf "law" "law" (defArgs s_law) (defBody s_law) (defScope s_law) .none kV42 dc42 pm42 an42 cd42 ct42), sl42⟩)
    (c42 : PySem.W.codeIn K cd42 "law" = true)
    (k42 : PySem.W.keepIn K (.ref f_law) = true)
    (q_isinstance : PySem.W.nsIn K mainGlobals "isinstance" = some none)
    (q_len : PySem.W.nsIn K mainGlobals "len" = some none)
    (q_all : PySem.W.nsIn K mainGlobals "all" = some none)
    (q_abs : PySem.W.nsIn K mainGlobals "abs" = some none)
    (q_min : PySem.W.nsIn K mainGlobals "min" = some none)
    (q_int : PySem.W.nsIn K mainGlobals "int" = some none)
    (q_str : PySem.W.nsIn K mainGlobals "str" = some none)
    (q_bool : PySem.W.nsIn K mainGlobals "bool" = some none)
    (q_tuple : PySem.W.nsIn K mainGlobals "tuple" = some none)
    (q_list : PySem.W.nsIn K mainGlobals "list" = some none)
    (q_sorted : PySem.W.nsIn K mainGlobals "sorted" = some none)
    (q_repr : PySem.W.nsIn K mainGlobals "repr" = some none)
    (q_range : PySem.W.nsIn K mainGlobals "range" = some none)
    (q_enumerate : PySem.W.nsIn K mainGlobals "enumerate" = some none)
    (q_zip : PySem.W.nsIn K mainGlobals "zip" = some none)
    (q_LETTERS : PySem.W.nsIn K mainGlobals "LETTERS" = some (some (.str "abcdefghijklmnopqrstuvwxyz" t_LETTERS)))
    (q_MOST_LETTERS : PySem.W.nsIn K mainGlobals "MOST_LETTERS" = some (some (.int 8 t_MOST_LETTERS)))
    (q_MOST_KINDS : PySem.W.nsIn K mainGlobals "MOST_KINDS" = some (some (.int 4 t_MOST_KINDS)))
    (q_MOST_PASSES : PySem.W.nsIn K mainGlobals "MOST_PASSES" = some (some (.int 2 t_MOST_PASSES)))
    (q_DIGITS : PySem.W.nsIn K mainGlobals "DIGITS" = some (some (.str "0123456789" t_DIGITS)))
    (q_MOST_DIGITS : PySem.W.nsIn K mainGlobals "MOST_DIGITS" = some (some (.int 6 t_MOST_DIGITS)))
    (q_MARGIN : PySem.W.nsIn K mainGlobals "MARGIN" = some (some (.str "  " t_MARGIN)))
    (q_EMPTY : PySem.W.nsIn K mainGlobals "EMPTY" = some (some (.str "-" t_EMPTY)))
    : ∃ fd : FuncData, (∀ (s : Shared) (v : Value), BindsTo s fd ⟨[v], []⟩ [("_law_script", v)]) ∧ ∀ base : Heap, K.In base → base.Ns mainGlobals mg → LawRun P w K mg base 11 fa fd ["_law_script"] (spLaw K) := by
  have e := (PySem.W.mg_of X G x42).symm.trans hfa
  have e2 : f_law = fa := by cases e; rfl
  subst e2
  have F0 := fun_mk (st := s_is_integer) l0 c0 k0
  have F1 := fun_mk (st := s_is_name) l1 c1 k1
  have F2 := fun_mk (st := s_are_kinds) l2 c2 k2
  have F3 := fun_mk (st := s_is_state) l3 c3 k3
  have F4 := fun_mk (st := s_is_pair) l4 c4 k4
  have F5 := fun_mk (st := s_are_rows) l5 c5 k5
  have F6 := fun_mk (st := s_is_pass) l6 c6 k6
  have F7 := fun_mk (st := s_are_passes) l7 c7 k7
  have F8 := fun_mk (st := s_is_tell) l8 c8 k8
  have F9 := fun_mk (st := s_Program_init) l9 c9 k9
  have F10 := fun_mk (st := s_Program_kinds) l10 c10 k10
  have F11 := fun_mk (st := s_Program_passes) l11 c11 k11
  have F12 := fun_mk (st := s_Program_tells) l12 c12 k12
  have F13 := fun_mk (st := s_Program_parts) l13 c13 k13
  have F14 := fun_mk (st := s_Program_eq) l14 c14 k14
  have F15 := fun_mk (st := s_row_line) l15 c15 k15
  have F16 := fun_mk (st := s_pass_lines) l16 c16 k16
  have F17 := fun_mk (st := s_program_text) l17 c17 k17
  have F18 := fun_mk (st := s_is_numeral) l18 c18 k18
  have F19 := fun_mk (st := s_numbers_in) l19 c19 k19
  have F20 := fun_mk (st := s_read_row) l20 c20 k20
  have F21 := fun_mk (st := s_Reader_init) l21 c21 k21
  have F22 := fun_mk (st := s_Reader_takes_kinds) l22 c22 k22
  have F23 := fun_mk (st := s_Reader_takes_pass) l23 c23 k23
  have F24 := fun_mk (st := s_Reader_takes_row) l24 c24 k24
  have F25 := fun_mk (st := s_Reader_takes_tell) l25 c25 k25
  have F26 := fun_mk (st := s_Reader_takes) l26 c26 k26
  have F27 := fun_mk (st := s_Reader_result) l27 c27 k27
  have F28 := fun_mk (st := s_read_program) l28 c28 k28
  have F29 := fun_mk (st := s_order_text) l29 c29 k29
  have F30 := fun_mk (st := s_read_order) l30 c30 k30
  have F31 := fun_mk (st := s__law_state) l31 c31 k31
  have F32 := fun_mk (st := s__law_draw) l32 c32 k32
  have F33 := fun_mk (st := s__law_pick) l33 c33 k33
  have F34 := fun_mk (st := s__law_labels) l34 c34 k34
  have F35 := fun_mk (st := s__law_gain) l35 c35 k35
  have F36 := fun_mk (st := s__law_lap) l36 c36 k36
  have F37 := fun_mk (st := s__law_parts) l37 c37 k37
  have F38 := fun_mk (st := s__law_made) l38 c38 k38
  have F39 := fun_mk (st := s__law_tour) l39 c39 k39
  have F40 := fun_mk (st := s__law_lines) l40 c40 k40
  have F41 := fun_mk (st := s__law_page) l41 c41 k41
  have F42 := fun_mk (st := s_law) l42 c42 k42
  let T : Tx K mg := {
    a_Program := a_Program,
    g_Program := PySem.W.mg_of X G A_Program,
    c_Program := ⟨pg_Program, hd_Program, po_Program, sa_Program⟩,
    n_Program_p_kinds := n_Program_p_kinds,
    n_Program_p_passes := n_Program_p_passes,
    n_Program_p_tells := n_Program_p_tells,
    i_Program := ⟨⟨pg_Program, hd_Program, po_Program, sa_Program⟩, ia_Program, ib_Program, ic_Program, id_Program⟩,
    self_Program := if_pos (beq_self_eq_true _),
    a_Reader := a_Reader,
    g_Reader := PySem.W.mg_of X G A_Reader,
    c_Reader := ⟨pg_Reader, hd_Reader, po_Reader, sa_Reader⟩,
    n_Reader_r_kinds := n_Reader_r_kinds,
    n_Reader_r_passes := n_Reader_r_passes,
    n_Reader_r_tells := n_Reader_r_tells,
    f_is_integer := f_is_integer,
    d_is_integer := PySem.W.fnOf "is_integer" "is_integer" (defArgs s_is_integer) (defBody s_is_integer) (defScope s_is_integer) .none kV0 dc0 pm0 an0 cd0 ct0,
    F_is_integer := F0,
    b_is_integer := F0.binds (ps := ["thing"]) fun _ _ _ _ _ _ us hl => match us, hl with | [_], _ => rfl,
    g_is_integer := PySem.W.mg_of X G x0,
    f_is_name := f_is_name,
    d_is_name := PySem.W.fnOf "is_name" "is_name" (defArgs s_is_name) (defBody s_is_name) (defScope s_is_name) .none kV1 dc1 pm1 an1 cd1 ct1,
    F_is_name := F1,
    b_is_name := F1.binds (ps := ["thing"]) fun _ _ _ _ _ _ us hl => match us, hl with | [_], _ => rfl,
    g_is_name := PySem.W.mg_of X G x1,
    f_are_kinds := f_are_kinds,
    d_are_kinds := PySem.W.fnOf "are_kinds" "are_kinds" (defArgs s_are_kinds) (defBody s_are_kinds) (defScope s_are_kinds) .none kV2 dc2 pm2 an2 cd2 ct2,
    F_are_kinds := F2,
    b_are_kinds := F2.binds (ps := ["thing"]) fun _ _ _ _ _ _ us hl => match us, hl with | [_], _ => rfl,
    g_are_kinds := PySem.W.mg_of X G x2,
    f_is_state := f_is_state,
    d_is_state := PySem.W.fnOf "is_state" "is_state" (defArgs s_is_state) (defBody s_is_state) (defScope s_is_state) .none kV3 dc3 pm3 an3 cd3 ct3,
    F_is_state := F3,
    b_is_state := F3.binds (ps := ["many", "thing"]) fun _ _ _ _ _ _ us hl => match us, hl with | [_, _], _ => rfl,
    g_is_state := PySem.W.mg_of X G x3,
    f_is_pair := f_is_pair,
    d_is_pair := PySem.W.fnOf "is_pair" "is_pair" (defArgs s_is_pair) (defBody s_is_pair) (defScope s_is_pair) .none kV4 dc4 pm4 an4 cd4 ct4,
    F_is_pair := F4,
    b_is_pair := F4.binds (ps := ["many", "thing"]) fun _ _ _ _ _ _ us hl => match us, hl with | [_, _], _ => rfl,
    g_is_pair := PySem.W.mg_of X G x4,
    f_are_rows := f_are_rows,
    d_are_rows := PySem.W.fnOf "are_rows" "are_rows" (defArgs s_are_rows) (defBody s_are_rows) (defScope s_are_rows) .none kV5 dc5 pm5 an5 cd5 ct5,
    F_are_rows := F5,
    b_are_rows := F5.binds (ps := ["size", "thing"]) fun _ _ _ _ _ _ us hl => match us, hl with | [_, _], _ => rfl,
    g_are_rows := PySem.W.mg_of X G x5,
    f_is_pass := f_is_pass,
    d_is_pass := PySem.W.fnOf "is_pass" "is_pass" (defArgs s_is_pass) (defBody s_is_pass) (defScope s_is_pass) .none kV6 dc6 pm6 an6 cd6 ct6,
    F_is_pass := F6,
    b_is_pass := F6.binds (ps := ["size", "begins", "thing"]) fun _ _ _ _ _ _ us hl => match us, hl with | [_, _, _], _ => rfl,
    g_is_pass := PySem.W.mg_of X G x6,
    f_are_passes := f_are_passes,
    d_are_passes := PySem.W.fnOf "are_passes" "are_passes" (defArgs s_are_passes) (defBody s_are_passes) (defScope s_are_passes) .none kV7 dc7 pm7 an7 cd7 ct7,
    F_are_passes := F7,
    b_are_passes := F7.binds (ps := ["size", "thing"]) fun _ _ _ _ _ _ us hl => match us, hl with | [_, _], _ => rfl,
    g_are_passes := PySem.W.mg_of X G x7,
    f_is_tell := f_is_tell,
    d_is_tell := PySem.W.fnOf "is_tell" "is_tell" (defArgs s_is_tell) (defBody s_is_tell) (defScope s_is_tell) .none kV8 dc8 pm8 an8 cd8 ct8,
    F_is_tell := F8,
    b_is_tell := F8.binds (ps := ["thing"]) fun _ _ _ _ _ _ us hl => match us, hl with | [_], _ => rfl,
    g_is_tell := PySem.W.mg_of X G x8,
    f_Program_init := f_Program_init,
    d_Program_init := PySem.W.fnOf "__init__" "Program.__init__" (defArgs s_Program_init) (defBody s_Program_init) (defScope s_Program_init) .none kV9 dc9 pm9 an9 cd9 ct9,
    F_Program_init := F9,
    b_Program_init := F9.binds (ps := ["self", "kinds", "passes", "tells"]) fun _ _ _ _ _ _ us hl => match us, hl with | [_, _, _, _], _ => rfl,
    K_Program := ⟨mk_Program, x9, y9, kc_Program⟩,
    f_Program_kinds := f_Program_kinds,
    d_Program_kinds := PySem.W.fnOf "kinds" "Program.kinds" (defArgs s_Program_kinds) (defBody s_Program_kinds) (defScope s_Program_kinds) .none kV10 dc10 pm10 an10 cd10 ct10,
    F_Program_kinds := F10,
    b_Program_kinds := F10.binds (ps := ["self"]) fun _ _ _ _ _ _ us hl => match us, hl with | [_], _ => rfl,
    p_Program_kinds := p_Program_kinds,
    P_Program_kinds := ⟨x10, y10, z10, rs10, w10⟩,
    f_Program_passes := f_Program_passes,
    d_Program_passes := PySem.W.fnOf "passes" "Program.passes" (defArgs s_Program_passes) (defBody s_Program_passes) (defScope s_Program_passes) .none kV11 dc11 pm11 an11 cd11 ct11,
    F_Program_passes := F11,
    b_Program_passes := F11.binds (ps := ["self"]) fun _ _ _ _ _ _ us hl => match us, hl with | [_], _ => rfl,
    p_Program_passes := p_Program_passes,
    P_Program_passes := ⟨x11, y11, z11, rs11, w11⟩,
    f_Program_tells := f_Program_tells,
    d_Program_tells := PySem.W.fnOf "tells" "Program.tells" (defArgs s_Program_tells) (defBody s_Program_tells) (defScope s_Program_tells) .none kV12 dc12 pm12 an12 cd12 ct12,
    F_Program_tells := F12,
    b_Program_tells := F12.binds (ps := ["self"]) fun _ _ _ _ _ _ us hl => match us, hl with | [_], _ => rfl,
    p_Program_tells := p_Program_tells,
    P_Program_tells := ⟨x12, y12, z12, rs12, w12⟩,
    f_Program_parts := f_Program_parts,
    d_Program_parts := PySem.W.fnOf "parts" "Program.parts" (defArgs s_Program_parts) (defBody s_Program_parts) (defScope s_Program_parts) .none kV13 dc13 pm13 an13 cd13 ct13,
    F_Program_parts := F13,
    b_Program_parts := F13.binds (ps := ["self"]) fun _ _ _ _ _ _ us hl => match us, hl with | [_], _ => rfl,
    M_Program_parts := ⟨x13, y13, k13⟩,
    f_Program_eq := f_Program_eq,
    d_Program_eq := PySem.W.fnOf "__eq__" "Program.__eq__" (defArgs s_Program_eq) (defBody s_Program_eq) (defScope s_Program_eq) .none kV14 dc14 pm14 an14 cd14 ct14,
    F_Program_eq := F14,
    b_Program_eq := F14.binds (ps := ["self", "other"]) fun _ _ _ _ _ _ us hl => match us, hl with | [_, _], _ => rfl,
    e_Program := ⟨x14, y14, ne_Program, mo_Program⟩,
    f_row_line := f_row_line,
    d_row_line := PySem.W.fnOf "row_line" "row_line" (defArgs s_row_line) (defBody s_row_line) (defScope s_row_line) .none kV15 dc15 pm15 an15 cd15 ct15,
    F_row_line := F15,
    b_row_line := F15.binds (ps := ["row"]) fun _ _ _ _ _ _ us hl => match us, hl with | [_], _ => rfl,
    g_row_line := PySem.W.mg_of X G x15,
    f_pass_lines := f_pass_lines,
    d_pass_lines := PySem.W.fnOf "pass_lines" "pass_lines" (defArgs s_pass_lines) (defBody s_pass_lines) (defScope s_pass_lines) .none kV16 dc16 pm16 an16 cd16 ct16,
    F_pass_lines := F16,
    b_pass_lines := F16.binds (ps := ["one"]) fun _ _ _ _ _ _ us hl => match us, hl with | [_], _ => rfl,
    g_pass_lines := PySem.W.mg_of X G x16,
    f_program_text := f_program_text,
    d_program_text := PySem.W.fnOf "program_text" "program_text" (defArgs s_program_text) (defBody s_program_text) (defScope s_program_text) .none kV17 dc17 pm17 an17 cd17 ct17,
    F_program_text := F17,
    b_program_text := F17.binds (ps := ["program"]) fun _ _ _ _ _ _ us hl => match us, hl with | [_], _ => rfl,
    g_program_text := PySem.W.mg_of X G x17,
    kb_program_text := ⟨fun _ us ws h1 h2 => .of_eq (match us, ws, h1, h2 with | [], [_], _, _ => rfl)⟩,
    f_is_numeral := f_is_numeral,
    d_is_numeral := PySem.W.fnOf "is_numeral" "is_numeral" (defArgs s_is_numeral) (defBody s_is_numeral) (defScope s_is_numeral) .none kV18 dc18 pm18 an18 cd18 ct18,
    F_is_numeral := F18,
    b_is_numeral := F18.binds (ps := ["word"]) fun _ _ _ _ _ _ us hl => match us, hl with | [_], _ => rfl,
    g_is_numeral := PySem.W.mg_of X G x18,
    f_numbers_in := f_numbers_in,
    d_numbers_in := PySem.W.fnOf "numbers_in" "numbers_in" (defArgs s_numbers_in) (defBody s_numbers_in) (defScope s_numbers_in) .none kV19 dc19 pm19 an19 cd19 ct19,
    F_numbers_in := F19,
    b_numbers_in := F19.binds (ps := ["words"]) fun _ _ _ _ _ _ us hl => match us, hl with | [_], _ => rfl,
    g_numbers_in := PySem.W.mg_of X G x19,
    f_read_row := f_read_row,
    d_read_row := PySem.W.fnOf "read_row" "read_row" (defArgs s_read_row) (defBody s_read_row) (defScope s_read_row) .none kV20 dc20 pm20 an20 cd20 ct20,
    F_read_row := F20,
    b_read_row := F20.binds (ps := ["size", "line"]) fun _ _ _ _ _ _ us hl => match us, hl with | [_, _], _ => rfl,
    g_read_row := PySem.W.mg_of X G x20,
    f_Reader_init := f_Reader_init,
    d_Reader_init := PySem.W.fnOf "__init__" "Reader.__init__" (defArgs s_Reader_init) (defBody s_Reader_init) (defScope s_Reader_init) .none kV21 dc21 pm21 an21 cd21 ct21,
    F_Reader_init := F21,
    b_Reader_init := F21.binds (ps := ["self"]) fun _ _ _ _ _ _ us hl => match us, hl with | [_], _ => rfl,
    K_Reader := ⟨mk_Reader, x21, y21, kc_Reader⟩,
    f_Reader_takes_kinds := f_Reader_takes_kinds,
    d_Reader_takes_kinds := PySem.W.fnOf "takes_kinds" "Reader.takes_kinds" (defArgs s_Reader_takes_kinds) (defBody s_Reader_takes_kinds) (defScope s_Reader_takes_kinds) .none kV22 dc22 pm22 an22 cd22 ct22,
    F_Reader_takes_kinds := F22,
    b_Reader_takes_kinds := F22.binds (ps := ["self", "words"]) fun _ _ _ _ _ _ us hl => match us, hl with | [_, _], _ => rfl,
    M_Reader_takes_kinds := ⟨x22, y22, k22⟩,
    f_Reader_takes_pass := f_Reader_takes_pass,
    d_Reader_takes_pass := PySem.W.fnOf "takes_pass" "Reader.takes_pass" (defArgs s_Reader_takes_pass) (defBody s_Reader_takes_pass) (defScope s_Reader_takes_pass) .none kV23 dc23 pm23 an23 cd23 ct23,
    F_Reader_takes_pass := F23,
    b_Reader_takes_pass := F23.binds (ps := ["self", "words"]) fun _ _ _ _ _ _ us hl => match us, hl with | [_, _], _ => rfl,
    M_Reader_takes_pass := ⟨x23, y23, k23⟩,
    f_Reader_takes_row := f_Reader_takes_row,
    d_Reader_takes_row := PySem.W.fnOf "takes_row" "Reader.takes_row" (defArgs s_Reader_takes_row) (defBody s_Reader_takes_row) (defScope s_Reader_takes_row) .none kV24 dc24 pm24 an24 cd24 ct24,
    F_Reader_takes_row := F24,
    b_Reader_takes_row := F24.binds (ps := ["self", "line"]) fun _ _ _ _ _ _ us hl => match us, hl with | [_, _], _ => rfl,
    M_Reader_takes_row := ⟨x24, y24, k24⟩,
    f_Reader_takes_tell := f_Reader_takes_tell,
    d_Reader_takes_tell := PySem.W.fnOf "takes_tell" "Reader.takes_tell" (defArgs s_Reader_takes_tell) (defBody s_Reader_takes_tell) (defScope s_Reader_takes_tell) .none kV25 dc25 pm25 an25 cd25 ct25,
    F_Reader_takes_tell := F25,
    b_Reader_takes_tell := F25.binds (ps := ["self", "words"]) fun _ _ _ _ _ _ us hl => match us, hl with | [_, _], _ => rfl,
    M_Reader_takes_tell := ⟨x25, y25, k25⟩,
    f_Reader_takes := f_Reader_takes,
    d_Reader_takes := PySem.W.fnOf "takes" "Reader.takes" (defArgs s_Reader_takes) (defBody s_Reader_takes) (defScope s_Reader_takes) .none kV26 dc26 pm26 an26 cd26 ct26,
    F_Reader_takes := F26,
    b_Reader_takes := F26.binds (ps := ["self", "line"]) fun _ _ _ _ _ _ us hl => match us, hl with | [_, _], _ => rfl,
    M_Reader_takes := ⟨x26, y26, k26⟩,
    f_Reader_result := f_Reader_result,
    d_Reader_result := PySem.W.fnOf "result" "Reader.result" (defArgs s_Reader_result) (defBody s_Reader_result) (defScope s_Reader_result) .none kV27 dc27 pm27 an27 cd27 ct27,
    F_Reader_result := F27,
    b_Reader_result := F27.binds (ps := ["self"]) fun _ _ _ _ _ _ us hl => match us, hl with | [_], _ => rfl,
    M_Reader_result := ⟨x27, y27, k27⟩,
    f_read_program := f_read_program,
    d_read_program := PySem.W.fnOf "read_program" "read_program" (defArgs s_read_program) (defBody s_read_program) (defScope s_read_program) .none kV28 dc28 pm28 an28 cd28 ct28,
    F_read_program := F28,
    b_read_program := F28.binds (ps := ["text"]) fun _ _ _ _ _ _ us hl => match us, hl with | [_], _ => rfl,
    g_read_program := PySem.W.mg_of X G x28,
    kb_read_program := ⟨fun _ us ws h1 h2 => .of_eq (match us, ws, h1, h2 with | [], [_], _, _ => rfl)⟩,
    f_order_text := f_order_text,
    d_order_text := PySem.W.fnOf "order_text" "order_text" (defArgs s_order_text) (defBody s_order_text) (defScope s_order_text) .none kV29 dc29 pm29 an29 cd29 ct29,
    F_order_text := F29,
    b_order_text := F29.binds (ps := ["order"]) fun _ _ _ _ _ _ us hl => match us, hl with | [_], _ => rfl,
    g_order_text := PySem.W.mg_of X G x29,
    kb_order_text := ⟨fun _ us ws h1 h2 => .of_eq (match us, ws, h1, h2 with | [], [_], _, _ => rfl)⟩,
    f_read_order := f_read_order,
    d_read_order := PySem.W.fnOf "read_order" "read_order" (defArgs s_read_order) (defBody s_read_order) (defScope s_read_order) .none kV30 dc30 pm30 an30 cd30 ct30,
    F_read_order := F30,
    b_read_order := F30.binds (ps := ["program", "text"]) fun _ _ _ _ _ _ us hl => match us, hl with | [_, _], _ => rfl,
    g_read_order := PySem.W.mg_of X G x30,
    kb_read_order := ⟨fun _ us ws h1 h2 => .of_eq (match us, ws, h1, h2 with | [], [_, _], _, _ => rfl)⟩,
    f__law_state := f__law_state,
    d__law_state := PySem.W.fnOf "_law_state" "_law_state" (defArgs s__law_state) (defBody s__law_state) (defScope s__law_state) .none kV31 dc31 pm31 an31 cd31 ct31,
    F__law_state := F31,
    b__law_state := F31.binds (ps := ["_law_script"]) fun _ _ _ _ _ _ us hl => match us, hl with | [_], _ => rfl,
    g__law_state := PySem.W.mg_of X G x31,
    f__law_draw := f__law_draw,
    d__law_draw := PySem.W.fnOf "_law_draw" "_law_draw" (defArgs s__law_draw) (defBody s__law_draw) (defScope s__law_draw) .none kV32 dc32 pm32 an32 cd32 ct32,
    F__law_draw := F32,
    b__law_draw := F32.binds (ps := ["_law_draws", "_law_many"]) fun _ _ _ _ _ _ us hl => match us, hl with | [_, _], _ => rfl,
    g__law_draw := PySem.W.mg_of X G x32,
    f__law_pick := f__law_pick,
    d__law_pick := PySem.W.fnOf "_law_pick" "_law_pick" (defArgs s__law_pick) (defBody s__law_pick) (defScope s__law_pick) .none kV33 dc33 pm33 an33 cd33 ct33,
    F__law_pick := F33,
    b__law_pick := F33.binds (ps := ["_law_draws", "_law_some"]) fun _ _ _ _ _ _ us hl => match us, hl with | [_, _], _ => rfl,
    g__law_pick := PySem.W.mg_of X G x33,
    f__law_labels := f__law_labels,
    d__law_labels := PySem.W.fnOf "_law_labels" "_law_labels" (defArgs s__law_labels) (defBody s__law_labels) (defScope s__law_labels) .none kV34 dc34 pm34 an34 cd34 ct34,
    F__law_labels := F34,
    b__law_labels := F34.binds (ps := ["_law_draws", "_law_many"]) fun _ _ _ _ _ _ us hl => match us, hl with | [_, _], _ => rfl,
    g__law_labels := PySem.W.mg_of X G x34,
    f__law_gain := f__law_gain,
    d__law_gain := PySem.W.fnOf "_law_gain" "_law_gain" (defArgs s__law_gain) (defBody s__law_gain) (defScope s__law_gain) .none kV35 dc35 pm35 an35 cd35 ct35,
    F__law_gain := F35,
    b__law_gain := F35.binds (ps := ["_law_draws"]) fun _ _ _ _ _ _ us hl => match us, hl with | [_], _ => rfl,
    g__law_gain := PySem.W.mg_of X G x35,
    f__law_lap := f__law_lap,
    d__law_lap := PySem.W.fnOf "_law_lap" "_law_lap" (defArgs s__law_lap) (defBody s__law_lap) (defScope s__law_lap) .none kV36 dc36 pm36 an36 cd36 ct36,
    F__law_lap := F36,
    b__law_lap := F36.binds (ps := ["_law_draws", "_law_size", "_law_starts", "_law_most"]) fun _ _ _ _ _ _ us hl => match us, hl with | [_, _, _, _], _ => rfl,
    g__law_lap := PySem.W.mg_of X G x36,
    f__law_parts := f__law_parts,
    d__law_parts := PySem.W.fnOf "_law_parts" "_law_parts" (defArgs s__law_parts) (defBody s__law_parts) (defScope s__law_parts) .none kV37 dc37 pm37 an37 cd37 ct37,
    F__law_parts := F37,
    b__law_parts := F37.binds (ps := ["_law_draws", "_law_many", "_law_most"]) fun _ _ _ _ _ _ us hl => match us, hl with | [_, _, _], _ => rfl,
    g__law_parts := PySem.W.mg_of X G x37,
    f__law_made := f__law_made,
    d__law_made := PySem.W.fnOf "_law_made" "_law_made" (defArgs s__law_made) (defBody s__law_made) (defScope s__law_made) .none kV38 dc38 pm38 an38 cd38 ct38,
    F__law_made := F38,
    b__law_made := F38.binds (ps := ["_law_parts_here"]) fun _ _ _ _ _ _ us hl => match us, hl with | [_], _ => rfl,
    g__law_made := PySem.W.mg_of X G x38,
    f__law_tour := f__law_tour,
    d__law_tour := PySem.W.fnOf "_law_tour" "_law_tour" (defArgs s__law_tour) (defBody s__law_tour) (defScope s__law_tour) .none kV39 dc39 pm39 an39 cd39 ct39,
    F__law_tour := F39,
    b__law_tour := F39.binds (ps := ["_law_draws", "_law_sorts", "_law_most"]) fun _ _ _ _ _ _ us hl => match us, hl with | [_, _, _], _ => rfl,
    g__law_tour := PySem.W.mg_of X G x39,
    f__law_lines := f__law_lines,
    d__law_lines := PySem.W.fnOf "_law_lines" "_law_lines" (defArgs s__law_lines) (defBody s__law_lines) (defScope s__law_lines) .none kV40 dc40 pm40 an40 cd40 ct40,
    F__law_lines := F40,
    b__law_lines := F40.binds (ps := ["_law_parts_here"]) fun _ _ _ _ _ _ us hl => match us, hl with | [_], _ => rfl,
    g__law_lines := PySem.W.mg_of X G x40,
    f__law_page := f__law_page,
    d__law_page := PySem.W.fnOf "_law_page" "_law_page" (defArgs s__law_page) (defBody s__law_page) (defScope s__law_page) .none kV41 dc41 pm41 an41 cd41 ct41,
    F__law_page := F41,
    b__law_page := F41.binds (ps := ["_law_lines_here"]) fun _ _ _ _ _ _ us hl => match us, hl with | [_], _ => rfl,
    g__law_page := PySem.W.mg_of X G x41,
    f_law := f_law,
    d_law := PySem.W.fnOf "law" "law" (defArgs s_law) (defBody s_law) (defScope s_law) .none kV42 dc42 pm42 an42 cd42 ct42,
    F_law := F42,
    b_law := F42.binds (ps := ["_law_script"]) fun _ _ _ _ _ _ us hl => match us, hl with | [_], _ => rfl,
    g_law := PySem.W.mg_of X G x42,
    m_isinstance := PySem.W.mg_none_of X G q_isinstance,
    m_len := PySem.W.mg_none_of X G q_len,
    m_all := PySem.W.mg_none_of X G q_all,
    m_abs := PySem.W.mg_none_of X G q_abs,
    m_min := PySem.W.mg_none_of X G q_min,
    m_int := PySem.W.mg_none_of X G q_int,
    m_str := PySem.W.mg_none_of X G q_str,
    m_bool := PySem.W.mg_none_of X G q_bool,
    m_tuple := PySem.W.mg_none_of X G q_tuple,
    m_list := PySem.W.mg_none_of X G q_list,
    m_sorted := PySem.W.mg_none_of X G q_sorted,
    m_repr := PySem.W.mg_none_of X G q_repr,
    m_range := PySem.W.mg_none_of X G q_range,
    m_enumerate := PySem.W.mg_none_of X G q_enumerate,
    m_zip := PySem.W.mg_none_of X G q_zip,
    m_LETTERS := ⟨t_LETTERS, PySem.W.mg_of X G q_LETTERS⟩,
    m_MOST_LETTERS := ⟨t_MOST_LETTERS, PySem.W.mg_of X G q_MOST_LETTERS⟩,
    m_MOST_KINDS := ⟨t_MOST_KINDS, PySem.W.mg_of X G q_MOST_KINDS⟩,
    m_MOST_PASSES := ⟨t_MOST_PASSES, PySem.W.mg_of X G q_MOST_PASSES⟩,
    m_DIGITS := ⟨t_DIGITS, PySem.W.mg_of X G q_DIGITS⟩,
    m_MOST_DIGITS := ⟨t_MOST_DIGITS, PySem.W.mg_of X G q_MOST_DIGITS⟩,
    m_MARGIN := ⟨t_MARGIN, PySem.W.mg_of X G q_MARGIN⟩,
    m_EMPTY := ⟨t_EMPTY, PySem.W.mg_of X G q_EMPTY⟩ }
  exact ⟨T.d_law, fun s v => .of_eq rfl, fun base _ _ => ok_law T⟩
end Sd
set_option Elab.async false
set_option linter.all false
set_option maxRecDepth 100000
open PySem PySem.W PyProof.Rows in
set_option maxRecDepth 100000 in
set_option maxHeartbeats 0 in
theorem PySem.Challenge.cw_seedless_k80_texts_of_programs_holds : PySem.Challenge.rw_seedless_k80_texts_of_programs.Holds := by
  w_on; o_law; k_head; (case hw => w_witness2)
  k_fill
  refine Sd.walk_ofR (l := PySem.Challenge.rw_seedless_k80_texts_of_programs) (n := 63) (k := 11) (x := "_law_script") (sp := Sd.spLaw) rfl (by decide) rfl ⟨rfl, by decide, by decide⟩ (fun w h Y => PySem.W.kIn_of Y) ?F (fun K H a ns hl _ hS => ⟨a, ns, rfl, hS, hl, fun _ => rfl⟩)
  case F =>
    intro w mg fa h KX G hmg
    refine' Sd.all_mk KX G hmg ?A_Program ?pg_Program ?hd_Program ?po_Program ?sa_Program ?n_Program_p_kinds ?n_Program_p_passes ?n_Program_p_tells ?ia_Program ?ib_Program ?ic_Program ?id_Program ?A_Reader ?pg_Reader ?hd_Reader ?po_Reader ?sa_Reader ?n_Reader_r_kinds ?n_Reader_r_passes ?n_Reader_r_tells ?x0 ?l0 ?c0 ?k0 ?x1 ?l1 ?c1 ?k1 ?x2 ?l2 ?c2 ?k2 ?x3 ?l3 ?c3 ?k3 ?x4 ?l4 ?c4 ?k4 ?x5 ?l5 ?c5 ?k5 ?x6 ?l6 ?c6 ?k6 ?x7 ?l7 ?c7 ?k7 ?x8 ?l8 ?c8 ?k8 ?x9 ?y9 ?l9 ?c9 ?k9 ?mk_Program ?kc_Program ?x10 ?y10 ?z10 ?w10 ?l10 ?c10 ?k10 ?x11 ?y11 ?z11 ?w11 ?l11 ?c11 ?k11 ?x12 ?y12 ?z12 ?w12 ?l12 ?c12 ?k12 ?x13 ?y13 ?l13 ?c13 ?k13 ?x14 ?y14 ?l14 ?c14 ?k14 ?ne_Program ?mo_Program ?x15 ?l15 ?c15 ?k15 ?x16 ?l16 ?c16 ?k16 ?x17 ?l17 ?c17 ?k17 ?x18 ?l18 ?c18 ?k18 ?x19 ?l19 ?c19 ?k19 ?x20 ?l20 ?c20 ?k20 ?x21 ?y21 ?l21 ?c21 ?k21 ?mk_Reader ?kc_Reader ?x22 ?y22 ?l22 ?c22 ?k22 ?x23 ?y23 ?l23 ?c23 ?k23 ?x24 ?y24 ?l24 ?c24 ?k24 ?x25 ?y25 ?l25 ?c25 ?k25 ?x26 ?y26 ?l26 ?c26 ?k26 ?x27 ?y27 ?l27 ?c27 ?k27 ?x28 ?l28 ?c28 ?k28 ?x29 ?l29 ?c29 ?k29 ?x30 ?l30 ?c30 ?k30 ?x31 ?l31 ?c31 ?k31 ?x32 ?l32 ?c32 ?k32 ?x33 ?l33 ?c33 ?k33 ?x34 ?l34 ?c34 ?k34 ?x35 ?l35 ?c35 ?k35 ?x36 ?l36 ?c36 ?k36 ?x37 ?l37 ?c37 ?k37 ?x38 ?l38 ?c38 ?k38 ?x39 ?l39 ?c39 ?k39 ?x40 ?l40 ?c40 ?k40 ?x41 ?l41 ?c41 ?k41 ?x42 ?l42 ?c42 ?k42 ?q_isinstance ?q_len ?q_all ?q_abs ?q_min ?q_int ?q_str ?q_bool ?q_tuple ?q_list ?q_sorted ?q_repr ?q_range ?q_enumerate ?q_zip ?q_LETTERS ?q_MOST_LETTERS ?q_MOST_KINDS ?q_MOST_PASSES ?q_DIGITS ?q_MOST_DIGITS ?q_MARGIN ?q_EMPTY
    (case A_Program => k_is)
    (case pg_Program => k_is)
    (case hd_Program => k_is)
    (case po_Program => k_is)
    (case sa_Program => k_is)
    (case n_Program_p_kinds => k_is)
    (case n_Program_p_passes => k_is)
    (case n_Program_p_tells => k_is)
    (case ia_Program => k_is)
    (case ib_Program => k_is)
    (case ic_Program => k_is)
    (case id_Program => k_is)
    (case A_Reader => k_is)
    (case pg_Reader => k_is)
    (case hd_Reader => k_is)
    (case po_Reader => k_is)
    (case sa_Reader => k_is)
    (case n_Reader_r_kinds => k_is)
    (case n_Reader_r_passes => k_is)
    (case n_Reader_r_tells => k_is)
    (case x0 => k_is)
    (case l0 => k_is)
    (case c0 => k_is)
    (case k0 => k_is)
    (case x1 => k_is)
    (case l1 => k_is)
    (case c1 => k_is)
    (case k1 => k_is)
    (case x2 => k_is)
    (case l2 => k_is)
    (case c2 => k_is)
    (case k2 => k_is)
    (case x3 => k_is)
    (case l3 => k_is)
    (case c3 => k_is)
    (case k3 => k_is)
    (case x4 => k_is)
    (case l4 => k_is)
    (case c4 => k_is)
    (case k4 => k_is)
    (case x5 => k_is)
    (case l5 => k_is)
    (case c5 => k_is)
    (case k5 => k_is)
    (case x6 => k_is)
    (case l6 => k_is)
    (case c6 => k_is)
    (case k6 => k_is)
    (case x7 => k_is)
    (case l7 => k_is)
    (case c7 => k_is)
    (case k7 => k_is)
    (case x8 => k_is)
    (case l8 => k_is)
    (case c8 => k_is)
    (case k8 => k_is)
    (case x9 => k_is)
    (case y9 => k_is)
    (case l9 => k_is)
    (case c9 => k_is)
    (case k9 => k_is)
    (case mk_Program => k_is)
    (case kc_Program => k_is)
    (case x10 => k_is)
    (case y10 => k_is)
    (case z10 => k_is)
    (case w10 => k_is)
    (case l10 => k_is)
    (case c10 => k_is)
    (case k10 => k_is)
    (case x11 => k_is)
    (case y11 => k_is)
    (case z11 => k_is)
    (case w11 => k_is)
    (case l11 => k_is)
    (case c11 => k_is)
    (case k11 => k_is)
    (case x12 => k_is)
    (case y12 => k_is)
    (case z12 => k_is)
    (case w12 => k_is)
    (case l12 => k_is)
    (case c12 => k_is)
    (case k12 => k_is)
    (case x13 => k_is)
    (case y13 => k_is)
    (case l13 => k_is)
    (case c13 => k_is)
    (case k13 => k_is)
    (case x14 => k_is)
    (case y14 => k_is)
    (case l14 => k_is)
    (case c14 => k_is)
    (case k14 => k_is)
    (case ne_Program => k_is)
    (case mo_Program => k_is)
    (case x15 => k_is)
    (case l15 => k_is)
    (case c15 => k_is)
    (case k15 => k_is)
    (case x16 => k_is)
    (case l16 => k_is)
    (case c16 => k_is)
    (case k16 => k_is)
    (case x17 => k_is)
    (case l17 => k_is)
    (case c17 => k_is)
    (case k17 => k_is)
    (case x18 => k_is)
    (case l18 => k_is)
    (case c18 => k_is)
    (case k18 => k_is)
    (case x19 => k_is)
    (case l19 => k_is)
    (case c19 => k_is)
    (case k19 => k_is)
    (case x20 => k_is)
    (case l20 => k_is)
    (case c20 => k_is)
    (case k20 => k_is)
    (case x21 => k_is)
    (case y21 => k_is)
    (case l21 => k_is)
    (case c21 => k_is)
    (case k21 => k_is)
    (case mk_Reader => k_is)
    (case kc_Reader => k_is)
    (case x22 => k_is)
    (case y22 => k_is)
    (case l22 => k_is)
    (case c22 => k_is)
    (case k22 => k_is)
    (case x23 => k_is)
    (case y23 => k_is)
    (case l23 => k_is)
    (case c23 => k_is)
    (case k23 => k_is)
    (case x24 => k_is)
    (case y24 => k_is)
    (case l24 => k_is)
    (case c24 => k_is)
    (case k24 => k_is)
    (case x25 => k_is)
    (case y25 => k_is)
    (case l25 => k_is)
    (case c25 => k_is)
    (case k25 => k_is)
    (case x26 => k_is)
    (case y26 => k_is)
    (case l26 => k_is)
    (case c26 => k_is)
    (case k26 => k_is)
    (case x27 => k_is)
    (case y27 => k_is)
    (case l27 => k_is)
    (case c27 => k_is)
    (case k27 => k_is)
    (case x28 => k_is)
    (case l28 => k_is)
    (case c28 => k_is)
    (case k28 => k_is)
    (case x29 => k_is)
    (case l29 => k_is)
    (case c29 => k_is)
    (case k29 => k_is)
    (case x30 => k_is)
    (case l30 => k_is)
    (case c30 => k_is)
    (case k30 => k_is)
    (case x31 => k_is)
    (case l31 => k_is)
    (case c31 => k_is)
    (case k31 => k_is)
    (case x32 => k_is)
    (case l32 => k_is)
    (case c32 => k_is)
    (case k32 => k_is)
    (case x33 => k_is)
    (case l33 => k_is)
    (case c33 => k_is)
    (case k33 => k_is)
    (case x34 => k_is)
    (case l34 => k_is)
    (case c34 => k_is)
    (case k34 => k_is)
    (case x35 => k_is)
    (case l35 => k_is)
    (case c35 => k_is)
    (case k35 => k_is)
    (case x36 => k_is)
    (case l36 => k_is)
    (case c36 => k_is)
    (case k36 => k_is)
    (case x37 => k_is)
    (case l37 => k_is)
    (case c37 => k_is)
    (case k37 => k_is)
    (case x38 => k_is)
    (case l38 => k_is)
    (case c38 => k_is)
    (case k38 => k_is)
    (case x39 => k_is)
    (case l39 => k_is)
    (case c39 => k_is)
    (case k39 => k_is)
    (case x40 => k_is)
    (case l40 => k_is)
    (case c40 => k_is)
    (case k40 => k_is)
    (case x41 => k_is)
    (case l41 => k_is)
    (case c41 => k_is)
    (case k41 => k_is)
    (case x42 => k_is)
    (case l42 => k_is)
    (case c42 => k_is)
    (case k42 => k_is)
    (case q_isinstance => k_is)
    (case q_len => k_is)
    (case q_all => k_is)
    (case q_abs => k_is)
    (case q_min => k_is)
    (case q_int => k_is)
    (case q_str => k_is)
    (case q_bool => k_is)
    (case q_tuple => k_is)
    (case q_list => k_is)
    (case q_sorted => k_is)
    (case q_repr => k_is)
    (case q_range => k_is)
    (case q_enumerate => k_is)
    (case q_zip => k_is)
    (case q_LETTERS => k_is)
    (case q_MOST_LETTERS => k_is)
    (case q_MOST_KINDS => k_is)
    (case q_MOST_PASSES => k_is)
    (case q_DIGITS => k_is)
    (case q_MOST_DIGITS => k_is)
    (case q_MARGIN => k_is)
    (case q_EMPTY => k_is)
#print axioms PySem.Challenge.cw_seedless_k80_texts_of_programs_holds
