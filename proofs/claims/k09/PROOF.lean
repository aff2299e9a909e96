import PyProof.Rows.All
import Wide.All
import OpenK.AllK
import Wide.FinOn
import HandS.ForMost
import HandS.Zip
import HandS.Deep
import HandS.IsInst
import HandS.Wide
import HandS.Conv
import HandS.FStr
import HandS.Walk
import HandS.TupAny
import KE.GoesMore
import KE.KFmtOwn
import PyProof.InstEq
import HandS.ExcCtx
import HandS.Defaults
import HandS.HeadHook2
import KE.KUnpackStar
import HandS.SortInts
import PySem.Str
import HandS.Lambda
import HandS.Head0
import HandS.Head1
import HandS.Head2
import HandS.HeadEnd
import HandS.HeadHook1
import HandS.Ends
import PySem.Challenge.RW_aheadfold_k09_whole_walkers_are_equal_wh
set_option Elab.async false
set_option linter.all false
set_option maxRecDepth 100000
/-! Z1: data trees, a persistent part of the heap, owned resources, and the tag states. -/
namespace Z
open PySem PySem.Spec PyProof.Rows L2
/-! ### data -/
inductive DD where
  | non
  | bl (b : Bool)
  | int (i : Int)
  | str (s : Str)
  | ty (n : String)
  | tup (xs : List DD)
  | tpl (xs : List DD)
  | lst (xs : List DD)
  | obj (C : Addr) (ns : List Str) (xs : List DD)
  | abs (φ : V → Hp → Prop) (m : ∀ v G G', Same G G' → φ v G → φ v G')
mutual
def Rep (G : Hp) : DD → V → Prop
  | .non, v => v = V.non
  | .bl b, v => v = V.bl b
  | .int i, v => v = V.int i
  | .str s, v => v = V.str s
  | .ty n, v => v = V.ty n
  | .abs φ _, v => φ v G
  | .tup xs, v => ∃ a vs, v = V.ref a ∧ Rd G a (.tup vs) ∧ RepL G xs vs
  | .tpl xs, v => ∃ a vs o, v = V.ref a ∧ (G a = some (.frz o (.tup vs)) ∧ o.dict = none) ∧ RepL G xs vs
  | .lst xs, v => ∃ a vs, v = V.ref a ∧ G a = some (.lst vs) ∧ RepL G xs vs
  | .obj C ns xs, v => ∃ a dx vs, v = V.ref a ∧ G a = some (.ins C dx (ns.zip vs)) ∧ ns.length = vs.length ∧ RepL G xs vs
def RepL (G : Hp) : List DD → List V → Prop
  | [], vs => vs = []
  | x :: xs, vs => ∃ v r, vs = v :: r ∧ Rep G x v ∧ RepL G xs r
end
theorem rd_mono {G G' : Hp} {a : Addr} {u : HO} (e : Same G G') (h : Rd G a u) : Rd G' a u := h.imp (e a u) fun ⟨o, q⟩ => ⟨o, e a _ q⟩
mutual
theorem Rep.mono {G G' : Hp} (e : Same G G') : ∀ (d : DD) (v : V), Rep G d v → Rep G' d v
  | .non, _, h => h
  | .bl _, _, h => h
  | .int _, _, h => h
  | .str _, _, h => h
  | .ty _, _, h => h
  | .abs _ m, v, h => m v G G' e h
  | .tup xs, _, h => by
    obtain ⟨a, vs, h1, h2, h3⟩ := h
    exact ⟨a, vs, h1, rd_mono e h2, RepL.mono e xs vs h3⟩
  | .tpl xs, _, h => by
    obtain ⟨a, vs, o, h1, h2, h3⟩ := h
    exact ⟨a, vs, o, h1, ⟨e _ _ h2.1, h2.2⟩, RepL.mono e xs vs h3⟩
  | .lst xs, _, h => by
    obtain ⟨a, vs, h1, h2, h3⟩ := h
    exact ⟨a, vs, h1, e _ _ h2, RepL.mono e xs vs h3⟩
  | .obj C ns xs, _, h => by
    obtain ⟨a, dx, vs, h1, h2, h4, h3⟩ := h
    exact ⟨a, dx, vs, h1, e _ _ h2, h4, RepL.mono e xs vs h3⟩
theorem RepL.mono {G G' : Hp} (e : Same G G') : ∀ (ds : List DD) (vs : List V), RepL G ds vs → RepL G' ds vs
  | [], _, h => h
  | d :: ds, _, h => by
    obtain ⟨v, r, h1, h2, h3⟩ := h
    exact ⟨v, r, h1, Rep.mono e d v h2, RepL.mono e ds r h3⟩
end
theorem RepL.length {G : Hp} : ∀ {ds : List DD} {vs : List V}, RepL G ds vs → vs.length = ds.length
  | [], _, h => congrArg List.length (show _ = [] from h)
  | d :: ds, _, h => by
    obtain ⟨v, r, h1, h2, h3⟩ := h
    rw [h1, List.length_cons, List.length_cons, RepL.length h3]
theorem RepL.get {G : Hp} : ∀ {ds : List DD} {vs : List V} {i : Nat} {d : DD}, RepL G ds vs → ds[i]? = some d → ∃ v, vs[i]? = some v ∧ Rep G d v
  | [], _, i, d, _, h => by simp at h
  | d :: ds, _, 0, e, h, q => by
    obtain ⟨v, r, rfl, h2, h3⟩ := h
    have eq : d = e := by simpa using q
    subst eq
    exact ⟨v, rfl, h2⟩
  | d :: ds, _, i + 1, e, h, q => by
    obtain ⟨v, r, rfl, h2, h3⟩ := h
    obtain ⟨u, h4, h5⟩ := RepL.get (i := i) h3 (by simpa using q)
    exact ⟨u, by simpa using h4, h5⟩
theorem RepL.nil {G : Hp} : RepL G [] [] := rfl
theorem RepL.cons {G : Hp} {d : DD} {ds : List DD} {v : V} {vs : List V} (h : Rep G d v) (t : RepL G ds vs) : RepL G (d :: ds) (v :: vs) := ⟨v, vs, rfl, h, t⟩
theorem RepL.append {G : Hp} : ∀ {ds es : List DD} {vs ws : List V}, RepL G ds vs → RepL G es ws → RepL G (ds ++ es) (vs ++ ws)
  | [], _, _, _, h, q => by
    have e : _ = [] := h
    rw [e]
    exact q
  | d :: ds, _, _, _, h, q => by
    obtain ⟨v, r, rfl, h2, h3⟩ := h
    exact RepL.cons h2 (RepL.append h3 q)
theorem RepL.set {G : Hp} {d : DD} {v : V} (h : Rep G d v) : ∀ {ds : List DD} {vs : List V} (i : Nat), RepL G ds vs → RepL G (ds.set i d) (vs.set i v)
  | [], _, i, q => by
    have e : _ = [] := q
    rw [e]
    rfl
  | e :: ds, _, 0, q => by
    obtain ⟨u, r, rfl, h2, h3⟩ := q
    exact RepL.cons h h3
  | e :: ds, _, i + 1, q => by
    obtain ⟨u, r, rfl, h2, h3⟩ := q
    exact RepL.cons h2 (RepL.set h i h3)
theorem RepL.erase {G : Hp} : ∀ {ds : List DD} {vs : List V} (i : Nat), RepL G ds vs → RepL G (ds.eraseIdx i) (vs.eraseIdx i)
  | [], _, i, q => by
    have e : _ = [] := q
    rw [e]
    rfl
  | e :: ds, _, 0, q => by
    obtain ⟨u, r, rfl, h2, h3⟩ := q
    exact h3
  | e :: ds, _, i + 1, q => by
    obtain ⟨u, r, rfl, h2, h3⟩ := q
    exact RepL.cons h2 (RepL.erase i h3)
theorem RepL.take {G : Hp} : ∀ {ds : List DD} {vs : List V} (n : Nat), RepL G ds vs → RepL G (ds.take n) (vs.take n)
  | _, _, 0, _ => rfl
  | [], _, n + 1, q => by
    have e : _ = [] := q
    rw [e]
    rfl
  | e :: ds, _, n + 1, q => by
    obtain ⟨u, r, rfl, h2, h3⟩ := q
    exact RepL.cons h2 (RepL.take n h3)
theorem RepL.drop {G : Hp} : ∀ {ds : List DD} {vs : List V} (n : Nat), RepL G ds vs → RepL G (ds.drop n) (vs.drop n)
  | _, _, 0, q => q
  | [], _, n + 1, q => by
    have e : _ = [] := q
    rw [e]
    rfl
  | e :: ds, _, n + 1, q => by
    obtain ⟨u, r, rfl, h2, h3⟩ := q
    exact RepL.drop n h3
theorem RepL.dropLast {G : Hp} {ds : List DD} {vs : List V} (h : RepL G ds vs) : RepL G ds.dropLast vs.dropLast := by
  rw [List.dropLast_eq_take, List.dropLast_eq_take, h.length]
  exact h.take _
theorem RepL.ints {G : Hp} : ∀ {ns : List Int} {vs : List V}, RepL G (ns.map DD.int) vs → vs = ns.map V.int
  | [], _, h => h
  | n :: ns, _, h => by
    obtain ⟨v, r, rfl, h2, h3⟩ := h
    rw [RepL.ints h3]
    exact congrArg (· :: _) h2
theorem RepL.of_ints {G : Hp} : ∀ (ns : List Int), RepL G (ns.map DD.int) (ns.map V.int)
  | [] => rfl
  | n :: ns => RepL.cons rfl (RepL.of_ints ns)
theorem RepL.bls {G : Hp} : ∀ {bs : List Bool} {vs : List V}, RepL G (bs.map DD.bl) vs → vs = bs.map V.bl
  | [], _, h => h
  | n :: ns, _, h => by
    obtain ⟨v, r, rfl, h2, h3⟩ := h
    rw [RepL.bls h3]
    exact congrArg (· :: _) h2
theorem RepL.strs {G : Hp} : ∀ {bs : List Str} {vs : List V}, RepL G (bs.map DD.str) vs → vs = bs.map V.str
  | [], _, h => h
  | n :: ns, _, h => by
    obtain ⟨v, r, rfl, h2, h3⟩ := h
    rw [RepL.strs h3]
    exact congrArg (· :: _) h2
/-! ### growth with a frame -/
structure Fr (X : Addr → Prop) (G H G' H' : Hp) : Prop where
  g : Same G G'
  h : ∀ a o, H a = some o → ¬ X a → H' a = some o
  n : ∀ a, G a = none → H a ≠ none → ¬ X a → G' a = none
  t : ∀ a, H a ≠ none → H' a ≠ none
def No : Addr → Prop := fun _ => False
theorem Fr.refl {X : Addr → Prop} {G H : Hp} : Fr X G H G H := ⟨Same.refl G, fun _ _ h _ => h, fun _ h _ _ => h, fun _ h => h⟩
theorem Fr.trans {X Y : Addr → Prop} {G H G1 H1 G2 H2 : Hp} (a : Fr X G H G1 H1) (b : Fr Y G1 H1 G2 H2) (s : ∀ a, Y a → X a ∨ H a = none) : Fr X G H G2 H2 :=
  ⟨a.g.trans b.g, fun p o h nx => b.h p o (a.h p o h nx) fun y => (s p y).elim nx fun z => (by
    rw [h] at z
    cases z), fun p h q nx => b.n p (a.n p h q nx) (a.t p q) (fun y => (s p y).elim nx q), fun p h => b.t p (a.t p h)⟩
theorem Fr.mono {X Y : Addr → Prop} {G H G1 H1 : Hp} (a : Fr X G H G1 H1) (s : ∀ a, X a → Y a) : Fr Y G H G1 H1 :=
  ⟨a.g, fun p o h ny => a.h p o h fun x => ny (s p x), fun p h q ny => a.n p h q fun x => ny (s p x), a.t⟩
theorem Fr.same {G H G1 H1 : Hp} (a : Fr No G H G1 H1) : Same H H1 := fun p o h => a.h p o h fun z => z
theorem ne_none {H : Hp} {a : Addr} {o : HO} (h : H a = some o) : H a ≠ none := by
  rw [h]
  exact fun z => nomatch z
/-- a new object, put into both parts -/
theorem Fr.both {G H : Hp} {p : Addr} {o : HO} (e : Same G H) (hp : H p = none) : Fr No G H (upd G p o) (upd H p o) where
  g := fun a u h => by
    rw [upd_ne (ne_of_none (e a u h) hp)]
    exact h
  h := fun a u h _ => by
    rw [upd_ne (ne_of_none h hp)]
    exact h
  n := fun a h q _ => by
    rw [upd_ne (fun z => q (by rw [z]; exact hp))]
    exact h
  t := fun a q => by
    rw [upd_ne (fun z => q (by rw [z]; exact hp))]
    exact q
/-- a new object, kept out of the persistent part -/
theorem Fr.new {G H : Hp} {p : Addr} {o : HO} (hp : H p = none) : Fr No G H G (upd H p o) where
  g := Same.refl G
  h := fun a u h _ => by
    rw [upd_ne (ne_of_none h hp)]
    exact h
  n := fun a h _ _ => h
  t := fun a q => by
    rw [upd_ne (fun z => q (by rw [z]; exact hp))]
    exact q
def isTp : HO → Prop
  | .tup _ => True
  | .frz _ (.tup _) => True
  | _ => False
/-- every tuple is in the persistent part -/
def Tu (G H : Hp) : Prop := ∀ a u, isTp u → H a = some u → G a = some u
theorem Tu.both {G H : Hp} {p : Addr} {o : HO} (h : Tu G H) : Tu (upd G p o) (upd H p o) := fun a u t q => by
  by_cases e : a = p
  · subst e
    rw [upd_same] at q ⊢
    exact q
  · rw [upd_ne e] at q ⊢
    exact h a u t q
theorem Tu.new {G H : Hp} {p : Addr} {o : HO} (h : Tu G H) (ho : ¬ isTp o) : Tu G (upd H p o) := fun a u t q => by
  by_cases e : a = p
  · subst e
    rw [upd_same] at q
    cases q
    exact absurd t ho
  · rw [upd_ne e] at q
    exact h a u t q
theorem Tu.rd {G H : Hp} {a : Addr} {vs : List V} (t : Tu G H) (h : Rd H a (.tup vs)) : Rd G a (.tup vs) := h.imp (t a _ True.intro) fun ⟨o, q⟩ => ⟨o, t a _ True.intro q⟩
theorem same_both {G H : Hp} {p : Addr} {o : HO} (e : Same G H) : Same (upd G p o) (upd H p o) := fun a u q => by
  by_cases z : a = p
  · subst z
    rw [upd_same] at q ⊢
    exact q
  · rw [upd_ne z] at q ⊢
    exact e a u q
theorem same_new {G H : Hp} {p : Addr} {o : HO} (e : Same G H) (hp : H p = none) : Same G (upd H p o) := fun a u q => by
  rw [upd_ne (ne_of_none (e a u q) hp)]
  exact e a u q
theorem same_own {G H : Hp} {p : Addr} {o : HO} (e : Same G H) (hp : G p = none) : Same G (upd H p o) := fun a u q => by
  rw [upd_ne (ne_of_none q hp)]
  exact e a u q
/-! ### resources and tags -/
structure Rsc where
  φ : V → Hp → Hp → (Addr → Prop) → Prop
  mono : ∀ v G H A G' H', φ v G H A → Same G G' → (∀ a, A a → H' a = H a) → φ v G' H' A
/-- a list that is one's own: at p, of data -/
def ownL (ds : List DD) : Rsc where
  φ := fun v G H A => ∃ p vs, v = V.ref p ∧ H p = some (.lst vs) ∧ RepL G ds vs ∧ A = (fun a => a = p)
  mono := fun v G H A G' H' h e k => by
    obtain ⟨p, vs, h1, h2, h3, rfl⟩ := h
    exact ⟨p, vs, h1, by rw [k p rfl]; exact h2, h3.mono e _ _, rfl⟩
/-- an instance that is one's own -/
def ownI (C : Addr) (ns : List Str) (xs : List DD) : Rsc where
  φ := fun v G H A => ∃ p dx vs, v = V.ref p ∧ H p = some (.ins C dx (ns.zip vs)) ∧ ns.length = vs.length ∧ RepL G xs vs ∧ A = (fun a => a = p)
  mono := fun v G H A G' H' h e k => by
    obtain ⟨p, dx, vs, h1, h2, h4, h3, rfl⟩ := h
    exact ⟨p, dx, vs, h1, by rw [k p rfl]; exact h2, h4, h3.mono e _ _, rfl⟩
inductive Tg where
  | dat (d : DD)
  | vol (d : DD)
  | tmp (d : DD)
  | res (l : Bool) (R : Rsc)
  | ali (i : Nat)
abbrev Lc := List (Option Tg)
structure Cfg where
  X : Addr → Prop
  G0 : Hp
  H0 : Hp
  P : List (Nat × V)
/-- what a slot says (but resources) -/
def Sl (c : Cfg) (G : Hp) : Tg → V → Prop
  | .dat d, v => Rep G d v
  | .vol d, v => ∃ Gv : Hp, (∀ a o, Gv a = some o → c.H0 a = some o ∧ ¬ c.X a) ∧ Rep Gv d v
  | _, _ => True
structure Ok (c : Cfg) (τ : Lc) (σ : L2.St) (G H : Hp) (F : Nat → Addr → Prop) : Prop where
  ex : Same G H
  tu : Tu G H
  fr : Fr c.X c.G0 c.H0 G H
  len : σ.length = τ.length
  sl : ∀ (i : Nat) (t : Tg), τ[i]? = some (some t) → ∃ v, σ[i]? = some (some v) ∧ Sl c G t v
  rs : ∀ (i : Nat) (l : Bool) (R : Rsc), τ[i]? = some (some (.res l R)) → ∃ v, σ[i]? = some (some v) ∧ R.φ v G H (F i)
  own : ∀ (i : Nat) (a : Addr), F i a → H a ≠ none ∧ G a = none ∧ ∃ l R, τ[i]? = some (some (.res l R)) ∧ (c.H0 a = none ∨ (l = false ∧ c.X a))
  dj : ∀ (i j : Nat) (a : Addr), i ≠ j → F i a → F j a → False
  pn : ∀ p ∈ c.P, σ[p.1]? = some (some p.2) ∧ ∃ R, τ[p.1]? = some (some (.res false R))
/-- what may have been changed -/
def Mt (b : Bool) (F : Nat → Addr → Prop) : Addr → Prop := fun a => b = false ∧ ∃ i, F i a
structure Go (b : Bool) (c : Cfg) (τ' : Lc) (σ : L2.St) (G H : Hp) (F : Nat → Addr → Prop) (G' H' : Hp) (F' : Nat → Addr → Prop) : Prop where
  ok : Ok c τ' σ G' H' F'
  fr : Fr (Mt b F) G H G' H'
  fp : ∀ i a, F' i a → F i a ∨ H a = none
/-- what is known of a value in flight -/
def Rs (c : Cfg) (σ : L2.St) (H G' H' : Hp) (F' : Nat → Addr → Prop) : Tg → V → Prop
  | .dat d, v => Rep G' d v
  | .vol d, v => ∃ Gv : Hp, (∀ a o, Gv a = some o → c.H0 a = some o ∧ ¬ c.X a) ∧ Rep Gv d v
  | .tmp d, v => Rep H' d v
  | .res l R, v => l = true ∧ ∃ A, R.φ v G' H' A ∧ ∀ a, A a → H a = none ∧ H' a ≠ none ∧ G' a = none ∧ ∀ i, ¬ F' i a
  | .ali i, v => σ[i]? = some (some v)
/-- a value that stays known though owned things change -/
def stb : Tg → Bool → Bool
  | .tmp _, b => b
  | _, _ => true
section
variable {c : Cfg} {τ τ1 τ2 : Lc} {σ : L2.St} {G H G1 H1 G2 H2 : Hp} {F F1 F2 : Nat → Addr → Prop} {b b1 b2 : Bool}
theorem Ok.grow (o : Ok c τ σ G H F) (f : Fr No G H G1 H1) (e : Same G1 H1) (t : Tu G1 H1) : Ok c τ σ G1 H1 F where
  ex := e
  tu := t
  fr := o.fr.trans f fun _ z => z.elim
  len := o.len
  sl := fun i t h => by
    obtain ⟨v, h1, h2⟩ := o.sl i t h
    refine ⟨v, h1, ?_⟩
    cases t with
    | dat d => exact Rep.mono f.g d v h2
    | vol d => exact h2
    | tmp d => exact h2
    | res l R => exact h2
    | ali i => exact h2
  rs := fun i l R h => by
    obtain ⟨v, h1, h2⟩ := o.rs i l R h
    refine ⟨v, h1, R.mono v G H _ G1 H1 h2 f.g fun a ha => ?_⟩
    have q := (o.own i a ha).1
    cases z : H a with
    | none => exact absurd z q
    | some u => exact f.same a u z
  own := fun i a h => by
    obtain ⟨h1, h2, h3⟩ := o.own i a h
    exact ⟨f.t a h1, f.n a h2 h1 (fun z => z), h3⟩
  dj := o.dj
  pn := o.pn
theorem Go.refl (o : Ok c τ σ G H F) : Go b c τ σ G H F G H F := ⟨o, Fr.refl, fun _ _ h => .inl h⟩
theorem Go.grow (o : Ok c τ σ G H F) (f : Fr No G H G1 H1) (e : Same G1 H1) (t : Tu G1 H1) : Go true c τ σ G H F G1 H1 F :=
  ⟨o.grow f e t, f.mono fun _ z => z.elim, fun _ _ h => .inl h⟩
theorem Go.trans (a : Go b1 c τ1 σ G H F G1 H1 F1) (b : Go b2 c τ2 σ G1 H1 F1 G2 H2 F2) : Go (b1 && b2) c τ2 σ G H F G2 H2 F2 := by
  refine ⟨b.ok, Fr.trans (a.fr.mono fun p z => ?_) b.fr fun p z => ?_, fun i p z => ?_⟩
  · obtain ⟨z1, z2⟩ := z
    exact ⟨by rw [z1]; rfl, z2⟩
  · obtain ⟨z1, i, z2⟩ := z
    rcases a.fp i p z2 with q | q
    · exact .inl ⟨by rw [z1, Bool.and_false], i, q⟩
    · exact .inr q
  · rcases b.fp i p z with q | q
    · exact a.fp i p q
    · refine .inr ?_
      cases w : H p with
      | none => rfl
      | some u => exact absurd q (a.fr.t p (ne_none w))
theorem Rs.keep {r : Tg} {v : V} (h : Rs c σ H G1 H1 F1 r v) (g : Go b2 c τ2 σ G1 H1 F1 G2 H2 F2) (s : stb r b2 = true) : Rs c σ H G2 H2 F2 r v := by
  cases r with
  | dat d => exact Rep.mono g.fr.g d v h
  | vol d => exact h
  | tmp d =>
    have e : b2 = true := s
    subst e
    exact Rep.mono (g.fr.mono (Y := No) fun _ z => nomatch z.1).same d v h
  | res l R =>
    obtain ⟨h1, A, h2, h3⟩ := h
    have same : ∀ a, A a → H2 a = H1 a := fun a ha => by
      obtain ⟨q1, q2, q3, q4⟩ := h3 a ha
      cases z : H1 a with
      | none => exact absurd z q2
      | some u => exact g.fr.h a u z fun m => q4 m.2.choose m.2.choose_spec
    refine ⟨h1, A, R.mono v _ _ A _ _ h2 g.fr.g same, fun a ha => ?_⟩
    obtain ⟨q1, q2, q3, q4⟩ := h3 a ha
    refine ⟨q1, g.fr.t a q2, g.fr.n a q3 q2 (fun m => q4 m.2.choose m.2.choose_spec), fun i z => ?_⟩
    rcases g.fp i a z with y | y
    · exact q4 i y
    · exact q2 y
  | ali i => exact h
/-- seen from an earlier heap -/
theorem Rs.from {r : Tg} {v : V} (h : Rs c σ H1 G2 H2 F2 r v) (t : ∀ a, H a ≠ none → H1 a ≠ none) : Rs c σ H G2 H2 F2 r v := by
  cases r with
  | dat d => exact h
  | vol d => exact h
  | tmp d => exact h
  | res l R =>
    obtain ⟨h1, A, h2, h3⟩ := h
    refine ⟨h1, A, h2, fun a ha => ?_⟩
    obtain ⟨q1, q2⟩ := h3 a ha
    refine ⟨?_, q2⟩
    cases z : H a with
    | none => rfl
    | some u => exact absurd q1 (t a (ne_none z))
  | ali i => exact h
end
/-! ### what an expression gives -/
def W (c : Cfg) (te : TE) (τ : Lc) (Φ : Tg → Lc → Bool → Prop) : Prop := ∀ (σ : L2.St) (G H : Hp) (F : Nat → Addr → Prop), Ok c τ σ G H F → ∀ Q : VK,
  (∀ v G' H' F' r τ' b, Φ r τ' b → Go b c τ' σ G H F G' H' F' → Rs c σ H G' H' F' r v → Q v H') → te σ H Q
def WA (c : Cfg) (ta : TA) (τ : Lc) (Φ : List Tg → Lc → Bool → Prop) : Prop := ∀ (σ : L2.St) (G H : Hp) (F : Nat → Addr → Prop), Ok c τ σ G H F → ∀ Q : List V → Hp → Prop,
  (∀ vs G' H' F' rs τ' b, Φ rs τ' b → Go b c τ' σ G H F G' H' F' → Paired (Rs c σ H G' H' F') rs vs → Q vs H') → ta σ H Q
def WT (c : Cfg) (tt : TT) (τ : Lc) (Φ : Bool → Lc → Bool → Prop) : Prop := ∀ (σ : L2.St) (G H : Hp) (F : Nat → Addr → Prop), Ok c τ σ G H F → ∀ Q : Bool → Hp → Prop,
  (∀ k G' H' F' τ' b, Φ k τ' b → Go b c τ' σ G H F G' H' F' → Q k H') → tt σ H Q
section
variable {c : Cfg} {τ : Lc} {Φ : Tg → Lc → Bool → Prop} {te ta tb : TE} {i : Nat} {d e f : DD}
theorem W.imp {Φ' : Tg → Lc → Bool → Prop} (h : W c te τ Φ) (k : ∀ r τ' b, Φ r τ' b → Φ' r τ' b) : W c te τ Φ' := fun σ G H F o Q q => h σ G H F o Q fun v G' H' F' r τ' b p => q v G' H' F' r τ' b (k r τ' b p)
theorem w_var {t : Tg} (h : τ[i]? = some (some t)) (hd : ∀ l R, t ≠ .res l R) (ht : ∀ d, t ≠ .tmp d) (ha : ∀ i, t ≠ .ali i) (k : Φ t τ true) : W c (tVar i) τ Φ := fun σ G H F o Q q => by
  obtain ⟨v, h1, h2⟩ := o.sl i t h
  refine ⟨v, h1, q v G H F t τ true k (Go.refl o) ?_⟩
  cases t with
  | dat d => exact h2
  | vol d => exact h2
  | tmp d => exact absurd rfl (ht d)
  | res l R => exact absurd rfl (hd l R)
  | ali i => exact absurd rfl (ha i)
theorem w_varD (h : τ[i]? = some (some (.dat d))) (k : Φ (.dat d) τ true) : W c (tVar i) τ Φ := w_var h (fun _ _ z => nomatch z) (fun _ z => nomatch z) (fun _ z => nomatch z) k
theorem w_varV (h : τ[i]? = some (some (.vol d))) (k : Φ (.vol d) τ true) : W c (tVar i) τ Φ := w_var h (fun _ _ z => nomatch z) (fun _ z => nomatch z) (fun _ z => nomatch z) k
theorem w_varR {l : Bool} {R : Rsc} (h : τ[i]? = some (some (.res l R))) (k : Φ (.ali i) τ true) : W c (tVar i) τ Φ := fun σ G H F o Q q => by
  obtain ⟨v, h1, h2⟩ := o.rs i l R h
  exact ⟨v, h1, q v G H F (.ali i) τ true k (Go.refl o) h1⟩
theorem w_int {n : Int} (k : Φ (.dat (.int n)) τ true) : W c (tC (.int n)) τ Φ := fun σ G H F o Q q => q _ G H F (.dat (.int n)) τ true k (Go.refl o) rfl
theorem w_bl {n : Bool} (k : Φ (.dat (.bl n)) τ true) : W c (tC (.bl n)) τ Φ := fun σ G H F o Q q => q _ G H F (.dat (.bl n)) τ true k (Go.refl o) rfl
theorem w_str {n : Str} (k : Φ (.dat (.str n)) τ true) : W c (tC (.str n)) τ Φ := fun σ G H F o Q q => q _ G H F (.dat (.str n)) τ true k (Go.refl o) rfl
theorem w_non (k : Φ (.dat .non) τ true) : W c (tC .non) τ Φ := fun σ G H F o Q q => q _ G H F (.dat .non) τ true k (Go.refl o) rfl
theorem w_ty {n : String} (k : Φ (.dat (.ty n)) τ true) : W c (tC (.ty n)) τ Φ := fun σ G H F o Q q => q _ G H F (.dat (.ty n)) τ true k (Go.refl o) rfl
/-! two-place operators -/
/-- on data: the result data too -/
def Op2 (r : R2) (d e f : DD) : Prop := ∀ (G H : Hp) (x y : V), Same G H → Tu G H → Rep H d x → Rep H e y → ∀ Q : VK, (∀ z G' H', Fr No G H G' H' → Same G' H' → Tu G' H' → Rep G' f z → Q z H') → r x y H Q
/-- a value in flight as data of the heap at hand -/
inductive Dv (τ : Lc) : Tg → DD → Prop
  | dat {d : DD} : Dv τ (.dat d) d
  | vol {d : DD} : Dv τ (.vol d) d
  | tmp {d : DD} : Dv τ (.tmp d) d
  | fre {ds : List DD} : Dv τ (.res true (ownL ds)) (.lst ds)
  | ali {i : Nat} {l : Bool} {ds : List DD} (h : τ[i]? = some (some (.res l (ownL ds)))) : Dv τ (.ali i) (.lst ds)
  | own {i : Nat} {l : Bool} {R : Rsc} {d : DD} (h : τ[i]? = some (some (.res l R))) (k : ∀ v G H A, Same G H → R.φ v G H A → Rep H d v) : Dv τ (.ali i) d
  | new {R : Rsc} {d : DD} (k : ∀ v G H A, Same G H → R.φ v G H A → Rep H d v) : Dv τ (.res true R) d
theorem Dv.rep {c : Cfg} {σ : L2.St} {H0 G H : Hp} {F : Nat → Addr → Prop} {r : Tg} {d : DD} {v : V} (h : Dv τ r d) (o : Ok c τ σ G H F) (q : Rs c σ H0 G H F r v) : Rep H d v := by
  cases h with
  | dat => exact Rep.mono o.ex d v q
  | vol =>
    obtain ⟨Gv, h1, h2⟩ := q
    exact Rep.mono (fun a u z => o.fr.h a u (h1 a u z).1 (h1 a u z).2) d v h2
  | tmp => exact q
  | fre =>
    obtain ⟨_, A, ⟨p, vs, h1, h2, h3, _⟩, _⟩ := q
    exact ⟨p, vs, h1, h2, h3.mono o.ex _ _⟩
  | ali h =>
    obtain ⟨u, h1, p, vs, h2, h3, h4, _⟩ := o.rs _ _ _ h
    have e : u = v := by
      have q' : σ[_]? = some (some v) := q
      rw [h1] at q'
      exact Option.some.inj (Option.some.inj q')
    subst e
    exact ⟨p, vs, h2, h3, h4.mono o.ex _ _⟩
  | own h k =>
    obtain ⟨u, h1, h2⟩ := o.rs _ _ _ h
    have e : u = v := by
      have q' : σ[_]? = some (some v) := q
      rw [h1] at q'
      exact Option.some.inj (Option.some.inj q')
    subst e
    exact k _ _ _ _ o.ex h2
  | new k =>
    obtain ⟨_, A, h2, _⟩ := q
    exact k _ _ _ _ o.ex h2
theorem w_op {r : R2} (h : W c ta τ fun x τ1 b1 => W c tb τ1 fun y τ2 b2 => stb x b2 = true ∧ ∃ d e f, Dv τ2 x d ∧ Dv τ2 y e ∧ Op2 r d e f ∧ Φ (.dat f) τ2 (b1 && b2)) : W c (tOp r ta tb) τ Φ := fun σ G H F o Q q =>
  h σ G H F o _ fun x G1 H1 F1 rx τ1 b1 p1 g1 s1 => p1 σ G1 H1 F1 g1.ok _ fun y G2 H2 F2 ry τ2 b2 p2 g2 s2 => by
    obtain ⟨hs, d, e, f, hd, he, hop, k⟩ := p2
    refine hop G2 H2 x y g2.ok.ex g2.ok.tu (hd.rep g2.ok (s1.keep g2 hs)) (he.rep g2.ok s2) Q fun z G3 H3 f3 e3 t3 r3 => ?_
    have g3 := Go.grow g2.ok f3 e3 t3
    have gg := (g1.trans g2).trans g3
    rw [Bool.and_true] at gg
    exact q z G3 H3 F2 (.dat f) τ2 _ k gg r3
/-- the same, all clean and no slot changed: by values -/
def Op1 (r : V → Hp → VK → Prop) (d f : DD) : Prop := ∀ (G H : Hp) (x : V), Same G H → Tu G H → Rep H d x → ∀ Q : VK, (∀ z G' H', Fr No G H G' H' → Same G' H' → Tu G' H' → Rep G' f z → Q z H') → r x H Q
theorem w_un {r : V → Hp → VK → Prop} (h : W c ta τ fun x τ1 b1 => ∃ d f, Dv τ1 x d ∧ Op1 r d f ∧ Φ (.dat f) τ1 b1) : W c (tUn r ta) τ Φ := fun σ G H F o Q q =>
  h σ G H F o _ fun x G1 H1 F1 rx τ1 b1 p1 g1 s1 => by
    obtain ⟨d, f, hd, hop, k⟩ := p1
    refine hop G1 H1 x g1.ok.ex g1.ok.tu (hd.rep g1.ok s1) Q fun z G3 H3 f3 e3 t3 r3 => ?_
    have gg := g1.trans (Go.grow g1.ok f3 e3 t3)
    rw [Bool.and_true] at gg
    exact q z G3 H3 F1 (.dat f) τ1 _ k gg r3
/-! argument lists -/
variable {ΦA : List Tg → Lc → Bool → Prop} {t : TA}
theorem wa_nil (k : ΦA [] τ true) : WA c tNil τ ΦA := fun σ G H F o Q q => q [] G H F [] τ true k (Go.refl o) .nil
theorem wa_cons (h : W c ta τ fun x τ1 b1 => WA c t τ1 fun xs τ2 b2 => stb x b2 = true ∧ ΦA (x :: xs) τ2 (b1 && b2)) : WA c (tCons ta t) τ ΦA := fun σ G H F o Q q =>
  h σ G H F o _ fun x G1 H1 F1 rx τ1 b1 p1 g1 s1 => p1 σ G1 H1 F1 g1.ok _ fun xs G2 H2 F2 rs τ2 b2 p2 g2 s2 =>
    q (x :: xs) G2 H2 F2 (rx :: rs) τ2 _ p2.2 (g1.trans g2) (.cons (s1.keep g2 p2.1) (Paired.mapP s2 fun r v z => Rs.from z g1.fr.t))
/-- a new list in flight is frozen -/
theorem w_frz (h : W c te τ fun x τ1 b1 => ∃ ds, x = .res true (ownL ds) ∧ Φ (.dat (.lst ds)) τ1 b1) : W c te τ Φ := fun σ G H F o Q q =>
  h σ G H F o _ fun x G1 H1 F1 rx τ1 b1 p1 g1 s1 => by
    obtain ⟨ds, rfl, k⟩ := p1
    obtain ⟨_, A, ⟨p, vs, rfl, h2, h3, rfl⟩, h4⟩ := s1
    obtain ⟨q1, q2, q3, q4⟩ := h4 p rfl
    have eg : Same G1 (upd G1 p (.lst vs)) := fun a u z => by
      rw [upd_ne (ne_of_none z q3)]
      exact z
    have eh : Same (upd G1 p (.lst vs)) H1 := fun a u z => by
      by_cases e : a = p
      · subst e
        rw [upd_same] at z
        rw [← z]
        exact h2
      · rw [upd_ne e] at z
        exact g1.ok.ex a u z
    have nn : ∀ a, G1 a = none → a ≠ p → upd G1 p (.lst vs) a = none := fun a z e => by
      rw [upd_ne e]
      exact z
    have okk : Ok c τ1 σ (upd G1 p (.lst vs)) H1 F1 := {
      ex := eh
      tu := fun a u t z => eg a _ (g1.ok.tu a u t z)
      fr := ⟨g1.ok.fr.g.trans eg, g1.ok.fr.h, fun a z w nx => nn a (g1.ok.fr.n a z w nx) (fun e => by
          subst e
          cases y : H a with
          | none => exact (by
              have := g1.ok.fr.t a w
              have y2 : c.H0 a ≠ none := w
              exact absurd y (o.fr.t a w))
          | some u => rw [y] at q1; cases q1), g1.ok.fr.t⟩
      len := g1.ok.len
      sl := fun i t z => by
        obtain ⟨v, z1, z2⟩ := g1.ok.sl i t z
        refine ⟨v, z1, ?_⟩
        cases t with
        | dat d => exact Rep.mono eg d v z2
        | vol d => exact z2
        | tmp d => exact z2
        | res l R => exact z2
        | ali i => exact z2
      rs := fun i l R z => by
        obtain ⟨v, z1, z2⟩ := g1.ok.rs i l R z
        exact ⟨v, z1, R.mono v _ _ _ _ _ z2 eg fun _ _ => rfl⟩
      own := fun i a z => by
        obtain ⟨z1, z2, z3⟩ := g1.ok.own i a z
        exact ⟨z1, nn a z2 (fun e => by subst e; exact q4 i z), z3⟩
      dj := g1.ok.dj
      pn := g1.ok.pn }
    refine q _ (upd G1 p (.lst vs)) H1 F1 (.dat (.lst ds)) τ1 b1 k ⟨okk, ⟨g1.fr.g.trans eg, g1.fr.h, fun a z w nx => nn a (g1.fr.n a z w nx) (fun e => by subst e; exact w q1), g1.fr.t⟩, g1.fp⟩ ?_
    exact ⟨p, vs, rfl, upd_same, h3.mono eg _ _⟩
end
end Z
set_option Elab.async false
set_option linter.all false
set_option maxRecDepth 100000
/-! Z2: expressions, statements, calls. -/
namespace Z
open PySem PySem.Spec PyProof.Rows L2
section
variable {c : Cfg} {τ : Lc} {Φ : Tg → Lc → Bool → Prop} {ΦT : Bool → Lc → Bool → Prop} {ΦA : List Tg → Lc → Bool → Prop} {te ta tb tc : TE} {t : TA} {u v : TT} {i : Nat} {d e f : DD}
/-! ### tests -/
theorem wt_test (h : W c te τ fun r τ1 b1 => ∃ k, r = .dat (.bl k) ∧ ΦT k τ1 b1) : WT c (tTest te) τ ΦT := fun σ G H F o Q q =>
  h σ G H F o _ fun x G1 H1 F1 rx τ1 b1 p1 g1 s1 => by
    obtain ⟨k, rfl, p⟩ := p1
    exact ⟨k, s1, q k G1 H1 F1 τ1 b1 p g1⟩
theorem wt_B (h : W c te τ fun r τ1 b1 => ∃ k, r = .dat (.bl k) ∧ ΦT k τ1 b1) : WT c (tB te) τ ΦT := wt_test h
theorem wt_and (h : WT c u τ fun k τ1 b1 => if k = true then WT c v τ1 fun k2 τ2 b2 => ΦT k2 τ2 (b1 && b2) else ΦT false τ1 b1) : WT c (tAnd u v) τ ΦT := fun σ G H F o Q q =>
  h σ G H F o _ fun k G1 H1 F1 τ1 b1 p1 g1 => by
    cases k with
    | false => exact q false G1 H1 F1 τ1 b1 p1 g1
    | true =>
      have p1 : WT c v τ1 fun k2 τ2 b2 => ΦT k2 τ2 (b1 && b2) := p1
      exact p1 σ G1 H1 F1 g1.ok _ fun k2 G2 H2 F2 τ2 b2 p2 g2 => q k2 G2 H2 F2 τ2 _ p2 (g1.trans g2)
theorem wt_or (h : WT c u τ fun k τ1 b1 => if k = true then ΦT true τ1 b1 else WT c v τ1 fun k2 τ2 b2 => ΦT k2 τ2 (b1 && b2)) : WT c (tOr u v) τ ΦT := fun σ G H F o Q q =>
  h σ G H F o _ fun k G1 H1 F1 τ1 b1 p1 g1 => by
    cases k with
    | true => exact q true G1 H1 F1 τ1 b1 p1 g1
    | false =>
      have p1 : WT c v τ1 fun k2 τ2 b2 => ΦT k2 τ2 (b1 && b2) := p1
      exact p1 σ G1 H1 F1 g1.ok _ fun k2 G2 H2 F2 τ2 b2 p2 g2 => q k2 G2 H2 F2 τ2 _ p2 (g1.trans g2)
theorem wt_not (h : WT c u τ fun k τ1 b1 => ΦT (!k) τ1 b1) : WT c (tNot u) τ ΦT := fun σ G H F o Q q =>
  h σ G H F o _ fun k G1 H1 F1 τ1 b1 p1 g1 => q (!k) G1 H1 F1 τ1 b1 p1 g1
theorem wt_yes (k : ΦT true τ true) : WT c tYes τ ΦT := fun σ G H F o Q q => q true G H F τ true k (Go.refl o)
theorem WT.imp {Φ' : Bool → Lc → Bool → Prop} (h : WT c u τ ΦT) (k : ∀ r τ' b, ΦT r τ' b → Φ' r τ' b) : WT c u τ Φ' := fun σ G H F o Q q => h σ G H F o Q fun v G' H' F' τ' b p => q v G' H' F' τ' b (k v τ' b p)
theorem WA.imp {Φ' : List Tg → Lc → Bool → Prop} (h : WA c t τ ΦA) (k : ∀ r τ' b, ΦA r τ' b → Φ' r τ' b) : WA c t τ Φ' := fun σ G H F o Q q => h σ G H F o Q fun v G' H' F' r τ' b p => q v G' H' F' r τ' b (k r τ' b p)
/-! ### and, or, not, if as values -/
theorem w_andV (h : W c ta τ fun r τ1 b1 => ∃ k, r = .dat (.bl k) ∧ if k = true then W c tb τ1 fun r2 τ2 b2 => Φ r2 τ2 (b1 && b2) else Φ (.dat (.bl false)) τ1 b1) : W c (tAndV ta tb) τ Φ := fun σ G H F o Q q =>
  h σ G H F o _ fun x G1 H1 F1 rx τ1 b1 p1 g1 s1 => by
    obtain ⟨k, rfl, p1⟩ := p1
    refine ⟨k, s1, ?_⟩
    cases k with
    | false => exact q _ G1 H1 F1 _ τ1 b1 p1 g1 rfl
    | true =>
      have p1 : W c tb τ1 fun r2 τ2 b2 => Φ r2 τ2 (b1 && b2) := p1
      exact p1 σ G1 H1 F1 g1.ok _ fun y G2 H2 F2 r2 τ2 b2 p2 g2 s2 => q y G2 H2 F2 r2 τ2 _ p2 (g1.trans g2) (s2.from g1.fr.t)
theorem w_orV (h : W c ta τ fun r τ1 b1 => ∃ k, r = .dat (.bl k) ∧ if k = true then Φ (.dat (.bl true)) τ1 b1 else W c tb τ1 fun r2 τ2 b2 => Φ r2 τ2 (b1 && b2)) : W c (tOrV ta tb) τ Φ := fun σ G H F o Q q =>
  h σ G H F o _ fun x G1 H1 F1 rx τ1 b1 p1 g1 s1 => by
    obtain ⟨k, rfl, p1⟩ := p1
    refine ⟨k, s1, ?_⟩
    cases k with
    | true => exact q _ G1 H1 F1 _ τ1 b1 p1 g1 rfl
    | false =>
      have p1 : W c tb τ1 fun r2 τ2 b2 => Φ r2 τ2 (b1 && b2) := p1
      exact p1 σ G1 H1 F1 g1.ok _ fun y G2 H2 F2 r2 τ2 b2 p2 g2 s2 => q y G2 H2 F2 r2 τ2 _ p2 (g1.trans g2) (s2.from g1.fr.t)
theorem w_notV (h : W c ta τ fun r τ1 b1 => ∃ k, r = .dat (.bl k) ∧ Φ (.dat (.bl (!k))) τ1 b1) : W c (tNotV ta) τ Φ := fun σ G H F o Q q =>
  h σ G H F o _ fun x G1 H1 F1 rx τ1 b1 p1 g1 s1 => by
    obtain ⟨k, rfl, p1⟩ := p1
    exact ⟨k, s1, q _ G1 H1 F1 _ τ1 b1 p1 g1 rfl⟩
theorem w_if (h : WT c u τ fun k τ1 b1 => if k = true then W c ta τ1 fun r2 τ2 b2 => Φ r2 τ2 (b1 && b2) else W c tb τ1 fun r2 τ2 b2 => Φ r2 τ2 (b1 && b2)) : W c (tIf u ta tb) τ Φ := fun σ G H F o Q q =>
  h σ G H F o _ fun k G1 H1 F1 τ1 b1 p1 g1 => by
    cases k with
    | true =>
      have p1 : W c ta τ1 fun r2 τ2 b2 => Φ r2 τ2 (b1 && b2) := p1
      exact p1 σ G1 H1 F1 g1.ok _ fun y G2 H2 F2 r2 τ2 b2 p2 g2 s2 => q y G2 H2 F2 r2 τ2 _ p2 (g1.trans g2) (s2.from g1.fr.t)
    | false =>
      have p1 : W c tb τ1 fun r2 τ2 b2 => Φ r2 τ2 (b1 && b2) := p1
      exact p1 σ G1 H1 F1 g1.ok _ fun y G2 H2 F2 r2 τ2 b2 p2 g2 s2 => q y G2 H2 F2 r2 τ2 _ p2 (g1.trans g2) (s2.from g1.fr.t)
/-! ### a < b < c -/
theorem w_chain {r r' : R2} (h : W c ta τ fun x τ1 b1 => W c tb τ1 fun y τ2 b2 => stb x b2 = true ∧ ∃ d e k, Dv τ2 x d ∧ Dv τ2 y e ∧ Op2 r d e (.bl k) ∧
    if k = true then W c tc τ2 fun z τ3 b3 => stb y b3 = true ∧ ∃ e' g f, Dv τ3 y e' ∧ Dv τ3 z g ∧ Op2 r' e' g f ∧ Φ (.dat f) τ3 (b1 && b2 && b3) else Φ (.dat (.bl false)) τ2 (b1 && b2)) : W c (tChain r r' ta tb tc) τ Φ := fun σ G H F o Q q =>
  h σ G H F o _ fun x G1 H1 F1 rx τ1 b1 p1 g1 s1 => p1 σ G1 H1 F1 g1.ok _ fun y G2 H2 F2 ry τ2 b2 p2 g2 s2 => by
    obtain ⟨hs, d, e, k, hd, he, hop, kk⟩ := p2
    refine hop G2 H2 x y g2.ok.ex g2.ok.tu (hd.rep g2.ok (s1.keep g2 hs)) (he.rep g2.ok s2) _ fun z G3 H3 f3 e3 t3 r3 => ?_
    have g3 := Go.grow g2.ok f3 e3 t3
    have gg := (g1.trans g2).trans g3
    rw [Bool.and_true] at gg
    refine ⟨k, r3, ?_⟩
    cases k with
    | false => exact q _ G3 H3 F2 _ τ2 _ kk gg rfl
    | true =>
      have kk : W c tc τ2 fun z τ3 b3 => stb ry b3 = true ∧ ∃ e' g f, Dv τ3 ry e' ∧ Dv τ3 z g ∧ Op2 r' e' g f ∧ Φ (.dat f) τ3 (b1 && b2 && b3) := kk
      refine kk σ G3 H3 F2 g3.ok _ fun z G4 H4 F4 rz τ4 b4 p4 g4 s4 => ?_
      obtain ⟨hs4, e', g, f, he', hg, hop', k4⟩ := p4
      have s2' := (s2.keep g3 (by cases ry <;> rfl)).keep g4 hs4
      refine hop' G4 H4 y z g4.ok.ex g4.ok.tu (he'.rep g4.ok s2') (hg.rep g4.ok s4) Q fun z' G5 H5 f5 e5 t5 r5 => ?_
      have g5 := Go.grow g4.ok f5 e5 t5
      have gg5 := (gg.trans g4).trans g5
      rw [Bool.and_true] at gg5
      exact q z' G5 H5 F4 _ τ4 _ k4 gg5 r5
/-! ### displays -/
/-- the values in flight as data of the persistent part -/
inductive Dps : List Tg → List DD → Prop
  | nil : Dps [] []
  | cons {d : DD} {rs : List Tg} {ds : List DD} (h : Dps rs ds) : Dps (.dat d :: rs) (d :: ds)
theorem Dps.rep {c : Cfg} {σ : L2.St} {H0 G H : Hp} {F : Nat → Addr → Prop} : ∀ {rs : List Tg} {ds : List DD} {vs : List V}, Dps rs ds → Paired (Rs c σ H0 G H F) rs vs → RepL G ds vs
  | _, _, _, .nil, .nil => rfl
  | _, _, _, .cons h, .cons r t => RepL.cons r (Dps.rep h t)
inductive Dvs (τ : Lc) : List Tg → List DD → Prop
  | nil : Dvs τ [] []
  | cons {r : Tg} {d : DD} {rs : List Tg} {ds : List DD} (g : Dv τ r d) (h : Dvs τ rs ds) : Dvs τ (r :: rs) (d :: ds)
theorem Dvs.rep {c : Cfg} {σ : L2.St} {H0 G H : Hp} {F : Nat → Addr → Prop} (o : Ok c τ σ G H F) : ∀ {rs : List Tg} {ds : List DD} {vs : List V}, Dvs τ rs ds → Paired (Rs c σ H0 G H F) rs vs → RepL H ds vs
  | _, _, _, .nil, .nil => rfl
  | _, _, _, .cons g h, .cons r t => RepL.cons (g.rep o r) (Dvs.rep o h t)
theorem sz_le {n : Nat} (h : n ≤ 100000) : n ≤ sizeLine := Nat.le_trans h (by decide)
theorem sz_lt {n : Nat} (h : n < 100000) : n < sizeLine := Nat.lt_of_lt_of_le h (by decide)
/-- (a, b, ..) of data -/
theorem w_tup (h : WA c t τ fun rs τ1 b1 => ∃ ds, Dps rs ds ∧ ds.length ≤ 100000 ∧ Φ (.dat (.tup ds)) τ1 b1) : W c (tTup t) τ Φ := fun σ G H F o Q q =>
  h σ G H F o _ fun vs G1 H1 F1 rs τ1 b1 p1 g1 s1 => by
    obtain ⟨ds, hd, hz, k⟩ := p1
    have rr := hd.rep s1
    refine ⟨by rw [rr.length]; exact sz_le hz, fun p hp => ?_⟩
    have g2 := Go.grow g1.ok (Fr.both (o := .tup vs) g1.ok.ex hp) (same_both g1.ok.ex) g1.ok.tu.both
    have gg := g1.trans g2
    rw [Bool.and_true] at gg
    exact q _ _ _ F1 _ τ1 b1 k gg ⟨p, vs, rfl, .inl upd_same, rr.mono g2.fr.g _ _⟩
/-- (a, b, ..) of what is only seen -/
theorem w_tupV (h : WA c t τ fun rs τ1 b1 => ∃ ds, Dvs τ1 rs ds ∧ ds.length ≤ 100000 ∧ Φ (.tmp (.tup ds)) τ1 b1) : W c (tTup t) τ Φ := fun σ G H F o Q q =>
  h σ G H F o _ fun vs G1 H1 F1 rs τ1 b1 p1 g1 s1 => by
    obtain ⟨ds, hd, hz, k⟩ := p1
    have rr := hd.rep g1.ok s1
    refine ⟨by rw [rr.length]; exact sz_le hz, fun p hp => ?_⟩
    have g2 := Go.grow g1.ok (Fr.both (o := .tup vs) g1.ok.ex hp) (same_both g1.ok.ex) g1.ok.tu.both
    have gg := g1.trans g2
    rw [Bool.and_true] at gg
    exact q _ _ _ F1 _ τ1 b1 k gg ⟨p, vs, rfl, .inl upd_same, rr.mono (Fr.both (o := .tup vs) (Same.refl H1) hp).same _ _⟩
theorem w_lst (h : WA c t τ fun rs τ1 b1 => ∃ ds, Dps rs ds ∧ ds.length ≤ 100000 ∧ Φ (.res true (ownL ds)) τ1 b1) : W c (tLst t) τ Φ := fun σ G H F o Q q =>
  h σ G H F o _ fun vs G1 H1 F1 rs τ1 b1 p1 g1 s1 => by
    obtain ⟨ds, hd, hz, k⟩ := p1
    have rr := hd.rep s1
    refine ⟨by rw [rr.length]; exact sz_le hz, fun p hp => ?_⟩
    have g2 := Go.grow g1.ok (Fr.new (G := G1) (o := .lst vs) hp) (same_new g1.ok.ex hp) (g1.ok.tu.new fun z => z)
    have gg := g1.trans g2
    rw [Bool.and_true] at gg
    refine q _ _ _ F1 _ τ1 b1 k gg ⟨rfl, _, ⟨p, vs, rfl, upd_same, rr, rfl⟩, fun a ha => ?_⟩
    subst ha
    refine ⟨?_, (by
    rw [upd_same]
    exact (fun z => by cases z)), ?_, fun i z => (g1.ok.own i a z).1 hp⟩
    · cases z : H a with
      | none => rfl
      | some w => exact absurd hp (g1.fr.t a (ne_none z))
    · cases z : G1 a with
      | none => rfl
      | some w =>
        have := g1.ok.ex a w z
        rw [hp] at this
        cases this
theorem w_lstV (h : WA c t τ fun rs τ1 b1 => ∃ ds, Dvs τ1 rs ds ∧ ds.length ≤ 100000 ∧ Φ (.tmp (.lst ds)) τ1 b1) : W c (tLst t) τ Φ := fun σ G H F o Q q =>
  h σ G H F o _ fun vs G1 H1 F1 rs τ1 b1 p1 g1 s1 => by
    obtain ⟨ds, hd, hz, k⟩ := p1
    have rr := hd.rep g1.ok s1
    refine ⟨by rw [rr.length]; exact sz_le hz, fun p hp => ?_⟩
    have g2 := Go.grow g1.ok (Fr.new (G := G1) (o := .lst vs) hp) (same_new g1.ok.ex hp) (g1.ok.tu.new fun z => z)
    have gg := g1.trans g2
    rw [Bool.and_true] at gg
    exact q _ _ _ F1 _ τ1 b1 k gg ⟨p, vs, rfl, upd_same, rr.mono (Fr.new (G := G1) (o := .lst vs) hp).same _ _⟩
/-- a tuple whose object is known is a tuple -/
theorem tpl_tup {G : Hp} {xs : List DD} {v : V} (h : Rep G (.tpl xs) v) : Rep G (.tup xs) v := by
  obtain ⟨a, vs, o, h1, h2, h3⟩ := h
  exact ⟨a, vs, h1, .inr ⟨o, h2.1⟩, h3⟩
theorem w_tpl (h : W c te τ fun x τ1 b1 => ∃ xs, x = .dat (.tpl xs) ∧ Φ (.dat (.tup xs)) τ1 b1) : W c te τ Φ := fun σ G H F o Q q =>
  h σ G H F o _ fun x G1 H1 F1 rx τ1 b1 p1 g1 s1 => by
    obtain ⟨xs, rfl, k⟩ := p1
    exact q x G1 H1 F1 _ τ1 b1 k g1 (tpl_tup s1)
/-! ### a built-in called: by values, clean -/
/-- on data: the result -/
def OpA (r : List V → Hp → VK → Prop) (ds : List DD) (f : DD) : Prop := ∀ (G H : Hp) (xs : List V), Same G H → Tu G H → RepL H ds xs → ∀ Q : VK, (∀ z G' H', Fr No G H G' H' → Same G' H' → Tu G' H' → Rep G' f z → Q z H') → r xs H Q
/-- a new list of data -/
def OpAL (r : List V → Hp → VK → Prop) (ds es : List DD) : Prop := ∀ (G H : Hp) (xs : List V), Same G H → RepL G ds xs → ∀ Q : VK, (∀ p vs, H p = none → RepL G es vs → Q (.ref p) (upd H p (.lst vs))) → r xs H Q
theorem w_callB {r : List V → Hp → VK → Prop} (h : WA c t τ fun rs τ1 b1 => ∃ ds f, Dvs τ1 rs ds ∧ OpA r ds f ∧ Φ (.dat f) τ1 b1) : W c (tCB r t) τ Φ := fun σ G H F o Q q =>
  h σ G H F o _ fun vs G1 H1 F1 rs τ1 b1 p1 g1 s1 => by
    obtain ⟨ds, f, hd, hop, k⟩ := p1
    refine hop G1 H1 vs g1.ok.ex g1.ok.tu (hd.rep g1.ok s1) Q fun z G3 H3 f3 e3 t3 r3 => ?_
    have gg := g1.trans (Go.grow g1.ok f3 e3 t3)
    rw [Bool.and_true] at gg
    exact q z G3 H3 F1 (.dat f) τ1 _ k gg r3
/-- values whose items are data, though the list may be one's own -/
inductive Dl (τ : Lc) : Tg → DD → Prop
  | dat {d : DD} : Dl τ (.dat d) d
  | fre {ds : List DD} : Dl τ (.res true (ownL ds)) (.lst ds)
  | ali {i : Nat} {l : Bool} {ds : List DD} (h : τ[i]? = some (some (.res l (ownL ds)))) : Dl τ (.ali i) (.lst ds)
/-- what such a value is: the list itself in the heap at hand, its items persistent -/
theorem Dl.lst {c : Cfg} {σ : L2.St} {H0 G H : Hp} {F : Nat → Addr → Prop} {r : Tg} {ds : List DD} {v : V} (h : Dl τ r (.lst ds)) (o : Ok c τ σ G H F) (q : Rs c σ H0 G H F r v) : ∃ p vs, v = V.ref p ∧ H p = some (.lst vs) ∧ RepL G ds vs := by
  cases h with
  | dat =>
    obtain ⟨p, vs, h1, h2, h3⟩ := q
    exact ⟨p, vs, h1, o.ex _ _ h2, h3⟩
  | fre =>
    obtain ⟨_, A, ⟨p, vs, h1, h2, h3, _⟩, _⟩ := q
    exact ⟨p, vs, h1, h2, h3⟩
  | ali h =>
    obtain ⟨u, h1, p, vs, h2, h3, h4, _⟩ := o.rs _ _ _ h
    have e : u = v := by
      have q' : σ[_]? = some (some v) := q
      rw [h1] at q'
      exact Option.some.inj (Option.some.inj q')
    subst e
    exact ⟨p, vs, h2, h3, h4⟩
theorem Dl.tup {c : Cfg} {σ : L2.St} {H0 G H : Hp} {F : Nat → Addr → Prop} {r : Tg} {ds : List DD} {v : V} (h : Dl τ r (.tup ds)) (o : Ok c τ σ G H F) (q : Rs c σ H0 G H F r v) : ∃ p vs, v = V.ref p ∧ Rd H p (.tup vs) ∧ RepL G ds vs := by
  cases h with
  | dat =>
    obtain ⟨p, vs, h1, h2, h3⟩ := q
    exact ⟨p, vs, h1, rd_mono o.ex h2, h3⟩
/-- a rule that makes a new list of one seen list or tuple -/
def MkL (r : List V → Hp → VK → Prop) (d : DD) (es : List DD) : Prop := ∀ (G H : Hp) (p : Addr) (vs : List V), Same G H → (∀ Q : VK, (∃ ds, (d = .lst ds ∧ H p = some (.lst vs) ∨ d = .tup ds ∧ Rd H p (.tup vs)) ∧ RepL G ds vs) → (∀ p ws, H p = none → RepL G es ws → Q (.ref p) (upd H p (.lst ws))) → r [.ref p] H Q)
theorem new_own {c : Cfg} {σ : L2.St} {G H G1 H1 : Hp} {F F1 : Nat → Addr → Prop} {τ1 : Lc} {b1 : Bool} {p : Addr} {vs : List V} {ds : List DD} (g1 : Go b1 c τ1 σ G H F G1 H1 F1) (hp : H1 p = none) (rr : RepL G1 ds vs) :
    Go b1 c τ1 σ G H F G1 (upd H1 p (.lst vs)) F1 ∧ Rs c σ H G1 (upd H1 p (.lst vs)) F1 (.res true (ownL ds)) (.ref p) := by
  have g2 := Go.grow g1.ok (Fr.new (G := G1) (o := .lst vs) hp) (same_new g1.ok.ex hp) (g1.ok.tu.new fun z => z)
  have gg := g1.trans g2
  rw [Bool.and_true] at gg
  refine ⟨gg, rfl, _, ⟨p, vs, rfl, upd_same, rr, rfl⟩, fun a ha => ?_⟩
  subst ha
  refine ⟨?_, (by
    rw [upd_same]
    exact (fun z => by cases z)), ?_, fun i z => (g1.ok.own i a z).1 hp⟩
  · cases z : H a with
    | none => rfl
    | some w => exact absurd hp (g1.fr.t a (ne_none z))
  · cases z : G1 a with
    | none => rfl
    | some w =>
      have := g1.ok.ex a w z
      rw [hp] at this
      cases this
theorem w_mkL {r : List V → Hp → VK → Prop} (h : W c ta τ fun x τ1 b1 => ∃ d es, Dl τ1 x d ∧ MkL r d es ∧ ((∃ ds, d = .lst ds) ∨ ∃ ds, d = .tup ds) ∧ Φ (.res true (ownL es)) τ1 b1) : W c (tCB r (tCons ta tNil)) τ Φ := fun σ G H F o Q q =>
  h σ G H F o _ fun x G1 H1 F1 rx τ1 b1 p1 g1 s1 => by
    obtain ⟨d, es, hd, hop, hk, k⟩ := p1
    show r [x] H1 Q
    rcases hk with ⟨ds, rfl⟩ | ⟨ds, rfl⟩
    · obtain ⟨p, vs, rfl, h2, h3⟩ := hd.lst g1.ok s1
      exact hop G1 H1 p vs g1.ok.ex Q ⟨ds, .inl ⟨rfl, h2⟩, h3⟩ fun p' ws hp rr => let ⟨a, b⟩ := new_own g1 hp rr; q _ _ _ F1 _ τ1 b1 k a b
    · obtain ⟨p, vs, rfl, h2, h3⟩ := hd.tup g1.ok s1
      exact hop G1 H1 p vs g1.ok.ex Q ⟨ds, .inr ⟨rfl, h2⟩, h3⟩ fun p' ws hp rr => let ⟨a, b⟩ := new_own g1 hp rr; q _ _ _ F1 _ τ1 b1 k a b
/-! ### fields -/
def lkp : List Str → List DD → Str → Option DD
  | n :: ns, d :: ds, f => if f = n then some d else lkp ns ds f
  | _, _, _ => none
theorem lkp_rep {G : Hp} : ∀ {ns : List Str} {ds : List DD} {vs : List V} {f : Str} {d : DD}, lkp ns ds f = some d → RepL G ds vs → ∃ v, (ns.zip vs).lookup f = some v ∧ Rep G d v
  | [], _, _, _, _, h, _ => by simp [lkp] at h
  | _ :: _, [], _, _, _, h, _ => by simp [lkp] at h
  | n :: ns, x :: ds, _, f, d, h, q => by
    obtain ⟨v, r, rfl, h2, h3⟩ := q
    unfold lkp at h
    by_cases e : f = n
    · rw [if_pos e] at h
      have e2 : x = d := Option.some.inj h
      subst e e2
      exact ⟨v, by simp [List.zip_cons_cons], h2⟩
    · rw [if_neg e] at h
      obtain ⟨u, h4, h5⟩ := lkp_rep (vs := r) h h3
      refine ⟨u, ?_, h5⟩
      have e' : (f == n) = false := by simp [e]
      simp [List.zip_cons_cons, List.lookup_cons, e', h4]
theorem zip_none {β : Type} : ∀ {ns : List Str} {vs : List β} {m : Str}, ns.elem m = false → (ns.zip vs).lookup m = none
  | [], _, _, _ => rfl
  | _ :: _, [], _, _ => rfl
  | n :: ns, v :: vs, m, h => by
    have h1 : (m == n) = false ∧ ns.elem m = false := by
      rw [List.elem_cons] at h
      cases z : (m == n) with
      | true => rw [z] at h; cases h
      | false =>
        rw [z] at h
        exact ⟨rfl, h⟩
    rw [List.zip_cons_cons, List.lookup_cons, h1.1]
    exact zip_none h1.2
theorem w_fld {K : PySem.W.Frag} {f : Str} (h : W c ta τ fun x τ1 b1 => ∃ C ns xs d, x = .dat (.obj C ns xs) ∧ Cls K C ∧ NoAttr K C f ∧ lkp ns xs f = some d ∧ Φ (.dat d) τ1 b1) : W c (tFld K ta f) τ Φ := fun σ G H F o Q q =>
  h σ G H F o _ fun x G1 H1 F1 rx τ1 b1 p1 g1 s1 => by
    obtain ⟨C, ns, xs, d, rfl, hc, hn, hl, k⟩ := p1
    obtain ⟨a, dx, vs, rfl, h2, h3, h4⟩ := s1
    obtain ⟨v, h5, h6⟩ := lkp_rep hl h4
    exact ⟨a, C, dx, _, v, rfl, g1.ok.ex _ _ h2, hc, hn, h5, q v G1 H1 F1 _ τ1 b1 k g1 h6⟩
/-- of an instance that is one's own -/
theorem w_fldO {K : PySem.W.Frag} {f : Str} (h : W c ta τ fun x τ1 b1 => ∃ i l C ns xs d, x = .ali i ∧ τ1[i]? = some (some (.res l (ownI C ns xs))) ∧ Cls K C ∧ NoAttr K C f ∧ lkp ns xs f = some d ∧ Φ (.dat d) τ1 b1) : W c (tFld K ta f) τ Φ := fun σ G H F o Q q =>
  h σ G H F o _ fun x G1 H1 F1 rx τ1 b1 p1 g1 s1 => by
    obtain ⟨i, l, C, ns, xs, d, rfl, hi, hc, hn, hl, k⟩ := p1
    obtain ⟨u, h1, a, dx, vs, h2, h3, h7, h4, _⟩ := g1.ok.rs _ _ _ hi
    have e : u = x := by
      have q' : σ[i]? = some (some x) := s1
      rw [h1] at q'
      exact Option.some.inj (Option.some.inj q')
    subst e
    obtain ⟨v, h5, h6⟩ := lkp_rep hl h4
    exact ⟨a, C, dx, _, v, h2, h3, hc, hn, h5, q v G1 H1 F1 _ τ1 b1 k g1 h6⟩
end
/-! ### statements -/
structure AE where
  nx : Lc → Prop
  rt : Tg → Lc → Prop
  bk : Lc → Prop := fun _ => False
  ct : Lc → Prop := fun _ => False
/-- what is handed back -/
def Rt (c : Cfg) (G' H' : Hp) (F' : Nat → Addr → Prop) : Tg → V → Prop
  | .dat d, v => Rep G' d v
  | .vol d, v => ∃ Gv : Hp, (∀ a o, Gv a = some o → c.H0 a = some o ∧ ¬ c.X a) ∧ Rep Gv d v
  | .tmp d, v => Rep H' d v
  | .res l R, v => l = true ∧ ∃ A, R.φ v G' H' A ∧ ∀ a, A a → c.H0 a = none ∧ H' a ≠ none ∧ G' a = none ∧ ∀ p ∈ c.P, ¬ F' p.1 a
  | .ali i, v => False
structure Lnk (c : Cfg) (G : Hp) (D : AE) (De : L2.Ends) : Prop where
  nx : ∀ τ' σ' G' H' F', D.nx τ' → Ok c τ' σ' G' H' F' → Same G G' → De.nx σ' H'
  rt : ∀ r τ' σ' G' H' F' v, D.rt r τ' → Ok c τ' σ' G' H' F' → Rt c G' H' F' r v → De.rt v H'
  bk : ∀ τ' σ' G' H' F', D.bk τ' → Ok c τ' σ' G' H' F' → Same G G' → De.bk σ' H'
  ct : ∀ τ' σ' G' H' F', D.ct τ' → Ok c τ' σ' G' H' F' → Same G G' → De.ct σ' H'
def WS (c : Cfg) (ts : TS) (τ : Lc) (D : AE) : Prop := ∀ (σ : L2.St) (G H : Hp) (F : Nat → Addr → Prop), Ok c τ σ G H F → ∀ De : L2.Ends, Lnk c G D De → ts De σ H
theorem Lnk.from {c : Cfg} {G G1 : Hp} {D : AE} {De : L2.Ends} (l : Lnk c G D De) (e : Same G G1) : Lnk c G1 D De :=
  ⟨fun τ' σ' G' H' F' a o s => l.nx τ' σ' G' H' F' a o (e.trans s), l.rt, fun τ' σ' G' H' F' a o s => l.bk τ' σ' G' H' F' a o (e.trans s), fun τ' σ' G' H' F' a o s => l.ct τ' σ' G' H' F' a o (e.trans s)⟩
/-- what is in flight is no resource -/
inductive Pl : Tg → Prop
  | dat {d : DD} : Pl (.dat d)
  | vol {d : DD} : Pl (.vol d)
/-- what a target's assignment leaves -/
def WG (c : Cfg) (g : TG) (r : Tg) (τ : Lc) (N : Lc → Prop) : Prop := ∀ (σ : L2.St) (G H : Hp) (F : Nat → Addr → Prop) (v : V), Ok c τ σ G H F → Rs c σ c.H0 G H F r v → ∀ Q : L2.St → Hp → Prop, (∀ τ' σ' G' H' F', N τ' → Ok c τ' σ' G' H' F' → Fr No G H G' H' → (Pl r → ∀ (i : Nat) (a : Addr), F' i a → F i a) → Q σ' H') → g v σ H Q
section
variable {c : Cfg} {τ τ1 : Lc} {D D' : AE} {ts tu : TS} {te ta tb : TE} {i j : Nat} {t : Tg} {g : TG} {tt : TT}
theorem WS.imp (h : WS c ts τ D) (h1 : ∀ τ, D.nx τ → D'.nx τ) (h2 : ∀ r τ, D.rt r τ → D'.rt r τ) (h3 : ∀ τ, D.bk τ → D'.bk τ) (h4 : ∀ τ, D.ct τ → D'.ct τ) : WS c ts τ D' := fun σ G H F o De l => h σ G H F o De
  ⟨fun τ' σ' G' H' F' a => l.nx τ' σ' G' H' F' (h1 _ a), fun r τ' σ' G' H' F' v a => l.rt r τ' σ' G' H' F' v (h2 _ _ a), fun τ' σ' G' H' F' a => l.bk τ' σ' G' H' F' (h3 _ a), fun τ' σ' G' H' F' a => l.ct τ' σ' G' H' F' (h4 _ a)⟩
theorem ws_next (h : D.nx τ) : WS c tNext τ D := fun σ G H F o De l => l.nx τ σ G H F h o (Same.refl G)
theorem ws_seq (h : WS c ts τ { D with nx := fun τ' => WS c tu τ' D }) : WS c (tSeq ts tu) τ D := fun σ G H F o De l =>
  h σ G H F o _ ⟨fun τ' σ' G' H' F' a o' s => a σ' G' H' F' o' De (l.from s), l.rt, l.bk, l.ct⟩
theorem ws_brk (h : D.bk τ) : WS c tBreak τ D := fun σ G H F o De l => l.bk τ σ G H F h o (Same.refl G)
theorem ws_cont (h : D.ct τ) : WS c tCont τ D := fun σ G H F o De l => l.ct τ σ G H F h o (Same.refl G)
theorem ws_if (h : WT c tt τ fun k τ1 _ => if k = true then WS c ts τ1 D else WS c tu τ1 D) : WS c (tIfS tt ts tu) τ D := fun σ G H F o De l =>
  h σ G H F o _ fun k G1 H1 F1 τ1 b1 p1 g1 => by
    cases k with
    | true => exact (show WS c ts τ1 D from p1) σ G1 H1 F1 g1.ok De (l.from g1.fr.g)
    | false => exact (show WS c tu τ1 D from p1) σ G1 H1 F1 g1.ok De (l.from g1.fr.g)
theorem ws_expr (h : W c te τ fun _ τ1 _ => D.nx τ1) : WS c (tDrop te) τ D := fun σ G H F o De l =>
  h σ G H F o _ fun v G1 H1 F1 r τ1 b1 p1 g1 s1 => l.nx τ1 σ G1 H1 F1 p1 g1.ok g1.fr.g
theorem ws_retN (h : D.rt (.dat .non) τ) : WS c tRetN τ D := fun σ G H F o De l => l.rt (.dat .non) τ σ G H F .non h o rfl
/-- what a value in flight may be handed back as -/
inductive Rtk (τ : Lc) : Tg → Tg → Prop
  | dat {d : DD} : Rtk τ (.dat d) (.dat d)
  | vol {d : DD} : Rtk τ (.vol d) (.vol d)
  | tmp {d : DD} : Rtk τ (.tmp d) (.tmp d)
  | res {R : Rsc} : Rtk τ (.res true R) (.res true R)
  | ali {i : Nat} {R : Rsc} (h : τ[i]? = some (some (.res true R))) : Rtk τ (.ali i) (.res true R)
theorem ws_ret (h : W c te τ fun r τ1 _ => ∃ r', Rtk τ1 r r' ∧ D.rt r' τ1) : WS c (tRet te) τ D := fun σ G H F o De l =>
  h σ G H F o _ fun v G1 H1 F1 r τ1 b1 p1 g1 s1 => by
    obtain ⟨r', hr, hd⟩ := p1
    refine l.rt r' τ1 σ G1 H1 F1 v hd g1.ok ?_
    cases hr with
    | dat => exact s1
    | vol => exact s1
    | tmp => exact s1
    | res =>
      obtain ⟨h1, A, h2, h3⟩ := s1
      refine ⟨rfl, A, h2, fun a ha => ?_⟩
      obtain ⟨q1, q2, q3, q4⟩ := h3 a ha
      refine ⟨?_, q2, q3, fun p _ => q4 p.1⟩
      cases z : c.H0 a with
      | none => rfl
      | some w => exact absurd q1 (o.fr.t a (ne_none z))
    | ali hi =>
      obtain ⟨u, h1, h2⟩ := g1.ok.rs _ _ _ hi
      have e : u = v := by
        have q' : σ[_]? = some (some v) := s1
        rw [h1] at q'
        exact Option.some.inj (Option.some.inj q')
      subst e
      refine ⟨rfl, _, h2, fun a ha => ?_⟩
      obtain ⟨q1, q2, l', R', q3, q4⟩ := g1.ok.own _ a ha
      rw [hi] at q3
      cases q3
      refine ⟨?_, q1, q2, fun p hp z => ?_⟩
      · rcases q4 with q4 | q4
        · exact q4
        · cases q4.1
      · obtain ⟨R', q5⟩ := (g1.ok.pn p hp).2
        refine g1.ok.dj p.1 _ a (fun e => ?_) z ha
        rw [e, hi] at q5
        cases q5
/-- a slot may be stored to: it holds nothing that was handed in to be changed -/
def free (τ : Lc) (i : Nat) : Prop := ∀ R, τ[i]? ≠ some (some (.res false R))
/-- what a slot holds of a value in flight -/
inductive Stk : Tg → Tg → Prop
  | dat {d : DD} : Stk (.dat d) (.dat d)
  | vol {d : DD} : Stk (.vol d) (.vol d)
  | res {R : Rsc} : Stk (.res true R) (.res true R)
theorem Ok.store {c : Cfg} {σ : L2.St} {H0 G H : Hp} {F : Nat → Addr → Prop} {r : Tg} {v : V} (o : Ok c τ σ G H F) (hf : free τ i) (hi : i < τ.length) (hr : Stk r t) (s : Rs c σ H0 G H F r v) (t0 : ∀ a, c.H0 a ≠ none → H0 a ≠ none) :
    ∃ F', Ok c (τ.set i (some t)) (σ.set i (some v)) G H F' ∧ (Pl r → ∀ (i : Nat) (a : Addr), F' i a → F i a) := by
  have hσ : i < σ.length := by rw [o.len]; exact hi
  have gt : ∀ j : Nat, j ≠ i → (τ.set i (some t))[j]? = τ[j]? := fun j h => List.getElem?_set_ne (fun z => h z.symm)
  have gs : ∀ j : Nat, j ≠ i → (σ.set i (some v))[j]? = σ[j]? := fun j h => List.getElem?_set_ne (fun z => h z.symm)
  have gti : (τ.set i (some t))[i]? = some (some t) := by rw [List.getElem?_set_self hi]
  have gsi : (σ.set i (some v))[i]? = some (some v) := by rw [List.getElem?_set_self hσ]
  have npin : ∀ p ∈ c.P, p.1 ≠ i := fun p hp e => by
    obtain ⟨R, q⟩ := (o.pn p hp).2
    rw [e] at q
    exact hf R q
  obtain ⟨A, hA, hA2⟩ : ∃ A : Addr → Prop, (∀ l R, t = .res l R → l = true ∧ R.φ v G H A) ∧ (∀ a, A a → c.H0 a = none ∧ H a ≠ none ∧ G a = none ∧ (∀ i, ¬ F i a) ∧ ∃ R, t = .res true R) := by
    cases hr with
    | dat => exact ⟨fun _ => False, (fun _ _ z => nomatch z), fun _ z => z.elim⟩
    | vol => exact ⟨fun _ => False, (fun _ _ z => nomatch z), fun _ z => z.elim⟩
    | @res R =>
      obtain ⟨h1, A, h2, h3⟩ := s
      refine ⟨A, fun l R' z => ?_, fun a ha => ?_⟩
      · cases z
        exact ⟨rfl, h2⟩
      · obtain ⟨q1, q2, q3, q4⟩ := h3 a ha
        refine ⟨?_, q2, q3, q4, R, rfl⟩
        cases z : c.H0 a with
        | none => rfl
        | some w => exact absurd q1 (t0 a (ne_none z))
  refine ⟨fun j => if j = i then A else F j, ?_, fun hp j a z => ?_⟩
  rotate_left
  · have z : (if j = i then A else F j) a := z
    by_cases e : j = i
    · rw [if_pos e] at z
      obtain ⟨_, _, _, _, R, q⟩ := hA2 a z
      subst q
      cases hr
      cases hp
    · rw [if_neg e] at z
      exact z
  constructor
  · exact o.ex
  · exact o.tu
  · exact o.fr
  · rw [List.length_set, List.length_set, o.len]
  · intro j u h
    by_cases e : j = i
    · subst e
      rw [gti] at h
      cases h
      refine ⟨v, gsi, ?_⟩
      cases hr with
      | dat => exact s
      | vol => exact s
      | res => exact True.intro
    · rw [gt j e] at h
      obtain ⟨w, h1, h2⟩ := o.sl j u h
      exact ⟨w, by rw [gs j e]; exact h1, h2⟩
  · intro j l R h
    by_cases e : j = i
    · subst e
      rw [gti] at h
      cases h
      obtain ⟨q1, q2⟩ := hA l R rfl
      refine ⟨v, gsi, ?_⟩
      rw [if_pos rfl]
      exact q2
    · rw [gt j e] at h
      obtain ⟨w, h1, h2⟩ := o.rs j l R h
      refine ⟨w, by rw [gs j e]; exact h1, ?_⟩
      rw [if_neg e]
      exact h2
  · intro j a h
    by_cases e : j = i
    · subst e
      rw [if_pos rfl] at h
      obtain ⟨q1, q2, q3, q4, R, q5⟩ := hA2 a h
      subst q5
      exact ⟨q2, q3, true, R, gti, .inl q1⟩
    · rw [if_neg e] at h
      obtain ⟨q1, q2, l, R, q3, q4⟩ := o.own j a h
      exact ⟨q1, q2, l, R, by rw [gt j e]; exact q3, q4⟩
  · intro j k a hjk h1 h2
    by_cases e : j = i
    · subst e
      rw [if_pos rfl] at h1
      rw [if_neg (Ne.symm hjk)] at h2
      exact (hA2 a h1).2.2.2.1 k h2
    · rw [if_neg e] at h1
      by_cases e2 : k = i
      · subst e2
        rw [if_pos rfl] at h2
        exact (hA2 a h2).2.2.2.1 j h1
      · rw [if_neg e2] at h2
        exact o.dj j k a hjk h1 h2
  · intro p hp
    obtain ⟨h1, R, h2⟩ := o.pn p hp
    exact ⟨by rw [gs _ (npin p hp)]; exact h1, R, by rw [gt _ (npin p hp)]; exact h2⟩
theorem wg_name {r : Tg} {N : Lc → Prop} (hr : Stk r t) (hf : free τ i) (hi : i < τ.length) (h : N (τ.set i (some t))) : WG c (gName i) r τ N := fun σ G H F v o s Q q => by
  obtain ⟨F', o', hp⟩ := o.store hf hi hr s fun _ z => z
  exact q _ _ G H F' h o' Fr.refl hp
theorem ws_asg (h : W c te τ fun r τ1 _ => WG c g r τ1 D.nx) : WS c (tAsg te g) τ D := fun σ G H F o De l =>
  h σ G H F o _ fun v G1 H1 F1 r τ1 b1 p1 g1 s1 => p1 σ G1 H1 F1 v g1.ok (Rs.from s1 o.fr.t) De.nx fun τ' σ' G' H' F' n o' s _ => l.nx τ' σ' G' H' F' n o' (g1.fr.g.trans s.g)
end
end Z
set_option Elab.async false
set_option linter.all false
set_option maxRecDepth 100000
/-! Z3: promises, calls, loops, comprehensions. -/
namespace Z
open PySem PySem.Spec PyProof.Rows L2
/-! ### promises -/
/-- an exception of a class of the program that may be let out, with its fields -/
abbrev Xn := Addr → List Str → List DD → Prop
def X0 : Xn := fun _ _ _ => False
abbrev Spec := List Tg → (Tg → List Tg → Prop) → Xn → Prop
def AOk (as : List Tg) (vs : List V) (G H : Hp) (F : Nat → Addr → Prop) : Prop := Ok ⟨fun a => ∃ i, F i a, G, H, []⟩ (as.map some) (vs.map some) G H F
structure ABk (as' : List Tg) (vs : List V) (H : Hp) (F : Nat → Addr → Prop) (G' H' : Hp) (F' : Nat → Addr → Prop) : Prop where
  ex : Same G' H'
  tu : Tu G' H'
  rs : ∀ (i : Nat) (l : Bool) (R : Rsc), as'[i]? = some (.res l R) → ∃ v, vs[i]? = some v ∧ R.φ v G' H' (F' i)
  own : ∀ (i : Nat) (a : Addr), F' i a → H' a ≠ none ∧ G' a = none ∧ ∃ l R, as'[i]? = some (.res l R)
  fp : ∀ (i : Nat) (a : Addr), F' i a → (∃ j, F j a) ∨ H a = none
  dj : ∀ (i j : Nat) (a : Addr), i ≠ j → F' i a → F' j a → False
/-- the value handed back -/
def Rr (H G' H' : Hp) (F' : Nat → Addr → Prop) : Tg → V → Prop
  | .dat d, v => Rep G' d v
  | .vol d, v => Rep H' d v
  | .tmp d, v => Rep H' d v
  | .res l R, v => l = true ∧ ∃ A, R.φ v G' H' A ∧ ∀ a, A a → H a = none ∧ H' a ≠ none ∧ G' a = none ∧ ∀ i, ¬ F' i a
  | .ali i, v => False
def FP (S : Spec) : Sp := fun vs H Q E => ∃ (G : Hp) (as : List Tg) (F : Nat → Addr → Prop) (Ψ : Tg → List Tg → Prop) (Ξ : Xn), AOk as vs G H F ∧ S as Ψ Ξ ∧
  (∀ v G' H' F' r as', Ψ r as' → Fr (fun a => ∃ i, F i a) G H G' H' → ABk as' vs H F G' H' F' → Rr H G' H' F' r v → Q v H') ∧
  (∀ C ns xs d ws G' H', Ξ C ns xs → Fr (fun a => ∃ i, F i a) G H G' H' → Same G' H' → Tu G' H' → H' d = some (.xd (ns.zip ws)) → ns.length = ws.length → RepL G' xs ws → E (.ref C) (some d) H')
/-- what is wanted of exceptions is kept by what the code may let out -/
def Pas (c : Cfg) (Ξ : Xn) (E : XK) : Prop := ∀ C ns xs d ws G' H', Ξ C ns xs → Fr c.X c.G0 c.H0 G' H' → Same G' H' → Tu G' H' → H' d = some (.xd (ns.zip ws)) → ns.length = ws.length → RepL G' xs ws → E (.ref C) (some d) H'
theorem pas0 {c : Cfg} : Pas c X0 E0 := fun _ _ _ _ _ _ _ h => h.elim
theorem Pas.imp {c : Cfg} {Ξ Ξ' : Xn} {E : XK} (h : Pas c Ξ E) (k : ∀ C ns xs, Ξ' C ns xs → Ξ C ns xs) : Pas c Ξ' E := fun C ns xs d ws G' H' a => h C ns xs d ws G' H' (k _ _ _ a)
/-- the parameters behind the body -/
def backs : List Tg → Lc → List Tg
  | [], _ => []
  | .res _ _ :: as, t :: τ => t.getD (.dat .non) :: backs as τ
  | a :: as, _ :: τ => a :: backs as τ
  | a :: as, [] => .dat .non :: backs as []
theorem backs_res : ∀ {as : List Tg} {τ : Lc} {i : Nat} {l : Bool} {R : Rsc}, (backs as τ)[i]? = some (.res l R) → τ[i]? = some (some (.res l R)) ∧ ∃ l' R', as[i]? = some (.res l' R')
  | [], _, i, _, _, h => by simp [backs] at h
  | a :: as, [], 0, l, R, h => by
    simp [backs] at h
  | a :: as, [], i + 1, l, R, h => by
    have h' : (backs as [])[i]? = some (.res l R) := by cases a <;> simpa [backs] using h
    obtain ⟨h1, _⟩ := backs_res h'
    simp at h1
  | a :: as, t :: τ, 0, l, R, h => by
    cases a with
    | res l' R' =>
      cases t with
      | none => simp [backs] at h
      | some u =>
        have e : u = .res l R := by simpa [backs] using h
        subst e
        exact ⟨rfl, l', R', rfl⟩
    | dat d => simp [backs] at h
    | vol d => simp [backs] at h
    | tmp d => simp [backs] at h
    | ali d => simp [backs] at h
  | a :: as, t :: τ, i + 1, l, R, h => by
    have h' : (backs as τ)[i]? = some (.res l R) := by cases a <;> simpa [backs] using h
    obtain ⟨h1, l', R', h2⟩ := backs_res h'
    exact ⟨by simpa using h1, l', R', by simpa using h2⟩
def isRes : Tg → Bool
  | .res _ _ => true
  | _ => false
theorem isRes_of {t : Tg} (h : isRes t = true) : ∃ l R, t = .res l R := by
  cases t with
  | res l R => exact ⟨l, R, rfl⟩
  | dat d => cases h
  | vol d => cases h
  | tmp d => cases h
  | ali d => cases h
def pinAt (t : Option Tg) (v : Option V) (i : Nat) : Option (Nat × V) := t.bind fun t => v.bind fun v => if isRes t then some (i, v) else none
def pinsOf (as : List Tg) (vs : List V) : List (Nat × V) := (List.range as.length).filterMap fun i => pinAt as[i]? vs[i]? i
theorem mem_pinsOf {as : List Tg} {vs : List V} {p : Nat × V} (h : p ∈ pinsOf as vs) : vs[p.1]? = some p.2 ∧ ∃ l R, as[p.1]? = some (.res l R) := by
  obtain ⟨i, _, e⟩ := List.mem_filterMap.mp h
  cases h1 : as[i]? with
  | none => rw [h1] at e; cases e
  | some a =>
    cases h2 : vs[i]? with
    | none => rw [h1, h2] at e; cases e
    | some v =>
      rw [h1, h2] at e
      have e : (if isRes a = true then some (i, v) else none) = some p := e
      by_cases z : isRes a = true
      · rw [if_pos z] at e
        cases e
        obtain ⟨l, R, q⟩ := isRes_of z
        subst q
        exact ⟨h2, l, R, h1⟩
      · rw [if_neg z] at e
        cases e
theorem pinsOf_mem {as : List Tg} {vs : List V} {i : Nat} {l : Bool} {R : Rsc} {v : V} (h1 : as[i]? = some (.res l R)) (h2 : vs[i]? = some v) : (i, v) ∈ pinsOf as vs := by
  have hi : i < as.length := (List.getElem?_eq_some_iff.mp h1).1
  refine List.mem_filterMap.mpr ⟨i, List.mem_range.mpr hi, ?_⟩
  rw [h1, h2]
  rfl
/-- what is handed in to be changed is handed in as such -/
def Plain (as : List Tg) : Prop := ∀ a ∈ as, (∀ l R, a = .res l R → l = false) ∧ (∀ d, a ≠ .tmp d) ∧ ∀ i, a ≠ .ali i
def startT (n : Nat) (as : List Tg) : Lc := as.map some ++ List.replicate (n - as.length) none
theorem start_get {α : Type} {xs : List α} {n i : Nat} {x : α} (h : (xs.map some ++ List.replicate n none)[i]? = some (some x)) : xs[i]? = some x := by
  by_cases hi : i < xs.length
  · rw [List.getElem?_append_left (by simpa using hi), List.getElem?_map] at h
    cases z : xs[i]? with
    | none => rw [z] at h; cases h
    | some y => rw [z] at h; simpa using h
  · rw [List.getElem?_append_right (by simpa using hi)] at h
    have := List.getElem?_eq_some_iff.mp h
    obtain ⟨q, e⟩ := this
    rw [List.getElem_replicate] at e
    cases e
theorem start_of {α : Type} {xs : List α} {n i : Nat} {x : α} (h : xs[i]? = some x) : (xs.map some ++ List.replicate n none)[i]? = some (some x) := by
  have hi := (List.getElem?_eq_some_iff.mp h).1
  rw [List.getElem?_append_left (by simpa using hi), List.getElem?_map, h]
  rfl
/-- THE RULE for a body -/
theorem fp_body {S : Spec} {N : List Str} {ps : List Str} {t : XK → TS} (hl : ∀ as Ψ Ξ, S as Ψ Ξ → as.length = ps.length ∧ Plain as) (hN : ps.length ≤ N.length)
    (hb : ∀ (c : Cfg) (E : XK) as Ψ Ξ, S as Ψ Ξ → Pas c Ξ E → WS c (t E) (startT N.length as) { nx := fun τ' => Ψ (.dat .non) (backs as τ'), rt := fun r τ' => Ψ r (backs as τ') }) :
    ∀ vs H Q E, FP S vs H Q E → t E { nx := fun _ H' => Q .non H', rt := Q } (start N vs) H := by
  rintro vs H Q E ⟨G, as, F, Ψ, Ξ, ok, hS, hq, he⟩
  obtain ⟨hlen, hpl⟩ := hl as Ψ Ξ hS
  have lvs : vs.length = as.length := by simpa using ok.len
  have noali : ∀ {a : Tg}, a ∈ as → (∀ l R, a = .res l R → l = false) := fun h => (hpl _ h).1
  have o : Ok ⟨fun a => ∃ i, F i a, G, H, pinsOf as vs⟩ (startT N.length as) (start N vs) G H F := {
    ex := ok.ex
    tu := ok.tu
    fr := Fr.refl
    len := by simp [L2.start, startT, lvs]
    sl := fun i u h => by
      obtain ⟨v, h1, h2⟩ := ok.sl i u (by rw [List.getElem?_map, start_get h]; rfl)
      refine ⟨v, ?_, h2⟩
      have h1' : vs[i]? = some v := by
        rw [List.getElem?_map] at h1
        cases z : vs[i]? with
        | none => rw [z] at h1; cases h1
        | some y => rw [z] at h1; simpa using h1
      exact start_of h1'
    rs := fun i l R h => by
      obtain ⟨v, h1, h2⟩ := ok.rs i l R (by rw [List.getElem?_map, start_get h]; rfl)
      refine ⟨v, ?_, h2⟩
      have h1' : vs[i]? = some v := by
        rw [List.getElem?_map] at h1
        cases z : vs[i]? with
        | none => rw [z] at h1; cases h1
        | some y => rw [z] at h1; simpa using h1
      exact start_of h1'
    own := fun i a h => by
      obtain ⟨h1, h2, l, R, h3, h4⟩ := ok.own i a h
      have h3' : as[i]? = some (.res l R) := by
        rw [List.getElem?_map] at h3
        cases z : as[i]? with
        | none => rw [z] at h3; cases h3
        | some y => rw [z] at h3; simpa using h3
      exact ⟨h1, h2, l, R, start_of h3', .inr ⟨(hpl _ (List.mem_of_getElem? h3')).1 l R rfl, i, h⟩⟩
    dj := ok.dj
    pn := fun p hp => by
      obtain ⟨h1, l, R, h2⟩ := mem_pinsOf hp
      have e := (hpl _ (List.mem_of_getElem? h2)).1 l R rfl
      subst e
      exact ⟨start_of h1, R, start_of h2⟩ }
  -- what the parameters are behind it
  have bk : ∀ {τ' : Lc} {σ' : L2.St} {G' H' : Hp} {F' : Nat → Addr → Prop}, Ok ⟨fun a => ∃ i, F i a, G, H, pinsOf as vs⟩ τ' σ' G' H' F' →
      ABk (backs as τ') vs H F G' H' (fun i a => F' i a ∧ ∃ l R, (backs as τ')[i]? = some (.res l R)) := fun {τ' σ' G' H' F'} o' => {
    ex := o'.ex
    tu := o'.tu
    rs := fun i l R h => by
      obtain ⟨h1, l', R', h2⟩ := backs_res h
      obtain ⟨v, h3, h4⟩ := o'.rs i l R h1
      have hv : ∃ u, vs[i]? = some u := by
        have := (List.getElem?_eq_some_iff.mp h2).1
        exact ⟨vs[i]'(by omega), by simp⟩
      obtain ⟨u, hu⟩ := hv
      have h5 := (o'.pn (i, u) (pinsOf_mem h2 hu)).1
      have e : v = u := by
        have h5' : σ'[i]? = some (some u) := h5
        rw [h3] at h5'
        exact Option.some.inj (Option.some.inj h5')
      subst e
      refine ⟨v, hu, R.mono v _ _ _ _ _ ?_ (Same.refl _) fun _ _ => rfl⟩
      have ef : (fun a => F' i a ∧ ∃ l R, (backs as τ')[i]? = some (.res l R)) = F' i := by
        funext a
        exact propext ⟨fun z => z.1, fun z => ⟨z, l, R, h⟩⟩
      rw [ef]
      exact h4
    own := fun i a h => ⟨(o'.own i a h.1).1, (o'.own i a h.1).2.1, h.2⟩
    fp := fun i a h => by
      obtain ⟨_, _, l, R, _, h4⟩ := o'.own i a h.1
      rcases h4 with h4 | h4
      · exact .inr h4
      · exact .inl h4.2
    dj := fun i j a hij h1 h2 => o'.dj i j a hij h1.1 h2.1 }
  refine hb ⟨fun a => ∃ i, F i a, G, H, pinsOf as vs⟩ E as Ψ Ξ hS (fun C ns xs d ws G' H' a f => he C ns xs d ws G' H' a f) (start N vs) G H F o _ ⟨fun τ' σ' G' H' F' a o' _ => ?_, fun r τ' σ' G' H' F' v a o' s => ?_, fun _ _ _ _ _ z => z.elim, fun _ _ _ _ _ z => z.elim⟩
  · exact hq .non G' H' _ (.dat .non) _ a o'.fr (bk o') rfl
  · refine hq v G' H' _ r _ a o'.fr (bk o') ?_
    cases r with
    | dat d => exact s
    | vol d =>
      obtain ⟨Gv, h1, h2⟩ := s
      exact Rep.mono (fun a u z => o'.fr.h a u (h1 a u z).1 (h1 a u z).2) d v h2
    | tmp d => exact s
    | res l R =>
      obtain ⟨h1, A, h2, h3⟩ := s
      refine ⟨h1, A, h2, fun a ha => ?_⟩
      obtain ⟨q1, q2, q3, q4⟩ := h3 a ha
      refine ⟨q1, q2, q3, fun i z => ?_⟩
      obtain ⟨z1, l', R', z2⟩ := z
      obtain ⟨_, l2, R2, z3⟩ := backs_res z2
      have hv : ∃ u, vs[i]? = some u := by
        have := (List.getElem?_eq_some_iff.mp z3).1
        exact ⟨vs[i]'(by omega), by simp⟩
      obtain ⟨u, hu⟩ := hv
      exact q4 (i, u) (pinsOf_mem z3 hu) z1
    | ali i => exact s.elim
theorem fp_len {S : Spec} {ps : List Str} (hl : ∀ as Ψ Ξ, S as Ψ Ξ → as.length = ps.length ∧ Plain as) : ∀ vs H Q E, FP S vs H Q E → vs.length = ps.length := by
  rintro vs H Q E ⟨G, as, F, Ψ, Ξ, ok, hS, _⟩
  have := ok.len
  rw [List.length_map, List.length_map] at this
  rw [this, (hl as Ψ Ξ hS).1]
/-! ### calls -/
def dem : Tg → Tg
  | .vol d => .tmp d
  | t => t
inductive Arg (τ : Lc) : Tg → Tg → Prop
  | dd {d : DD} : Arg τ (.dat d) (.dat d)
  | dv {r : Tg} {d : DD} (h : Dv τ r d) : Arg τ r (.vol d)
inductive Dv1 (τ : Lc) (j : Nat) : Tg → DD → Prop
  | dat {d : DD} : Dv1 τ j (.dat d) d
  | vol {d : DD} : Dv1 τ j (.vol d) d
  | fre {ds : List DD} : Dv1 τ j (.res true (ownL ds)) (.lst ds)
  | ali {i : Nat} {l : Bool} {ds : List DD} (hij : i ≠ j) (h : τ[i]? = some (some (.res l (ownL ds)))) : Dv1 τ j (.ali i) (.lst ds)
inductive Arg1 (τ : Lc) (j : Nat) : Tg → Tg → Prop
  | dd {d : DD} : Arg1 τ j (.dat d) (.dat d)
  | dv {r : Tg} {d : DD} (h : Dv1 τ j r d) : Arg1 τ j r (.vol d)
inductive Args (τ : Lc) : List Tg → List Tg → Prop
  | nil : Args τ [] []
  | cons {r a : Tg} {rs as : List Tg} (h : Arg τ r a) (t : Args τ rs as) : Args τ (r :: rs) (a :: as)
inductive Args1 (τ : Lc) (j : Nat) : List Tg → List Tg → Prop
  | nil : Args1 τ j [] []
  | cons {r a : Tg} {rs as : List Tg} (h : Arg1 τ j r a) (t : Args1 τ j rs as) : Args1 τ j (r :: rs) (a :: as)
theorem Args.get {τ : Lc} {P : Tg → V → Prop} : ∀ {rs as : List Tg} {vs : List V} {i : Nat} {a : Tg}, Args τ rs as → Paired P rs vs → as[i]? = some a → ∃ r v, Arg τ r a ∧ P r v ∧ vs[i]? = some v
  | _, _, _, i, _, .nil, .nil, h => by simp at h
  | _, _, _, 0, _, .cons h t, .cons p q, e => by
    have e' := Option.some.inj e
    subst e'
    exact ⟨_, _, h, p, rfl⟩
  | _, _, _, i + 1, _, .cons h t, .cons p q, e => by
    obtain ⟨r, v, h1, h2, h3⟩ := Args.get (i := i) t q (by simpa using e)
    exact ⟨r, v, h1, h2, by simpa using h3⟩
theorem Args.len {τ : Lc} {P : Tg → V → Prop} : ∀ {rs as : List Tg} {vs : List V}, Args τ rs as → Paired P rs vs → vs.length = as.length
  | _, _, _, .nil, .nil => rfl
  | _, _, _, .cons h t, .cons p q => by rw [List.length_cons, List.length_cons, Args.len t q]
theorem Args1.get {τ : Lc} {j : Nat} {P : Tg → V → Prop} : ∀ {rs as : List Tg} {vs : List V} {i : Nat} {a : Tg}, Args1 τ j rs as → Paired P rs vs → as[i]? = some a → ∃ r v, Arg1 τ j r a ∧ P r v ∧ vs[i]? = some v
  | _, _, _, i, _, .nil, .nil, h => by simp at h
  | _, _, _, 0, _, .cons h t, .cons p q, e => by
    have e' := Option.some.inj e
    subst e'
    exact ⟨_, _, h, p, rfl⟩
  | _, _, _, i + 1, _, .cons h t, .cons p q, e => by
    obtain ⟨r, v, h1, h2, h3⟩ := Args1.get (i := i) t q (by simpa using e)
    exact ⟨r, v, h1, h2, by simpa using h3⟩
theorem Args1.len {τ : Lc} {j : Nat} {P : Tg → V → Prop} : ∀ {rs as : List Tg} {vs : List V}, Args1 τ j rs as → Paired P rs vs → vs.length = as.length
  | _, _, _, .nil, .nil => rfl
  | _, _, _, .cons h t, .cons p q => by rw [List.length_cons, List.length_cons, Args1.len t q]
def CallOk (c : Cfg) (S : Spec) (E : XK) (τ1 : Lc) (rs : List Tg) (Φ : Tg → Lc → Bool → Prop) (b : Bool) : Prop :=
  ∃ Ξ, Pas c Ξ E ∧ ((∃ as, Args τ1 rs as ∧ S as (fun r _ => Φ (dem r) τ1 b) Ξ) ∨
    ∃ j l R rs' as', rs = .ali j :: rs' ∧ τ1[j]? = some (some (.res l R)) ∧ Args1 τ1 j rs' as' ∧ S (.res false R :: as') (fun r as2 => ∃ l2 R', as2[0]? = some (.res l2 R') ∧ Φ (dem r) (τ1.set j (some (.res l R'))) false) Ξ)
theorem call_run {c : Cfg} {S : Spec} {E : XK} {τ1 : Lc} {rs : List Tg} {Φ : Tg → Lc → Bool → Prop} {b : Bool} {σ : L2.St} {G H G1 H1 : Hp} {F F1 : Nat → Addr → Prop} {vs : List V} {Q : VK}
    (hl : CallOk c S E τ1 rs Φ b) (g : Go b c τ1 σ G H F G1 H1 F1) (s : Paired (Rs c σ H G1 H1 F1) rs vs)
    (q : ∀ v G' H' F' r τ' b', Φ r τ' b' → Go b' c τ' σ G H F G' H' F' → Rs c σ H G' H' F' r v → Q v H') : FP S vs H1 Q E := by
  obtain ⟨Ξ, hp, hl⟩ := hl
  have hn : ∀ a, H1 a = none → H a = none := fun a h => by
    cases z : H a with
    | none => rfl
    | some w => exact absurd h (g.fr.t a (ne_none z))
  rcases hl with ⟨as, ha, hS⟩ | ⟨j, l, R, rs', as', rfl, hj, ha, hS⟩
  · refine ⟨G1, as, fun _ _ => False, _, Ξ, ?_, hS, fun v G' H' F' r as' hr f bk rr => ?_, fun C ns xs d ws G' H' a f e t => hp C ns xs d ws G' H' a (g.ok.fr.trans f fun _ z => z.elim fun _ y => y.elim) e t⟩
    · exact {
        ex := g.ok.ex
        tu := g.ok.tu
        fr := Fr.refl
        len := by rw [List.length_map, List.length_map, ha.len s]
        sl := fun i t h => by
          have h' : as[i]? = some t := by
            rw [List.getElem?_map] at h
            cases z : as[i]? with
            | none => rw [z] at h; cases h
            | some y => rw [z] at h; simpa using h
          obtain ⟨r, v, h1, h2, h3⟩ := ha.get s h'
          refine ⟨v, by rw [List.getElem?_map, h3]; rfl, ?_⟩
          cases h1 with
          | dd => exact h2
          | dv hd => exact ⟨H1, fun a o z => ⟨z, fun y => y.elim fun _ w => w⟩, hd.rep g.ok h2⟩
        rs := fun i l R h => by
          have h' : as[i]? = some (.res l R) := by
            rw [List.getElem?_map] at h
            cases z : as[i]? with
            | none => rw [z] at h; cases h
            | some y => rw [z] at h; simpa using h
          obtain ⟨r, v, h1, h2, h3⟩ := ha.get s h'
          cases h1
        own := fun _ _ z => z.elim
        dj := fun _ _ _ _ z => z.elim
        pn := fun p hp => nomatch hp }
    · have f' : Fr No G1 H1 G' H' := f.mono fun a z => z.elim fun _ y => y
      have g2 := Go.grow g.ok f' bk.ex bk.tu
      have gg := g.trans g2
      rw [Bool.and_true] at gg
      refine q v G' H' F1 (dem r) τ1 b hr gg ?_
      cases r with
      | dat d => exact rr
      | vol d => exact rr
      | tmp d => exact rr
      | res l R =>
        obtain ⟨h1, A, h2, h3⟩ := rr
        refine ⟨h1, A, h2, fun a ha' => ?_⟩
        obtain ⟨q1, q2, q3, q4⟩ := h3 a ha'
        exact ⟨hn a q1, q2, q3, fun i z => (g.ok.own i a z).1 q1⟩
      | ali i => exact rr.elim
  · cases s with
    | @cons _ v0 _ vs' s0 s' =>
    have s0 : σ[j]? = some (some v0) := s0
    obtain ⟨u, hu, hφ⟩ := g.ok.rs j l R hj
    have e : u = v0 := by
      rw [hu] at s0
      exact Option.some.inj (Option.some.inj s0)
    subst e
    have nF : ∀ a (i : Nat), (if i = 0 then F1 j a else False) → i = 0 ∧ F1 j a := fun a i z => by
      by_cases e : i = 0
      · rw [if_pos e] at z
        exact ⟨e, z⟩
      · rw [if_neg e] at z
        exact z.elim
    have nF' : ∀ a, (∃ i : Nat, if i = 0 then F1 j a else False) → F1 j a := fun a z => z.elim fun i y => (nF a i y).2
    have notX : ∀ a o, c.H0 a = some o → ¬ c.X a → ¬ F1 j a := fun a o z nx y => by
      obtain ⟨_, _, l', R', _, y4⟩ := g.ok.own j a y
      rcases y4 with y4 | y4
      · rw [z] at y4; cases y4
      · exact nx y4.2
    refine ⟨G1, .res false R :: as', fun i a => if i = 0 then F1 j a else False, _, Ξ, ?_, hS, fun v G' H' F' r as2 hr f bk rr => ?_, fun C ns xs d ws G' H' a f e t => hp C ns xs d ws G' H' a (g.ok.fr.trans f fun a z => by
      obtain ⟨_, _, l', R', _, y4⟩ := g.ok.own j a (nF' a z)
      rcases y4 with y4 | y4
      · exact .inr y4
      · exact .inl y4.2) e t⟩
    · exact {
        ex := g.ok.ex
        tu := g.ok.tu
        fr := Fr.refl
        len := by rw [List.length_map, List.length_map, List.length_cons, List.length_cons, ha.len s']
        sl := fun i t h => by
          cases i with
          | zero =>
            have h' : t = .res false R := by simpa using h.symm
            subst h'
            exact ⟨u, rfl, True.intro⟩
          | succ i =>
            have h' : as'[i]? = some t := by
              rw [List.map_cons, List.getElem?_cons_succ, List.getElem?_map] at h
              cases z : as'[i]? with
              | none => rw [z] at h; cases h
              | some y => rw [z] at h; simpa using h
            obtain ⟨r, v, h1, h2, h3⟩ := ha.get s' h'
            refine ⟨v, by rw [List.map_cons, List.getElem?_cons_succ, List.getElem?_map, h3]; rfl, ?_⟩
            cases h1 with
            | dd => exact h2
            | dv hd =>
              cases hd with
              | dat => exact ⟨G1, fun a o z => ⟨g.ok.ex a o z, fun y => by
                  have := (g.ok.own j a (nF' a y)).2.1
                  rw [z] at this; cases this⟩, h2⟩
              | vol =>
                obtain ⟨Gv, k1, k2⟩ := h2
                exact ⟨Gv, fun a o z => ⟨g.ok.fr.h a o (k1 a o z).1 (k1 a o z).2, fun y => notX a o (k1 a o z).1 (k1 a o z).2 (nF' a y)⟩, k2⟩
              | fre =>
                obtain ⟨_, A, ⟨p, ws, k1, k2, k3, rfl⟩, k4⟩ := h2
                obtain ⟨m1, m2, m3, m4⟩ := k4 p rfl
                have eg : Same G1 (upd G1 p (.lst ws)) := fun a u z => by
                  rw [upd_ne (ne_of_none z m3)]
                  exact z
                refine ⟨upd G1 p (.lst ws), fun a o z => ?_, p, ws, k1, upd_same, k3.mono eg _ _⟩
                by_cases e : a = p
                · subst e
                  rw [upd_same] at z
                  exact ⟨by rw [← z]; exact k2, fun y => m4 j (nF' a y)⟩
                · rw [upd_ne e] at z
                  exact ⟨g.ok.ex a o z, fun y => by
                    have := (g.ok.own j a (nF' a y)).2.1
                    rw [z] at this; cases this⟩
              | @ali i' l' ds hij hi =>
                obtain ⟨w, k1, p, ws, k2, k3, k4, k5⟩ := g.ok.rs _ _ _ hi
                have ew : w = v := by
                  have h2' : σ[i']? = some (some v) := h2
                  rw [k1] at h2'
                  exact Option.some.inj (Option.some.inj h2')
                subst ew
                have fp : F1 i' p := by rw [k5]
                have m3 := (g.ok.own i' p fp).2.1
                have eg : Same G1 (upd G1 p (.lst ws)) := fun a u z => by
                  rw [upd_ne (ne_of_none z m3)]
                  exact z
                refine ⟨upd G1 p (.lst ws), fun a o z => ?_, p, ws, k2, upd_same, k4.mono eg _ _⟩
                by_cases e : a = p
                · subst e
                  rw [upd_same] at z
                  exact ⟨by rw [← z]; exact k3, fun y => g.ok.dj i' j a hij fp (nF' a y)⟩
                · rw [upd_ne e] at z
                  exact ⟨g.ok.ex a o z, fun y => by
                    have := (g.ok.own j a (nF' a y)).2.1
                    rw [z] at this; cases this⟩
        rs := fun i l' R' h => by
          cases i with
          | zero =>
            have h' : false = l' ∧ R = R' := by simpa using h
            obtain ⟨rfl, rfl⟩ := h'
            refine ⟨u, rfl, ?_⟩
            have ef : (fun a => if 0 = 0 then F1 j a else False) = F1 j := by
              funext a
              rw [if_pos rfl]
            rw [ef]
            exact hφ
          | succ i =>
            have h' : as'[i]? = some (.res l' R') := by
              rw [List.map_cons, List.getElem?_cons_succ, List.getElem?_map] at h
              cases z : as'[i]? with
              | none => rw [z] at h; cases h
              | some y => rw [z] at h; simpa using h
            obtain ⟨r, v, h1, h2, h3⟩ := ha.get s' h'
            cases h1
        own := fun i a z => by
          obtain ⟨e, y⟩ := nF a i z
          subst e
          exact ⟨(g.ok.own j a y).1, (g.ok.own j a y).2.1, false, R, rfl, .inr ⟨rfl, 0, z⟩⟩
        dj := fun i k a hik z1 z2 => hik ((nF a i z1).1.trans (nF a k z2).1.symm)
        pn := fun p hp => nomatch hp }
    · obtain ⟨l2, R', hR, hΦ⟩ := hr
      obtain ⟨v1, hv1, hφ'⟩ := bk.rs 0 l2 R' hR
      have ev : v1 = u := by
        have : (u :: vs')[0]? = some u := rfl
        rw [this] at hv1
        exact (Option.some.inj hv1).symm
      subst ev
      have f1 : Fr (fun a => F1 j a) G1 H1 G' H' := f.mono fun a z => nF' a z
      have fpj : ∀ a, F' 0 a → F1 j a ∨ H1 a = none := fun a z => (bk.fp 0 a z).imp (nF' a) id
      have keepo : ∀ i a, i ≠ j → F1 i a → H' a = H1 a := fun i a hij z => by
        have hne := (g.ok.own i a z).1
        cases w : H1 a with
        | none => exact absurd w hne
        | some o => exact f1.h a o w fun y => g.ok.dj i j a hij z y
      have hjl : j < τ1.length := (List.getElem?_eq_some_iff.mp hj).1
      have gt : ∀ i : Nat, i ≠ j → (τ1.set j (some (.res l R')))[i]? = τ1[i]? := fun i h => List.getElem?_set_ne (fun z => h z.symm)
      have gtj : (τ1.set j (some (.res l R')))[j]? = some (some (.res l R')) := List.getElem?_set_self hjl
      have o2 : Ok c (τ1.set j (some (.res l R'))) σ G' H' (fun i a => if i = j then F' 0 a else F1 i a) := {
        ex := bk.ex
        tu := bk.tu
        fr := g.ok.fr.trans f1 fun a z => by
          obtain ⟨_, _, l', R', _, y4⟩ := g.ok.own j a z
          rcases y4 with y4 | y4
          · exact .inr y4
          · exact .inl y4.2
        len := by rw [List.length_set]; exact g.ok.len
        sl := fun i t h => by
          by_cases e : i = j
          · subst e
            rw [gtj] at h
            cases h
            exact ⟨v1, hu, True.intro⟩
          · rw [gt i e] at h
            obtain ⟨v, k1, k2⟩ := g.ok.sl i t h
            refine ⟨v, k1, ?_⟩
            cases t with
            | dat d => exact Rep.mono f1.g d v k2
            | vol d => exact k2
            | tmp d => exact k2
            | res l R => exact k2
            | ali i => exact k2
        rs := fun i l' R2 h => by
          by_cases e : i = j
          · subst e
            rw [gtj] at h
            cases h
            refine ⟨v1, hu, ?_⟩
            have ef : (fun a => if i = i then F' 0 a else F1 i a) = F' 0 := by
              funext a
              rw [if_pos rfl]
            rw [ef]
            exact hφ'
          · rw [gt i e] at h
            obtain ⟨v, k1, k2⟩ := g.ok.rs i l' R2 h
            refine ⟨v, k1, ?_⟩
            have ef : (fun a => if i = j then F' 0 a else F1 i a) = F1 i := by
              funext a
              rw [if_neg e]
            rw [ef]
            exact R2.mono v _ _ _ _ _ k2 f1.g fun a ha' => keepo i a e ha'
        own := fun i a z => by
          by_cases e : i = j
          · subst e
            rw [if_pos rfl] at z
            refine ⟨(bk.own 0 a z).1, (bk.own 0 a z).2.1, l, R', gtj, ?_⟩
            rcases fpj a z with y | y
            · obtain ⟨_, _, l', R2, y3, y4⟩ := g.ok.own i a y
              rw [hj] at y3
              cases y3
              exact y4
            · refine .inl ?_
              cases w : c.H0 a with
              | none => rfl
              | some o => exact absurd y (g.ok.fr.t a (ne_none w))
          · rw [if_neg e] at z
            obtain ⟨y1, y2, l', R2, y3, y4⟩ := g.ok.own i a z
            exact ⟨f1.t a y1, f1.n a y2 y1 (fun y => g.ok.dj i j a e z y), l', R2, by rw [gt i e]; exact y3, y4⟩
        dj := fun i k a hik z1 z2 => by
          by_cases e : i = j
          · subst e
            rw [if_pos rfl] at z1
            rw [if_neg (Ne.symm hik)] at z2
            rcases fpj a z1 with y | y
            · exact g.ok.dj i k a hik y z2
            · exact (g.ok.own k a z2).1 y
          · rw [if_neg e] at z1
            by_cases e2 : k = j
            · subst e2
              rw [if_pos rfl] at z2
              rcases fpj a z2 with y | y
              · exact g.ok.dj i k a hik z1 y
              · exact (g.ok.own i a z1).1 y
            · rw [if_neg e2] at z2
              exact g.ok.dj i k a hik z1 z2
        pn := fun p hp => by
          obtain ⟨k1, R2, k2⟩ := g.ok.pn p hp
          by_cases e : p.1 = j
          · rw [e, hj] at k2
            cases k2
            exact ⟨k1, R', by rw [e]; exact gtj⟩
          · exact ⟨k1, R2, by rw [gt _ e]; exact k2⟩ }
      have g2 : Go false c (τ1.set j (some (.res l R'))) σ G1 H1 F1 G' H' (fun i a => if i = j then F' 0 a else F1 i a) := ⟨o2, f1.mono fun a z => ⟨rfl, j, z⟩, fun i a z => by
        by_cases e : i = j
        · subst e
          rw [if_pos rfl] at z
          exact fpj a z
        · rw [if_neg e] at z
          exact .inl z⟩
      have gg := g.trans g2
      rw [Bool.and_false] at gg
      refine q v G' H' _ (dem r) _ false hΦ gg ?_
      cases r with
      | dat d => exact rr
      | vol d => exact rr
      | tmp d => exact rr
      | res lr Rx =>
        obtain ⟨h1, A, h2, h3⟩ := rr
        refine ⟨h1, A, h2, fun a ha' => ?_⟩
        obtain ⟨q1, q2, q3, q4⟩ := h3 a ha'
        refine ⟨hn a q1, q2, q3, fun i z => ?_⟩
        have z : if i = j then F' 0 a else F1 i a := z
        by_cases e : i = j
        · subst e
          rw [if_pos rfl] at z
          exact q4 0 z
        · rw [if_neg e] at z
          exact (g.ok.own i a z).1 q1
      | ali i => exact rr.elim
section
variable {c : Cfg} {τ : Lc} {Φ : Tg → Lc → Bool → Prop} {te ta tb : TE} {t : TA} {S : Spec} {E : XK}
theorem w_call (h : WA c t τ fun rs τ1 b1 => CallOk c S E τ1 rs Φ b1) : W c (tCall (FP S) [] E t) τ Φ := fun σ G H F o Q q =>
  h σ G H F o _ fun vs G1 H1 F1 rs τ1 b1 p1 g1 s1 => by
    rw [List.append_nil]
    exact call_run p1 g1 s1 q
theorem w_meth {C : Addr} {m : Str} (h : W c ta τ fun r τ0 b0 => ((∃ ns xs, r = .dat (.obj C ns xs) ∧ ns.elem m = false) ∨ ∃ j l ns xs, r = .ali j ∧ τ0[j]? = some (some (.res l (ownI C ns xs))) ∧ ns.elem m = false) ∧
    WA c t τ0 fun rs τ1 b1 => stb r b1 = true ∧ CallOk c S E τ1 (r :: rs) Φ (b0 && b1)) : W c (tMeth C m (FP S) [] E ta t) τ Φ := fun σ G H F o Q q =>
  h σ G H F o _ fun x G1 H1 F1 r τ0 b0 p1 g1 s1 => by
    obtain ⟨hr, p2⟩ := p1
    have hx : ∃ a dx fs, x = V.ref a ∧ H1 a = some (.ins C dx fs) ∧ fs.lookup m = none := by
      rcases hr with ⟨ns, xs, rfl, hm⟩ | ⟨j, l, ns, xs, rfl, hj, hm⟩
      · obtain ⟨a, dx, vs, h1, h2, h3, h4⟩ := s1
        exact ⟨a, dx, _, h1, g1.ok.ex _ _ h2, zip_none hm⟩
      · obtain ⟨u, h1, a, dx, vs, h2, h3, h7, h4, _⟩ := g1.ok.rs _ _ _ hj
        have e : u = x := by
          have q' : σ[j]? = some (some x) := s1
          rw [h1] at q'
          exact Option.some.inj (Option.some.inj q')
        subst e
        exact ⟨a, dx, _, h2, h3, zip_none hm⟩
    obtain ⟨a, dx, fs, h1, h2, h3⟩ := hx
    refine ⟨a, dx, fs, h1, h2, h3, p2 σ G1 H1 F1 g1.ok _ fun vs G2 H2 F2 rs τ1 b1 p3 g2 s2 => ?_⟩
    rw [List.append_nil]
    exact call_run p3.2 (g1.trans g2) (.cons (s1.keep g2 p3.1) (Paired.mapP s2 fun r v z => Rs.from z g1.fr.t)) q
/-- C(..): the new instance is frozen -/
theorem w_make {C : Addr} (h : WA c t τ fun rs τ1 b1 => ∃ Ξ as, Pas c Ξ E ∧ Args τ1 rs as ∧ S (.res false (ownI C [] []) :: as) (fun r as2 => r = .dat .non ∧ ∃ l2 ns xs, as2[0]? = some (.res l2 (ownI C ns xs)) ∧ Φ (.dat (.obj C ns xs)) τ1 b1) Ξ) :
    W c (tMake C (FP S) [] E t) τ Φ := fun σ G H F o Q q =>
  h σ G H F o _ fun vs G1 H1 F1 rs τ1 b1 p1 g1 s1 => by
    obtain ⟨Ξ, as, hp, ha, hS⟩ := p1
    intro x dx hx hdx hne
    rw [List.append_nil]
    have gx : G1 x = none := by
      cases z : G1 x with
      | none => rfl
      | some w => have := g1.ok.ex _ _ z; rw [hx] at this; cases this
    have gdx : G1 dx = none := by
      cases z : G1 dx with
      | none => rfl
      | some w => have := g1.ok.ex _ _ z; rw [hdx] at this; cases this
    have s12 : Same H1 (upd (upd H1 dx (.own x)) x (.ins C dx [])) := fun a o z => by
      rw [upd_ne (ne_of_none z hx), upd_ne (ne_of_none z hdx)]
      exact z
    have sg : Same G1 (upd (upd H1 dx (.own x)) x (.ins C dx [])) := fun a o z => s12 a o (g1.ok.ex a o z)
    have tg : Tu G1 (upd (upd H1 dx (.own x)) x (.ins C dx [])) := fun a u t z => by
      by_cases e : a = x
      · rw [e, upd_same] at z; cases z; exact t.elim
      · rw [upd_ne e] at z
        by_cases e2 : a = dx
        · rw [e2, upd_same] at z; cases z; exact t.elim
        · rw [upd_ne e2] at z
          exact g1.ok.tu a u t z
    have nn : ∀ a, H1 a ≠ none → upd (upd H1 dx (.own x)) x (.ins C dx []) a ≠ none := fun a z => by
      cases w : H1 a with
      | none => exact absurd w z
      | some o => rw [s12 a o w]; exact fun y => nomatch y
    have fr12 : ∀ {X : Addr → Prop} {G' H' : Hp}, (∀ a, X a → a = x) → Fr X G1 (upd (upd H1 dx (.own x)) x (.ins C dx [])) G' H' → Fr No G1 H1 G' H' := fun hX f =>
      ⟨f.g, fun a o z _ => f.h a o (s12 a o z) fun y => (by
        rw [hX a y, hx] at z
        cases z), fun a z w _ => f.n a z (nn a w) (fun y => w (by rw [hX a y]; exact hx)), fun a w => f.t a (nn a w)⟩
    have nF : ∀ a (i : Nat), (if i = 0 then a = x else False) → a = x := fun a i z => by
      by_cases e : i = 0
      · rw [if_pos e] at z; exact z
      · rw [if_neg e] at z; exact z.elim
    refine ⟨G1, .res false (ownI C [] []) :: as, fun i a => if i = 0 then a = x else False, _, Ξ, ?_, hS, fun v G' H' F' r as2 hr f bk rr => ?_, fun D ns xs d ws G' H' a f e t => hp D ns xs d ws G' H' a (g1.ok.fr.trans (fr12 (fun a z => z.elim fun i y => nF a i y) f) fun _ z => z.elim) e t⟩
    · exact {
        ex := sg
        tu := tg
        fr := Fr.refl
        len := by rw [List.length_map, List.length_map, List.length_cons, List.length_cons, ha.len s1]
        sl := fun i t h => by
          cases i with
          | zero =>
            have h' : t = .res false (ownI C [] []) := by simpa using h.symm
            subst h'
            exact ⟨_, rfl, True.intro⟩
          | succ i =>
            have h' : as[i]? = some t := by
              rw [List.map_cons, List.getElem?_cons_succ, List.getElem?_map] at h
              cases z : as[i]? with
              | none => rw [z] at h; cases h
              | some y => rw [z] at h; simpa using h
            obtain ⟨r, v, h1, h2, h3⟩ := ha.get s1 h'
            refine ⟨v, by rw [List.map_cons, List.getElem?_cons_succ, List.getElem?_map, h3]; rfl, ?_⟩
            cases h1 with
            | dd => exact h2
            | dv hd => exact ⟨H1, fun a o z => ⟨s12 a o z, fun y => y.elim fun i w => by rw [nF a i w, hx] at z; cases z⟩, hd.rep g1.ok h2⟩
        rs := fun i l R h => by
          cases i with
          | zero =>
            have h' : false = l ∧ ownI C [] [] = R := by simpa using h
            obtain ⟨rfl, rfl⟩ := h'
            refine ⟨_, rfl, x, dx, [], rfl, upd_same, rfl, rfl, ?_⟩
            funext a
            exact propext ⟨fun z => by simpa using z, fun z => by simpa using z⟩
          | succ i =>
            have h' : as[i]? = some (.res l R) := by
              rw [List.map_cons, List.getElem?_cons_succ, List.getElem?_map] at h
              cases z : as[i]? with
              | none => rw [z] at h; cases h
              | some y => rw [z] at h; simpa using h
            obtain ⟨r, v, h1, h2, h3⟩ := ha.get s1 h'
            cases h1
        own := fun i a z => by
          have e := nF a i z
          subst e
          have ei : i = 0 := by
            by_cases e : i = 0
            · exact e
            · rw [if_neg e] at z; exact z.elim
          subst ei
          exact ⟨(by
            rw [upd_same]
            exact (fun y => by cases y)), gx, false, ownI C [] [], rfl, .inr ⟨rfl, 0, z⟩⟩
        dj := fun i k a hik z1 z2 => by
          by_cases e : i = 0
          · by_cases e2 : k = 0
            · exact hik (e.trans e2.symm)
            · rw [if_neg e2] at z2; exact z2
          · rw [if_neg e] at z1; exact z1
        pn := fun p hp => nomatch hp }
    · obtain ⟨rfl, l2, ns, xs, hR, hΦ⟩ := hr
      obtain ⟨v1, hv1, x', dx', ws, h1, h2, h3, h4, h5⟩ := bk.rs 0 _ _ hR
      have ev : v1 = V.ref x := by
        have : (V.ref x :: vs)[0]? = some (V.ref x) := rfl
        rw [this] at hv1
        exact (Option.some.inj hv1).symm
      rw [ev] at h1
      cases h1
      have f1 : Fr No G1 H1 G' H' := fr12 (fun a z => z.elim fun i y => nF a i y) f
      have gx' : G' x = none := (bk.own 0 x (by rw [h5])).2.1
      have eg : Same G' (upd G' x (.ins C dx' (ns.zip ws))) := fun a u z => by
        rw [upd_ne (ne_of_none z gx')]
        exact z
      have f2 : Fr No G1 H1 (upd G' x (.ins C dx' (ns.zip ws))) H' := ⟨f1.g.trans eg, f1.h, fun a z w nx => by
        rw [upd_ne (fun e => w (by rw [e]; exact hx))]
        exact f1.n a z w nx, f1.t⟩
      have e2 : Same (upd G' x (.ins C dx' (ns.zip ws))) H' := fun a o z => by
        by_cases e : a = x
        · subst e
          rw [upd_same] at z
          rw [← z]
          exact h2
        · rw [upd_ne e] at z
          exact bk.ex a o z
      have g2 := Go.grow g1.ok f2 e2 (fun a u t z => eg a _ (bk.tu a u t z))
      have gg := g1.trans g2
      rw [Bool.and_true] at gg
      exact ⟨rr, q _ _ _ F1 _ τ1 b1 hΦ gg ⟨x, dx', ws, rfl, upd_same, h3, h4.mono eg _ _⟩⟩
end
end Z
set_option Elab.async false
set_option linter.all false
set_option maxRecDepth 100000
/-! Z4: loops, comprehensions, changes of owned lists. -/
namespace Z
open PySem PySem.Spec PyProof.Rows L2
/-! ### what is walked -/
inductive Itm where
  | one (t : Tg)
  | two (t u : Tg)
def IY (c : Cfg) (G H : Hp) (x : V) (H' : Hp) : Itm → Prop
  | .one t => H' = H ∧ Sl c G t x
  | .two t u => ∃ T y z, x = V.ref T ∧ H T = none ∧ H' = upd H T (.tup [y, z]) ∧ Sl c G t y ∧ Sl c G u z
structure Wk (c : Cfg) (J : It) (its : List Itm) (G1 : Hp) : Prop where
  go : ∀ (i : Nat) (G H : Hp), i < its.length → Same G1 G → Same G H → Fr c.X c.G0 c.H0 G H → J.go i H
  stop : ∀ (G H : Hp), Same G1 G → Same G H → Fr c.X c.G0 c.H0 G H → J.stop its.length H
  yl : ∀ (i : Nat) (t : Itm) (G H : Hp) (x : V) (H' : Hp), its[i]? = some t → Same G1 G → Same G H → Fr c.X c.G0 c.H0 G H → J.yld i H x H' → IY c G H x H' t
def WI (c : Cfg) (wi : TI) (τ : Lc) (Φ : List Itm → Lc → Bool → Prop) : Prop := ∀ (σ : L2.St) (G H : Hp) (F : Nat → Addr → Prop), Ok c τ σ G H F → ∀ R : It → Hp → Prop,
  (∀ J its G' H' F' τ' b, Φ its τ' b → Go b c τ' σ G H F G' H' F' → Wk c J its G' → R J H') → wi σ H R
def WGI (c : Cfg) (g : TG) (it : Itm) (τ : Lc) (N : Lc → Prop) : Prop := ∀ (σ : L2.St) (G H : Hp) (F : Nat → Addr → Prop) (x : V) (H' : Hp), Ok c τ σ G H F → IY c G H x H' it → ∀ Q : L2.St → Hp → Prop,
  (∀ τ' σ' G' H'' F', N τ' → Ok c τ' σ' G' H'' F' → Fr No G H G' H'' → (∀ (i : Nat) (a : Addr), F' i a → F i a) → Q σ' H'') → g x σ H' Q
section
variable {c : Cfg} {τ : Lc} {te ta tb : TE} {t : TA} {g g1 g2 : TG} {N : Lc → Prop} {Φ : List Itm → Lc → Bool → Prop} {D : AE} {ts tu : TS} {u v : Tg} {K : PySem.W.Frag} {i : Nat}
theorem Rs.of_sl {σ : L2.St} {H G H' : Hp} {F : Nat → Addr → Prop} {t : Tg} {x : V} (h : Sl c G t x) (hd : (∃ d, t = .dat d) ∨ ∃ d, t = .vol d) : Rs c σ H G H' F t x := by
  rcases hd with ⟨d, rfl⟩ | ⟨d, rfl⟩
  · exact h
  · exact h
theorem wgi_dat {d : DD} (h : WG c g (.dat d) τ N) : WGI c g (.one (.dat d)) τ N := fun σ G H F x H' o y Q q => by
  obtain ⟨rfl, s⟩ := y
  exact h σ G H' F x o s Q fun τ' σ' G' H2 F' n o' f p => q τ' σ' G' H2 F' n o' f (p .dat)
theorem wgi_vol {d : DD} (h : WG c g (.vol d) τ N) : WGI c g (.one (.vol d)) τ N := fun σ G H F x H' o y Q q => by
  obtain ⟨rfl, s⟩ := y
  exact h σ G H' F x o s Q fun τ' σ' G' H2 F' n o' f p => q τ' σ' G' H2 F' n o' f (p .vol)
theorem Pl.rs {σ : L2.St} {H G G' H' : Hp} {F : Nat → Addr → Prop} {t : Tg} {x : V} (p : Pl t) (h : Sl c G t x) (e : Same G G') : Rs c σ H G' H' F t x := by
  cases p with
  | dat => exact Rep.mono e _ _ h
  | vol => exact h
/-- for a, b in ..: a new pair each turn, unpacked -/
theorem wgi_two (p1 : Pl u) (p2 : Pl v) (h : WG c g1 u τ fun τ1 => WG c g2 v τ1 N) : WGI c (gTup K 2 (gCons g1 (gCons g2 gNil))) (.two u v) τ N := fun σ G H F x H' o y Q q => by
  obtain ⟨T, y, z, rfl, hT, rfl, s1, s2⟩ := y
  have f := Fr.both (G := G) (o := .tup [y, z]) o.ex hT
  have o' := o.grow f (same_both o.ex) o.tu.both
  refine ⟨T, [y, z], rfl, SqT.of upd_same, rfl, y, [z], rfl, h σ _ _ F y o' (p1.rs s1 f.g) _ fun τ1 σ1 G1 H1 F1 n1 o1 e1 k1 => ?_⟩
  refine ⟨z, [], rfl, n1 σ1 G1 H1 F1 z o1 (p2.rs s2 (f.g.trans e1.g)) _ fun τ2 σ2 G2 H2 F2 n2 o2 e2 k2 => ⟨rfl, q τ2 σ2 G2 H2 F2 n2 o2 (f.trans (e1.trans e2 fun _ z => z.elim) fun _ z => z.elim) fun i a z => k1 p1 i a (k2 p2 i a z)⟩⟩
/-- a, b = a pair of data -/
theorem wg_tup2 {d e : DD} (h : WG c g1 (.dat d) τ fun τ1 => WG c g2 (.dat e) τ1 N) : WG c (gTup K 2 (gCons g1 (gCons g2 gNil))) (.dat (.tup [d, e])) τ N := fun σ G H F x o s Q q => by
  obtain ⟨a, vs, rfl, h2, y, r, rfl, h3, z, r2, rfl, h4, h5⟩ := s
  have e5 : r2 = [] := h5
  subst e5
  refine ⟨a, [y, z], rfl, .inl (rd_mono o.ex h2), rfl, y, [z], rfl, h σ G H F y o h3 _ fun τ1 σ1 G1 H1 F1 n1 o1 e1 k1 => ?_⟩
  exact ⟨z, [], rfl, n1 σ1 G1 H1 F1 z o1 (Rep.mono e1.g _ _ h4) _ fun τ2 σ2 G2 H2 F2 n2 o2 e2 k2 => ⟨rfl, q τ2 σ2 G2 H2 F2 n2 o2 (e1.trans e2 fun _ z => z.elim) fun _ i a z => k1 .dat i a (k2 .dat i a z)⟩⟩
theorem wg_tup3 {g3 : TG} {d e f : DD} (h : WG c g1 (.dat d) τ fun τ1 => WG c g2 (.dat e) τ1 fun τ2 => WG c g3 (.dat f) τ2 N) : WG c (gTup K 3 (gCons g1 (gCons g2 (gCons g3 gNil)))) (.dat (.tup [d, e, f])) τ N := fun σ G H F x o s Q q => by
  obtain ⟨a, vs, rfl, h2, y, r, rfl, h3, z, r2, rfl, h4, w, r3, rfl, h6, h5⟩ := s
  have e5 : r3 = [] := h5
  subst e5
  refine ⟨a, [y, z, w], rfl, .inl (rd_mono o.ex h2), rfl, y, [z, w], rfl, h σ G H F y o h3 _ fun τ1 σ1 G1 H1 F1 n1 o1 e1 k1 => ?_⟩
  refine ⟨z, [w], rfl, n1 σ1 G1 H1 F1 z o1 (Rep.mono e1.g _ _ h4) _ fun τ2 σ2 G2 H2 F2 n2 o2 e2 k2 => ?_⟩
  exact ⟨w, [], rfl, n2 σ2 G2 H2 F2 w o2 (Rep.mono (e1.g.trans e2.g) _ _ h6) _ fun τ3 σ3 G3 H3 F3 n3 o3 e3 k3 => ⟨rfl, q τ3 σ3 G3 H3 F3 n3 o3 ((e1.trans e2 fun _ z => z.elim).trans e3 fun _ z => z.elim) fun _ i a z => k1 .dat i a (k2 .dat i a (k3 .dat i a z))⟩⟩
/-! the sources -/
def itsD (ds : List DD) : List Itm := ds.map fun d => .one (.dat d)
theorem itsD_get {ds : List DD} {i : Nat} {t : Itm} (h : (itsD ds)[i]? = some t) : ∃ d, ds[i]? = some d ∧ t = .one (.dat d) := by
  unfold itsD at h
  rw [List.getElem?_map] at h
  cases z : ds[i]? with
  | none => rw [z] at h; cases h
  | some d =>
    rw [z] at h
    exact ⟨d, rfl, (Option.some.inj h).symm⟩
theorem itsD_len {ds : List DD} : (itsD ds).length = ds.length := List.length_map _
theorem wi_list (h : W c ta τ fun r τ1 b1 => ∃ ds, r = .dat (.lst ds) ∧ Φ (itsD ds) τ1 b1) : WI c (iList K ta) τ Φ := fun σ G H F o R q =>
  h σ G H F o _ fun x G1 H1 F1 rx τ1 b1 p1 g1 s1 => by
    obtain ⟨ds, rfl, k⟩ := p1
    obtain ⟨a, vs, rfl, h2, h3⟩ := s1
    refine ⟨a, rfl, ⟨vs, SqL.of (g1.ok.ex _ _ h2)⟩, q _ _ G1 H1 F1 τ1 b1 k g1 ⟨fun i G H hi e1 e2 _ => ?_, fun G H e1 e2 _ => ?_, fun i t G H y H' ht e1 e2 _ yy => ?_⟩⟩
    · rw [itsD_len] at hi
      exact ⟨vs, vs[i]'(by rw [h3.length]; exact hi), SqL.of (e2 _ _ (e1 _ _ h2)), by simp⟩
    · exact ⟨vs, SqL.of (e2 _ _ (e1 _ _ h2)), by rw [itsD_len, h3.length]; exact Nat.le_refl _⟩
    · obtain ⟨d, hd, rfl⟩ := itsD_get ht
      obtain ⟨w, h4, h5⟩ := h3.get hd
      have e := yy.2 vs (SqL.of (e2 _ _ (e1 _ _ h2)))
      rw [h4] at e
      cases e
      exact ⟨yy.1, Rep.mono e1 _ _ h5⟩
theorem wi_tup (h : W c ta τ fun r τ1 b1 => ∃ ds, r = .dat (.tup ds) ∧ Φ (itsD ds) τ1 b1) : WI c (iTup K ta) τ Φ := fun σ G H F o R q =>
  h σ G H F o _ fun x G1 H1 F1 rx τ1 b1 p1 g1 s1 => by
    obtain ⟨ds, rfl, k⟩ := p1
    obtain ⟨a, vs, rfl, h2, h3⟩ := s1
    refine ⟨a, rfl, ⟨vs, .inl (rd_mono g1.ok.ex h2)⟩, q _ _ G1 H1 F1 τ1 b1 k g1 ⟨fun i G H hi e1 e2 _ => ?_, fun G H e1 e2 _ => ?_, fun i t G H y H' ht e1 e2 _ yy => ?_⟩⟩
    · rw [itsD_len] at hi
      exact ⟨vs, vs[i]'(by rw [h3.length]; exact hi), .inl (rd_mono (e1.trans e2) h2), by simp⟩
    · exact ⟨vs, .inl (rd_mono (e1.trans e2) h2), by rw [itsD_len, h3.length]; exact Nat.le_refl _⟩
    · obtain ⟨d, hd, rfl⟩ := itsD_get ht
      obtain ⟨w, h4, h5⟩ := h3.get hd
      have e := yy.2 vs (.inl (rd_mono (e1.trans e2) h2))
      rw [h4] at e
      cases e
      exact ⟨yy.1, Rep.mono e1 _ _ h5⟩
/-- a volatile list: its items too -/
def itsV (ds : List DD) : List Itm := ds.map fun d => .one (.vol d)
theorem itsV_get {ds : List DD} {i : Nat} {t : Itm} (h : (itsV ds)[i]? = some t) : ∃ d, ds[i]? = some d ∧ t = .one (.vol d) := by
  unfold itsV at h
  rw [List.getElem?_map] at h
  cases z : ds[i]? with
  | none => rw [z] at h; cases h
  | some d =>
    rw [z] at h
    exact ⟨d, rfl, (Option.some.inj h).symm⟩
theorem itsV_len {ds : List DD} : (itsV ds).length = ds.length := List.length_map _
theorem wi_listV (h : W c ta τ fun r τ1 b1 => ∃ ds, r = .vol (.lst ds) ∧ Φ (itsV ds) τ1 b1) : WI c (iList K ta) τ Φ := fun σ G H F o R q =>
  h σ G H F o _ fun x G1 H1 F1 rx τ1 b1 p1 g1 s1 => by
    obtain ⟨ds, rfl, k⟩ := p1
    obtain ⟨Gv, hv, a, vs, rfl, h2, h3⟩ := s1
    have at_ : ∀ {G H : Hp}, Fr c.X c.G0 c.H0 G H → H a = some (.lst vs) := fun f => f.h a _ (hv a _ h2).1 (hv a _ h2).2
    refine ⟨a, rfl, ⟨vs, SqL.of (at_ g1.ok.fr)⟩, q _ _ G1 H1 F1 τ1 b1 k g1 ⟨fun i G H hi e1 e2 f => ?_, fun G H e1 e2 f => ?_, fun i t G H y H' ht e1 e2 f yy => ?_⟩⟩
    · rw [itsV_len] at hi
      exact ⟨vs, vs[i]'(by rw [h3.length]; exact hi), SqL.of (at_ f), by simp⟩
    · exact ⟨vs, SqL.of (at_ f), by rw [itsV_len, h3.length]; exact Nat.le_refl _⟩
    · obtain ⟨d, hd, rfl⟩ := itsV_get ht
      obtain ⟨w, h4, h5⟩ := h3.get hd
      have e := yy.2 vs (SqL.of (at_ f))
      rw [h4] at e
      cases e
      exact ⟨yy.1, Gv, hv, h5⟩
def itsR (lo : Int) (n : Nat) : List Itm := (List.range n).map fun k => .one (.dat (.int (lo + (k : Nat))))
theorem itsR_len {lo : Int} {n : Nat} : (itsR lo n).length = n := by
  unfold itsR
  rw [List.length_map, List.length_range]
theorem itsR_get {lo : Int} {n i : Nat} {t : Itm} (h : (itsR lo n)[i]? = some t) : i < n ∧ t = .one (.dat (.int (lo + (i : Nat)))) := by
  unfold itsR at h
  rw [List.getElem?_map] at h
  cases z : (List.range n)[i]? with
  | none => rw [z] at h; cases h
  | some k =>
    rw [z] at h
    obtain ⟨q, e⟩ := List.getElem?_eq_some_iff.mp z
    rw [List.getElem_range] at e
    subst e
    rw [List.length_range] at q
    exact ⟨q, (Option.some.inj h).symm⟩
theorem wk_range {lo : Int} {n : Nat} {G1 : Hp} : Wk c (Itr lo n) (itsR lo n) G1 :=
  ⟨fun i G H hi _ _ _ => by rw [itsR_len] at hi; exact hi, fun G H _ _ _ => by rw [itsR_len]; exact Nat.le_refl n, fun i t G H x H' ht _ _ _ y => by
    obtain ⟨q, rfl⟩ := itsR_get ht
    exact ⟨y.1, y.2⟩⟩
theorem wi_range1 (h : WA c t τ fun rs τ1 b1 => ∃ n : Int, rs = [.dat (.int n)] ∧ -1000000 ≤ n ∧ n ≤ 1000000 ∧ Φ (itsR 0 n.toNat) τ1 b1) : WI c (iRng1 t) τ Φ := fun σ G H F o R q =>
  h σ G H F o _ fun x G1 H1 F1 rx τ1 b1 p1 g1 s1 => by
    obtain ⟨n, rfl, l1, l2, k⟩ := p1
    cases s1 with
    | cons a b =>
      cases b
      cases a
      exact ⟨n, rfl, by omega, by omega, q _ _ G1 H1 F1 τ1 b1 k g1 wk_range⟩
theorem wi_range2 (h : WA c t τ fun rs τ1 b1 => ∃ m n : Int, rs = [.dat (.int m), .dat (.int n)] ∧ -1000000 ≤ m ∧ m ≤ 1000000 ∧ -1000000 ≤ n ∧ n ≤ 1000000 ∧ Φ (itsR m (n - m).toNat) τ1 b1) : WI c (iRng2 t) τ Φ := fun σ G H F o R q =>
  h σ G H F o _ fun x G1 H1 F1 rx τ1 b1 p1 g1 s1 => by
    obtain ⟨m, n, rfl, l1, l2, l3, l4, k⟩ := p1
    cases s1 with
    | cons a b =>
      cases b with
      | cons a2 b2 =>
        cases b2
        cases a
        cases a2
        exact ⟨m, n, rfl, by omega, q _ _ G1 H1 F1 τ1 b1 k g1 wk_range⟩
def itsE (f : DD → Tg) (ds : List DD) : List Itm := (List.range ds.length).zipWith (fun k d => .two (.dat (.int (k : Nat))) (f d)) ds
theorem itsE_len {f : DD → Tg} {ds : List DD} : (itsE f ds).length = ds.length := by
  unfold itsE
  rw [List.length_zipWith, List.length_range]
  exact Nat.min_self _
theorem itsE_get {f : DD → Tg} {ds : List DD} {i : Nat} {t : Itm} (h : (itsE f ds)[i]? = some t) : ∃ d, ds[i]? = some d ∧ t = .two (.dat (.int (i : Nat))) (f d) := by
  unfold itsE at h
  rw [List.getElem?_zipWith] at h
  cases z : ds[i]? with
  | none =>
    rw [z] at h
    cases w : (List.range ds.length)[i]? with
    | none => rw [w] at h; cases h
    | some k => rw [w] at h; cases h
  | some d =>
    cases w : (List.range ds.length)[i]? with
    | none => rw [w] at h; cases h
    | some k =>
      rw [w, z] at h
      obtain ⟨q, e⟩ := List.getElem?_eq_some_iff.mp w
      rw [List.getElem_range] at e
      subst e
      exact ⟨d, rfl, (Option.some.inj h).symm⟩
theorem wi_enum (h : WA c t τ fun rs τ1 b1 => ∃ ds, rs = [.dat (.lst ds)] ∧ Φ (itsE .dat ds) τ1 b1) : WI c (iEnum K t) τ Φ := fun σ G H F o R q =>
  h σ G H F o _ fun x G1 H1 F1 rx τ1 b1 p1 g1 s1 => by
    obtain ⟨ds, rfl, k⟩ := p1
    cases s1 with
    | cons s1 b =>
      cases b
      obtain ⟨a, vs, rfl, h2, h3⟩ := s1
      refine ⟨a, vs, rfl, SqL.of (g1.ok.ex _ _ h2), q _ _ G1 H1 F1 τ1 b1 k g1 ⟨fun i G H hi e1 e2 _ => ?_, fun G H e1 e2 _ => ?_, fun i t G H y H' ht e1 e2 _ yy => ?_⟩⟩
      · rw [itsE_len] at hi
        exact ⟨vs, vs[i]'(by rw [h3.length]; exact hi), SqL.of (e2 _ _ (e1 _ _ h2)), by simp⟩
      · exact ⟨vs, SqL.of (e2 _ _ (e1 _ _ h2)), by rw [itsE_len, h3.length]; exact Nat.le_refl _⟩
      · obtain ⟨d, hd, rfl⟩ := itsE_get ht
        obtain ⟨w, h4, h5⟩ := h3.get hd
        obtain ⟨T, x, y1, y2, y3, y4⟩ := yy
        have e := y4 vs (SqL.of (e2 _ _ (e1 _ _ h2)))
        rw [h4] at e
        cases e
        exact ⟨T, _, _, y1, y2, y3, rfl, Rep.mono e1 _ _ h5⟩
theorem wi_enumV (h : WA c t τ fun rs τ1 b1 => ∃ ds, rs = [.vol (.lst ds)] ∧ Φ (itsE .vol ds) τ1 b1) : WI c (iEnum K t) τ Φ := fun σ G H F o R q =>
  h σ G H F o _ fun x G1 H1 F1 rx τ1 b1 p1 g1 s1 => by
    obtain ⟨ds, rfl, k⟩ := p1
    cases s1 with
    | cons s1 b =>
      cases b
      obtain ⟨Gv, hv, a, vs, rfl, h2, h3⟩ := s1
      have at_ : ∀ {G H : Hp}, Fr c.X c.G0 c.H0 G H → H a = some (.lst vs) := fun f => f.h a _ (hv a _ h2).1 (hv a _ h2).2
      refine ⟨a, vs, rfl, SqL.of (at_ g1.ok.fr), q _ _ G1 H1 F1 τ1 b1 k g1 ⟨fun i G H hi e1 e2 f => ?_, fun G H e1 e2 f => ?_, fun i t G H y H' ht e1 e2 f yy => ?_⟩⟩
      · rw [itsE_len] at hi
        exact ⟨vs, vs[i]'(by rw [h3.length]; exact hi), SqL.of (at_ f), by simp⟩
      · exact ⟨vs, SqL.of (at_ f), by rw [itsE_len, h3.length]; exact Nat.le_refl _⟩
      · obtain ⟨d, hd, rfl⟩ := itsE_get ht
        obtain ⟨w, h4, h5⟩ := h3.get hd
        obtain ⟨T, x, y1, y2, y3, y4⟩ := yy
        have e := y4 vs (SqL.of (at_ f))
        rw [h4] at e
        cases e
        exact ⟨T, _, _, y1, y2, y3, rfl, Gv, hv, h5⟩
/-! ### for, while -/
theorem ws_for {wi : TI} (h : WI c wi τ fun its τ1 _ => ∃ Inv : Nat → Lc → Prop, Inv 0 τ1 ∧
    (∀ k it τ2, its[k]? = some it → Inv k τ2 → WGI c g it τ2 fun τ3 => WS c ts τ3 { nx := Inv (k + 1), rt := D.rt, bk := D.nx, ct := Inv (k + 1) }) ∧ (∀ τ2, Inv its.length τ2 → D.nx τ2)) : WS c (tFor wi g ts) τ D := fun σ G H F o De l =>
  h σ G H F o _ fun J its G1 H1 F1 τ1 b1 p1 g1 wk => by
    obtain ⟨Inv, i0, is, ie⟩ := p1
    refine ⟨fun i m σ' H' => ∃ τ' G' F', Inv i τ' ∧ Ok c τ' σ' G' H' F' ∧ Same G1 G' ∧ i + m = its.length, ⟨its.length, τ1, G1, F1, i0, g1.ok, Same.refl _, by omega⟩, ?_⟩
    rintro i m σ' H' ⟨τ', G', F', hi, o', e', em⟩
    by_cases hl : i < its.length
    · refine .inr ⟨wk.go i G' H' hl e' o'.ex o'.fr, fun σ2 H2 => ∃ τ2 G2 F2, Inv (i + 1) τ2 ∧ Ok c τ2 σ2 G2 H2 F2 ∧ Same G1 G2, ?_, fun x H2 y => ?_⟩
      · rintro σ2 H2 ⟨τ2, G2, F2, a1, a2, a3⟩
        exact ⟨m - 1, by omega, τ2, G2, F2, a1, a2, a3, by omega⟩
      · have ht : its[i]? = some its[i] := by simp
        have yy := wk.yl i _ G' H' x H2 ht e' o'.ex o'.fr y
        refine is i _ τ' ht hi σ' G' H' F' x H2 o' yy _ fun τ3 σ3 G3 H3 F3 n3 o3 f3 _ => ?_
        have e3 := f3.g
        exact n3 σ3 G3 H3 F3 o3 _ ⟨fun τ4 σ4 G4 H4 F4 a o4 e4 => ⟨τ4, G4, F4, a, o4, e'.trans (e3.trans e4)⟩, l.rt, fun τ4 σ4 G4 H4 F4 a o4 e4 => l.nx τ4 σ4 G4 H4 F4 a o4 (g1.fr.g.trans (e'.trans (e3.trans e4))),
          fun τ4 σ4 G4 H4 F4 a o4 e4 => ⟨τ4, G4, F4, a, o4, e'.trans (e3.trans e4)⟩⟩
    · have e : i = its.length := by omega
      subst e
      exact .inl ⟨wk.stop G' H' e' o'.ex o'.fr, l.nx τ' σ' G' H' F' (ie τ' hi) o' (g1.fr.g.trans e')⟩
theorem ws_while {tt : TT} (Inv : Nat → Lc → Prop) (m0 : Nat) (h0 : Inv m0 τ)
    (hs : ∀ m τ1, Inv m τ1 → WT c tt τ1 fun k τ2 _ => if k = true then WS c ts τ2 { nx := fun τ3 => ∃ m', m' < m ∧ Inv m' τ3, rt := D.rt, bk := D.nx, ct := fun τ3 => ∃ m', m' < m ∧ Inv m' τ3 } else D.nx τ2) : WS c (tWhile tt ts) τ D := fun σ G H F o De l => by
  refine ⟨fun m σ' H' => ∃ τ' G' F', Inv m τ' ∧ Ok c τ' σ' G' H' F' ∧ Same G G', ⟨m0, τ, G, F, h0, o, Same.refl _⟩, ?_⟩
  rintro m σ' H' ⟨τ', G', F', hi, o', e'⟩
  refine hs m τ' hi σ' G' H' F' o' _ fun k G1 H1 F1 τ1 b1 p1 g1 => ?_
  cases k with
  | false => exact l.nx τ1 σ' G1 H1 F1 p1 g1.ok (e'.trans g1.fr.g)
  | true =>
    have p1 : WS c ts τ1 { nx := fun τ3 => ∃ m', m' < m ∧ Inv m' τ3, rt := D.rt, bk := D.nx, ct := fun τ3 => ∃ m', m' < m ∧ Inv m' τ3 } := p1
    refine ⟨fun σ2 H2 => ∃ m', m' < m ∧ ∃ τ2 G2 F2, Inv m' τ2 ∧ Ok c τ2 σ2 G2 H2 F2 ∧ Same G G2, ?_, p1 σ' G1 H1 F1 g1.ok _ ⟨fun τ4 σ4 G4 H4 F4 a o4 e4 => ?_, l.rt, fun τ4 σ4 G4 H4 F4 a o4 e4 => l.nx τ4 σ4 G4 H4 F4 a o4 (e'.trans (g1.fr.g.trans e4)), fun τ4 σ4 G4 H4 F4 a o4 e4 => ?_⟩⟩
    · rintro σ2 H2 ⟨m', hm, τ2, G2, F2, a⟩
      exact ⟨m', hm, τ2, G2, F2, a⟩
    · obtain ⟨m', hm, a⟩ := a
      exact ⟨m', hm, τ4, G4, F4, a, o4, e'.trans (g1.fr.g.trans e4)⟩
    · obtain ⟨m', hm, a⟩ := a
      exact ⟨m', hm, τ4, G4, F4, a, o4, e'.trans (g1.fr.g.trans e4)⟩
end
/-! ### comprehensions -/
def wipeT (τ : Lc) : List Nat → Lc
  | [] => τ
  | v :: vs => (wipeT τ vs).set v none
/-- the slots at vs as they were ahead -/
def unwipe (τ τ' : Lc) : List Nat → Lc
  | [] => τ'
  | v :: vs => (unwipe τ τ' vs).set v (τ[v]?.getD none)
theorem wipeT_length (τ : Lc) : ∀ vs : List Nat, (wipeT τ vs).length = τ.length
  | [] => rfl
  | v :: vs => by unfold wipeT; rw [List.length_set, wipeT_length τ vs]
theorem unwipe_length (τ τ' : Lc) : ∀ vs : List Nat, (unwipe τ τ' vs).length = τ'.length
  | [] => rfl
  | v :: vs => by unfold unwipe; rw [List.length_set, unwipe_length τ τ' vs]
theorem wipe_get {σ : L2.St} {i : Nat} : ∀ {vs : List Nat}, i ∉ vs → (wipe σ vs)[i]? = σ[i]?
  | [], _ => rfl
  | v :: vs, h => by
    unfold wipe
    rw [List.getElem?_set_ne (fun e => h (by rw [e]; exact List.mem_cons_self)), wipe_get (fun m => h (List.mem_cons_of_mem _ m))]
theorem wipeT_get {τ : Lc} {i : Nat} : ∀ {vs : List Nat}, i ∉ vs → (wipeT τ vs)[i]? = τ[i]?
  | [], _ => rfl
  | v :: vs, h => by
    unfold wipeT
    rw [List.getElem?_set_ne (fun e => h (by rw [e]; exact List.mem_cons_self)), wipeT_get (fun m => h (List.mem_cons_of_mem _ m))]
theorem wipeT_some {τ : Lc} {i : Nat} {t : Tg} : ∀ {vs : List Nat}, (wipeT τ vs)[i]? = some (some t) → τ[i]? = some (some t) ∧ i ∉ vs
  | [], h => ⟨h, by simp⟩
  | v :: vs, h => by
    unfold wipeT at h
    by_cases hi : v = i
    · subst hi
      by_cases hv : v < (wipeT τ vs).length
      · rw [List.getElem?_set_self hv] at h; cases h
      · rw [List.getElem?_eq_none (by simpa using hv)] at h; cases h
    · rw [List.getElem?_set_ne hi] at h
      obtain ⟨h1, h2⟩ := wipeT_some h
      exact ⟨h1, by simp only [List.mem_cons, not_or]; exact ⟨fun e => hi e.symm, h2⟩⟩
theorem unwipe_out {τ τ' : Lc} {i : Nat} : ∀ {vs : List Nat}, i ∉ vs → (unwipe τ τ' vs)[i]? = τ'[i]?
  | [], _ => rfl
  | v :: vs, h => by
    unfold unwipe
    rw [List.getElem?_set_ne (fun e => h (by rw [e]; exact List.mem_cons_self)), unwipe_out (fun m => h (List.mem_cons_of_mem _ m))]
theorem unwipe_in {τ τ' : Lc} {i : Nat} (hl : i < τ'.length) : ∀ {vs : List Nat}, i ∈ vs → (unwipe τ τ' vs)[i]? = some (τ[i]?.getD none)
  | [], h => by simp at h
  | v :: vs, h => by
    unfold unwipe
    by_cases e : v = i
    · subst e
      rw [List.getElem?_set_self (by rw [unwipe_length]; exact hl)]
    · rw [List.getElem?_set_ne e]
      exact unwipe_in hl ((List.mem_cons.mp h).elim (fun z => absurd z.symm e) id)
/-- at these slots stands nothing that can be changed -/
def still (τ : Lc) (vs : List Nat) : Prop := ∀ i ∈ vs, ∀ l R, τ[i]? ≠ some (some (.res l R))
section
variable {c : Cfg} {τ τ1 τ2 : Lc} {te ta tb : TE} {t : TA} {g g1 g2 : TG} {Φ : Tg → Lc → Bool → Prop} {tt : TT} {wi : TI} {vs : List Nat} {σ σ2 : L2.St} {G H G1 H1 : Hp} {F F1 : Nat → Addr → Prop}
theorem Ok.wipe (o : Ok c τ σ2 G H F) (hs : ∀ i ∈ vs, free τ i) : ∃ F', Ok c (wipeT τ vs) (L2.wipe σ2 vs) G H F' ∧ ∀ i a, F' i a → F i a := by
  refine ⟨fun i a => F i a ∧ i ∉ vs, ?_, fun i a h => h.1⟩
  constructor
  · exact o.ex
  · exact o.tu
  · exact o.fr
  · rw [L2.wipe_length, wipeT_length, o.len]
  · intro i t h
    obtain ⟨h1, h2⟩ := wipeT_some h
    obtain ⟨v, h3, h4⟩ := o.sl i t h1
    exact ⟨v, by rw [wipe_get h2]; exact h3, h4⟩
  · intro i l R h
    obtain ⟨h1, h2⟩ := wipeT_some h
    obtain ⟨v, h3, h4⟩ := o.rs i l R h1
    refine ⟨v, by rw [wipe_get h2]; exact h3, ?_⟩
    have e : (fun a => F i a ∧ i ∉ vs) = F i := by
      funext a
      exact propext ⟨fun z => z.1, fun z => ⟨z, h2⟩⟩
    rw [e]
    exact h4
  · intro i a h
    obtain ⟨h1, h2, l, R, h3, h4⟩ := o.own i a h.1
    exact ⟨h1, h2, l, R, by rw [wipeT_get h.2]; exact h3, h4⟩
  · exact fun i j a hij h1 h2 => o.dj i j a hij h1.1 h2.1
  · intro p hp
    obtain ⟨h1, R, h2⟩ := o.pn p hp
    have hn : p.1 ∉ vs := fun m => hs _ m R h2
    exact ⟨by rw [wipe_get hn]; exact h1, R, by rw [wipeT_get hn]; exact h2⟩
/-- behind a comprehension: the frame's slots as they were, what is outside of the block's own as the block left it -/
theorem Ok.unwipe (o1 : Ok c τ1 σ G1 H1 F1) (o2 : Ok c τ2 (L2.wipe σ vs) G H F) (e : Same G1 G) (hs : still τ1 vs) (hw : ∀ i ∈ vs, ∀ t, τ2[i]? ≠ some (some t)) : Ok c (Z.unwipe τ1 τ2 vs) σ G H F := by
  have ln : τ2.length = σ.length := by rw [← o2.len, L2.wipe_length]
  have nf : ∀ i a, F i a → i ∉ vs := fun i a h m => by
    obtain ⟨_, _, l, R, h3, _⟩ := o2.own i a h
    exact hw i m _ h3
  constructor
  · exact o2.ex
  · exact o2.tu
  · exact o2.fr
  · rw [unwipe_length, ln]
  · intro i t h
    by_cases m : i ∈ vs
    · have hl : i < τ2.length := by
        have := (List.getElem?_eq_some_iff.mp h).1
        rw [unwipe_length] at this
        exact this
      rw [unwipe_in hl m] at h
      have h' : τ1[i]? = some (some t) := by
        cases z : τ1[i]? with
        | none => rw [z] at h; cases h
        | some u => rw [z] at h; exact h
      obtain ⟨v, h3, h4⟩ := o1.sl i t h'
      refine ⟨v, h3, ?_⟩
      cases t with
      | dat d => exact Rep.mono e d v h4
      | vol d => exact h4
      | tmp d => exact h4
      | res l R => exact h4
      | ali i => exact h4
    · rw [unwipe_out m] at h
      obtain ⟨v, h3, h4⟩ := o2.sl i t h
      exact ⟨v, by rw [wipe_get m] at h3; exact h3, h4⟩
  · intro i l R h
    by_cases m : i ∈ vs
    · have hl : i < τ2.length := by
        have := (List.getElem?_eq_some_iff.mp h).1
        rw [unwipe_length] at this
        exact this
      rw [unwipe_in hl m] at h
      have h' : τ1[i]? = some (some (.res l R)) := by
        cases z : τ1[i]? with
        | none => rw [z] at h; cases h
        | some u => rw [z] at h; exact h
      exact absurd h' (hs i m l R)
    · rw [unwipe_out m] at h
      obtain ⟨v, h3, h4⟩ := o2.rs i l R h
      exact ⟨v, by rw [wipe_get m] at h3; exact h3, h4⟩
  · intro i a h
    obtain ⟨h1, h2, l, R, h3, h4⟩ := o2.own i a h
    exact ⟨h1, h2, l, R, by rw [unwipe_out (nf i a h)]; exact h3, h4⟩
  · exact o2.dj
  · intro p hp
    obtain ⟨h1, R, h2⟩ := o2.pn p hp
    have hn : p.1 ∉ vs := fun m => hw _ m _ h2
    exact ⟨by rw [wipe_get hn] at h1; exact h1, R, by rw [unwipe_out hn]; exact h2⟩
/-- the target changes the block's own slots alone -/
def GW (g : TG) (vs : List Nat) : Prop := ∀ v σ H (Q : L2.St → Hp → Prop), (g v σ H fun σ' H' => wipe σ' vs = wipe σ vs → Q σ' H') → g v σ H fun σ' H' => wipe σ' vs = wipe σ vs ∧ Q σ' H'
def GWs (g : TGs) (vs : List Nat) : Prop := ∀ v σ H (Q : L2.St → Hp → Prop), (g v σ H fun σ' H' => wipe σ' vs = wipe σ vs → Q σ' H') → g v σ H fun σ' H' => wipe σ' vs = wipe σ vs ∧ Q σ' H'
theorem wipe_set {σ : L2.St} {i : Nat} {x : Option V} : ∀ {vs : List Nat}, i ∈ vs → wipe (σ.set i x) vs = wipe σ vs
  | [], h => by simp at h
  | v :: vs, h => by
    unfold wipe
    by_cases e : i ∈ vs
    · rw [wipe_set e]
    · have ei : i = v := (List.mem_cons.mp h).elim id fun z => absurd z e
      subst ei
      have q : ∀ ws : List Nat, i ∉ ws → wipe (σ.set i x) ws = (wipe σ ws).set i x := fun ws => by
        induction ws with
        | nil => intro _; rfl
        | cons w ws ih =>
          intro hw
          unfold wipe
          rw [ih (fun m => hw (List.mem_cons_of_mem _ m)), List.set_comm _ _ (fun z => hw (by rw [z]; exact List.mem_cons_self))]
      rw [q vs e, List.set_set]
theorem gw_name {i : Nat} (h : i ∈ vs) : GW (gName i) vs := fun v σ H Q q => ⟨wipe_set h, q (wipe_set h)⟩
theorem gws_nil : GWs gNil vs := fun v σ H Q q => ⟨q.1, rfl, q.2 rfl⟩
theorem gws_name {i : Nat} {gs : TGs} (h : i ∈ vs) (k : GWs gs vs) : GWs (gCons (gName i) gs) vs := fun v σ H Q q => by
  obtain ⟨x, r, e, q⟩ := q
  have q : gs r (σ.set i (some x)) H fun σ' H' => wipe σ' vs = wipe σ vs → Q σ' H' := q
  refine ⟨x, r, e, ?_⟩
  show gs r (σ.set i (some x)) H fun σ' H' => wipe σ' vs = wipe σ vs ∧ Q σ' H'
  have := k r (σ.set i (some x)) H Q (by
    rw [wipe_set h]
    exact q)
  rw [wipe_set h] at this
  exact this
theorem gws_tup {K : PySem.W.Frag} {i j : Nat} {gs : TGs} (h : i ∈ vs) (h' : j ∈ vs) (k : GWs gs vs) : GWs (gCons (gTup K 2 (gCons (gName i) (gCons (gName j) gNil))) gs) vs := fun v σ H Q q => by
  obtain ⟨x, r, e, a, xs, e2, hs, hl, y, r2, e3, q⟩ := q
  obtain ⟨z, r3, e4, e5, q⟩ := q
  have q : gs r ((σ.set i (some y)).set j (some z)) H fun σ' H' => wipe σ' vs = wipe σ vs → Q σ' H' := q
  refine ⟨x, r, e, a, xs, e2, hs, hl, y, r2, e3, z, r3, e4, e5, ?_⟩
  have := k r ((σ.set i (some y)).set j (some z)) H Q (by
    rw [wipe_set h', wipe_set h]
    exact q)
  rw [wipe_set h', wipe_set h] at this
  exact this
theorem gw_tup {K : PySem.W.Frag} {n : Nat} {gs : TGs} (k : GWs gs vs) : GW (gTup K n gs) vs := fun v σ H Q q => by
  obtain ⟨a, xs, e, h, hl, q⟩ := q
  exact ⟨a, xs, e, h, hl, k xs σ H Q q⟩
theorem wipe_wipe {σ : L2.St} : ∀ {vs : List Nat}, wipe (wipe σ vs) vs = wipe σ vs := by
  intro vs
  have q : ∀ (ws : List Nat) (σ : L2.St), (∀ i ∈ ws, i < σ.length → σ[i]? = some none) → wipe σ ws = σ := fun ws => by
    induction ws with
    | nil => intro σ _; rfl
    | cons w ws ih =>
      intro σ h
      unfold wipe
      rw [ih σ fun i m => h i (List.mem_cons_of_mem _ m)]
      by_cases hw : w < σ.length
      · have e := h w List.mem_cons_self hw
        apply List.ext_getElem?
        intro j
        by_cases ej : w = j
        · subst ej
          rw [List.getElem?_set_self hw, e]
        · rw [List.getElem?_set_ne ej]
      · rw [List.set_eq_of_length_le (by omega)]
  refine q vs _ fun i m hi => ?_
  cases z : (wipe σ vs)[i]? with
  | none => rw [List.getElem?_eq_none_iff] at z; omega
  | some u =>
    cases u with
    | none => rfl
    | some v => exact absurd m (wipe_some z).2
theorem Ok.put {D : Addr} {u : HO} (o : Ok c τ σ G H F) (h1 : G D = none) (h2 : ∀ i, ¬ F i D) (h3 : c.H0 D = none) (hu : ¬ isTp u) : Ok c τ σ G (upd H D u) F where
  ex := same_own o.ex h1
  tu := o.tu.new hu
  fr := ⟨o.fr.g, fun a v z w => by
    rw [upd_ne (ne_of_none z h3)]
    exact o.fr.h a v z w, o.fr.n, fun a z => by
    by_cases e : a = D
    · rw [e, upd_same]
      exact fun y => nomatch y
    · rw [upd_ne e]
      exact o.fr.t a z⟩
  len := o.len
  sl := o.sl
  rs := fun i l R h => by
    obtain ⟨v, k1, k2⟩ := o.rs i l R h
    exact ⟨v, k1, R.mono v _ _ _ _ _ k2 (Same.refl G) fun a ha => upd_ne (fun e => h2 i (by rw [← e]; exact ha))⟩
  own := fun i a h => by
    obtain ⟨k1, k2, k3⟩ := o.own i a h
    refine ⟨?_, k2, k3⟩
    rw [upd_ne (fun e => h2 i (by rw [← e]; exact h))]
    exact k1
  dj := o.dj
  pn := o.pn
/-- THE RULE for a comprehension: the list so far and the slots -/
theorem w_lcM (hg : GW g vs) (h : WI c wi τ fun its τ1 b1 => still τ1 vs ∧ ∃ Inv : Nat → List DD → Lc → Prop, Inv 0 [] (wipeT τ1 vs) ∧
    (∀ k it acc τ2, its[k]? = some it → acc.length ≤ k → Inv k acc τ2 → WGI c g it τ2 fun τ3 => WT c tt τ3 fun kp τ4 _ =>
      if kp = true then W c te τ4 fun r τ5 _ => (∀ i ∈ vs, free τ5 i) ∧ ∃ d, r = .dat d ∧ Inv (k + 1) (acc ++ [d]) (wipeT τ5 vs) else (∀ i ∈ vs, free τ4 i) ∧ Inv (k + 1) acc (wipeT τ4 vs)) ∧
    (its.length ≤ 100000 ∧ ∀ acc τ2, acc.length ≤ its.length → Inv its.length acc τ2 → (∀ i ∈ vs, ∀ t, τ2[i]? ≠ some (some t)) ∧ Φ (.res true (ownL acc)) (unwipe τ1 τ2 vs) false)) : W c (tLc wi g tt te vs) τ Φ := fun σ G H F o Q q =>
  h σ G H F o _ fun J its G1 H1 F1 τ1 b1 p1 g1 wk => by
    obtain ⟨hst, Inv, i0, is, hz, ie⟩ := p1
    intro D hD
    obtain ⟨F1', ow, hF1⟩ := g1.ok.wipe (vs := vs) fun i m R => hst i m false R
    -- the frame of the block
    have gD : G1 D = none := by
      cases z : G1 D with
      | none => rfl
      | some w => have := g1.ok.ex _ _ z; rw [hD] at this; cases this
    have h0D : c.H0 D = none := by
      cases z : c.H0 D with
      | none => rfl
      | some w => exact absurd hD (g1.ok.fr.t D (ne_none z))
    have hHD : H D = none := by
      cases z : H D with
      | none => rfl
      | some w => exact absurd hD (g1.fr.t D (ne_none z))
    refine ⟨fun i m H' => ∃ acc τ' G' F' ys, Inv i acc τ' ∧ acc.length ≤ i ∧ Ok c τ' (wipe σ vs) G' H' F' ∧ Same G1 G' ∧ i + m = its.length ∧ H' D = some (.lst ys) ∧ RepL G' acc ys ∧ G' D = none ∧ (∀ i, ¬ F' i D) ∧
      Fr (Mt false F1) G1 H1 G' H' ∧ (∀ i a, F' i a → F1 i a ∨ H1 a = none), ⟨its.length, ?_⟩, ?_⟩
    · have f := Fr.new (G := G1) (o := .lst []) hD
      refine ⟨[], wipeT τ1 vs, G1, F1', [], i0, Nat.le_refl _, ow.grow f (same_new g1.ok.ex hD) (g1.ok.tu.new fun z => z), Same.refl _, by omega, upd_same, rfl, gD, fun i z => (ow.own i D z).1 hD, f.mono fun _ z => z.elim, fun i a z => .inl (hF1 i a z)⟩
    · rintro i m H' ⟨acc, τ', G', F', ys, hi, hal, o', e', em, hys, rys, gD', nF, fr', fp'⟩
      by_cases hl : i < its.length
      · refine .inr ⟨wk.go i G' H' hl e' o'.ex o'.fr, fun H2 => ∃ acc τ' G' F' ys, Inv (i + 1) acc τ' ∧ acc.length ≤ i + 1 ∧ Ok c τ' (wipe σ vs) G' H2 F' ∧ Same G1 G' ∧ H2 D = some (.lst ys) ∧ RepL G' acc ys ∧ G' D = none ∧ (∀ i, ¬ F' i D) ∧
          Fr (Mt false F1) G1 H1 G' H2 ∧ (∀ i a, F' i a → F1 i a ∨ H1 a = none), ?_, fun x H2 y => ?_⟩
        · rintro H2 ⟨acc, τ', G', F', ys, a1, a2, a3, a4, a5, a6, a7, a8, a9, a10⟩
          exact ⟨m - 1, by omega, acc, τ', G', F', ys, a1, a2, a3, a4, by omega, a5, a6, a7, a8, a9, a10⟩
        · have ht : its[i]? = some its[i] := by simp
          have yy := wk.yl i _ G' H' x H2 ht e' o'.ex o'.fr y
          -- the same, seen with the new list left out
          have key : ∀ Q0 : L2.St → Hp → Prop, (g x (wipe σ vs) H2 fun σ2 H3 => wipe σ2 vs = wipe σ vs → Q0 σ2 H3) → g x (wipe σ vs) H2 fun σ2 H3 => wipe σ2 vs = wipe σ vs ∧ Q0 σ2 H3 := fun Q0 q0 => by
            have := hg x (wipe σ vs) H2 Q0 (by
              simp only [wipe_wipe]
              exact q0)
            simp only [wipe_wipe] at this
            exact this
          -- the value drawn keeps the new list as it is
          have hy2 : H2 D = some (.lst ys) ∧ Fr No G' H' G' H2 := by
            cases hit : its[i] with
            | one t =>
              rw [hit] at yy
              obtain ⟨rfl, _⟩ := yy
              exact ⟨hys, Fr.refl⟩
            | two t u =>
              rw [hit] at yy
              obtain ⟨T, y, z, _, hT, rfl, _, _⟩ := yy
              exact ⟨by rw [upd_ne (ne_of_none hys hT)]; exact hys, Fr.new hT⟩
          -- the end of a turn: no slot of the block is left, the list is longer
          have fin : ∀ {σ5 : L2.St} {τ5 : Lc} {G5 H5 : Hp} {F5 : Nat → Addr → Prop}, wipe σ5 vs = wipe σ vs → Ok c τ5 σ5 G5 H5 F5 → (∀ j ∈ vs, free τ5 j) → Fr (Mt false F1) G1 H1 G5 H5 → H5 D = some (.lst ys) → G5 D = none → (∀ j a, F5 j a → F' j a ∨ H' a = none) →
              ∃ F6, Ok c (wipeT τ5 vs) (wipe σ vs) G5 H5 F6 ∧ (∀ j, ¬ F6 j D) ∧ ∀ j a, F6 j a → F1 j a ∨ H1 a = none := fun {σ5 τ5 G5 H5 F5} hw5 o5 h5 f5 hD5 gD5 k5 => by
            obtain ⟨F6, o6, k6⟩ := o5.wipe (vs := vs) h5
            rw [hw5] at o6
            refine ⟨F6, o6, fun j z => ?_, fun j a z => ?_⟩
            · rcases k5 j D (k6 j D z) with y | y
              · exact nF j y
              · rw [hys] at y; cases y
            · rcases k5 j a (k6 j a z) with y | y
              · exact fp' j a y
              · refine .inr ?_
                cases w : H1 a with
                | none => rfl
                | some u => exact absurd y (fr'.t a (by rw [w]; exact (fun z => by cases z)))
          have stp := is i _ acc τ' ht hal hi (wipe σ vs) G' H' F' x H2 o' yy
          refine key _ (stp _ fun τ3 σ3 G3 H3 F3 n3 o3 f3 k3 hw3 => ?_)
          have hD3 : H3 D = some (.lst ys) := f3.h D _ hys fun z => z
          have gD3 : G3 D = none := f3.n D gD' (ne_none hys) (fun z => z)
          refine n3 σ3 G3 H3 F3 o3 _ fun kp G4 H4 F4 τ4 b4 p4 g4 => ?_
          have hD4 : H4 D = some (.lst ys) := g4.fr.h D _ hD3 fun z => nF _ (k3 _ _ z.2.choose_spec)
          have gD4 : G4 D = none := g4.fr.n D gD3 (ne_none hD3) (fun z => nF _ (k3 _ _ z.2.choose_spec))
          have f4 : Fr (Mt false F1) G1 H1 G4 H4 := by
            refine Fr.trans (Fr.trans fr' f3 fun _ z => z.elim) (g4.fr.mono (Y := Mt false F') fun a z => ⟨rfl, z.2.imp fun j y => k3 j a y⟩) fun a z => ?_
            obtain ⟨_, j, z⟩ := z
            rcases fp' j a z with y | y
            · exact .inl ⟨rfl, j, y⟩
            · exact .inr y
          have k4 : ∀ j a, F4 j a → F' j a ∨ H' a = none := fun j a z => (g4.fp j a z).imp (k3 j a) fun y => by
            cases w : H' a with
            | none => rfl
            | some u => exact absurd y (f3.t a (by rw [w]; exact (fun z => by cases z)))
          cases kp with
          | false =>
            have p4 : (∀ i ∈ vs, free τ4 i) ∧ Inv (i + 1) acc (wipeT τ4 vs) := p4
            obtain ⟨F6, o6, n6, k6⟩ := fin hw3 g4.ok p4.1 f4 hD4 gD4 k4
            exact ⟨acc, _, G4, F6, ys, p4.2, by omega, o6, e'.trans (f3.g.trans g4.fr.g), hD4, rys.mono (f3.g.trans g4.fr.g) _ _, gD4, n6, f4, k6⟩
          | true =>
            have p4 : W c te τ4 fun r τ5 _ => (∀ i ∈ vs, free τ5 i) ∧ ∃ d, r = .dat d ∧ Inv (i + 1) (acc ++ [d]) (wipeT τ5 vs) := p4
            refine p4 σ3 G4 H4 F4 g4.ok _ fun y G5 H5 F5 r5 τ5 b5 p5 g5 s5 => ?_
            obtain ⟨hf5, d, rfl, i5⟩ := p5
            have nF4 : ∀ j, ¬ F4 j D := fun j z => by
              rcases k4 j D z with y | y
              · exact nF j y
              · rw [hys] at y; cases y
            have hD5 : H5 D = some (.lst ys) := g5.fr.h D _ hD4 fun z => nF4 _ z.2.choose_spec
            have gD5 : G5 D = none := g5.fr.n D gD4 (ne_none hD4) (fun z => nF4 _ z.2.choose_spec)
            have f5 : Fr (Mt false F1) G1 H1 G5 H5 := by
              refine Fr.trans f4 (g5.fr.mono (Y := Mt false F4) fun a z => ⟨rfl, z.2⟩) fun a z => ?_
              obtain ⟨_, j, z⟩ := z
              rcases k4 j a z with y | y
              · rcases fp' j a y with y | y
                · exact .inl ⟨rfl, j, y⟩
                · exact .inr y
              · refine .inr ?_
                cases w : H1 a with
                | none => rfl
                | some u => exact absurd y (fr'.t a (by rw [w]; exact (fun z => by cases z)))
            have k5 : ∀ j a, F5 j a → F' j a ∨ H' a = none := fun j a z => by
              rcases g5.fp j a z with y | y
              · exact k4 j a y
              · refine .inr ?_
                cases w : H' a with
                | none => rfl
                | some u => exact absurd y (g4.fr.t a (f3.t a (by rw [w]; exact (fun z => by cases z))))
            obtain ⟨F6, o6, n6, k6⟩ := fin hw3 g5.ok hf5 f5 hD5 gD5 k5
            have eg : Same G' G5 := f3.g.trans (g4.fr.g.trans g5.fr.g)
            refine ⟨ys, hD5, by rw [rys.length]; exact sz_lt (by omega), acc ++ [d], _, G5, F6, ys ++ [y], i5, by rw [List.length_append, List.length_singleton]; omega, o6.put gD5 n6 h0D (fun z => z), e'.trans eg, upd_same, (rys.mono eg _ _).append (RepL.cons s5 rfl), gD5, n6, ?_, k6⟩
            exact ⟨f5.g, fun a u z w => by
              rw [upd_ne (ne_of_none z hD)]
              exact f5.h a u z w, f5.n, fun a z => by
              by_cases ea : a = D
              · rw [ea, upd_same]; exact (fun z => by cases z)
              · rw [upd_ne ea]; exact f5.t a z⟩
      · have e : i = its.length := by omega
        subst e
        refine .inl ⟨wk.stop G' H' e' o'.ex o'.fr, ?_⟩
        obtain ⟨hw, k⟩ := ie acc τ' hal hi
        have ou := Ok.unwipe g1.ok o' e' hst hw
        have f2 := fr'
        have gg := g1.trans (b2 := false) (τ2 := unwipe τ1 τ' vs) (G2 := G') (H2 := H') (F2 := F') ⟨ou, f2, fp'⟩
        rw [Bool.and_false] at gg
        refine q _ G' H' F' _ _ false k gg ⟨rfl, _, ⟨D, ys, rfl, hys, rys, rfl⟩, fun a ha => ?_⟩
        subst ha
        exact ⟨hHD, by rw [hys]; exact (fun z => by cases z), gD', nF⟩
end
end Z
set_option Elab.async false
set_option linter.all false
set_option maxRecDepth 100000
/-! Z5: the operators on data; owned lists changed. -/
namespace Z
open PySem PySem.Spec PyProof.Rows L2
/-! ### numbers -/
section
variable {G H : Hp} {i j : Int}
theorem o2_I0 {g : Int → Int → V} {f : DD} (h : ∀ G, Rep G f (g i j)) : Op2 (rI0 g) (.int i) (.int j) f := fun G H x y e t hx hy Q q => ⟨i, j, hx, hy, q _ G H Fr.refl e t (h G)⟩
theorem o2_I {C : Int → Int → Prop} {g : Int → Int → V} {f : DD} (hc : C i j) (h : ∀ G, Rep G f (g i j)) : Op2 (rI C g) (.int i) (.int j) f := fun G H x y e t hx hy Q q => ⟨i, j, hx, hy, hc, q _ G H Fr.refl e t (h G)⟩
theorem o2_add : Op2 (rI0 fun i j => .int (i + j)) (.int i) (.int j) (.int (i + j)) := o2_I0 fun _ => rfl
theorem o2_sub : Op2 (rI0 fun i j => .int (i - j)) (.int i) (.int j) (.int (i - j)) := o2_I0 fun _ => rfl
theorem o2_lt : Op2 (rI0 fun i j => .bl (decide (i < j))) (.int i) (.int j) (.bl (decide (i < j))) := o2_I0 fun _ => rfl
theorem o2_le : Op2 (rI0 fun i j => .bl (decide (i ≤ j))) (.int i) (.int j) (.bl (decide (i ≤ j))) := o2_I0 fun _ => rfl
theorem o2_gt : Op2 (rI0 fun i j => .bl (decide (j < i))) (.int i) (.int j) (.bl (decide (j < i))) := o2_I0 fun _ => rfl
theorem o2_ge : Op2 (rI0 fun i j => .bl (decide (j ≤ i))) (.int i) (.int j) (.bl (decide (j ≤ i))) := o2_I0 fun _ => rfl
theorem o2_mul (h : CMul i j) : Op2 (rI CMul fun i j => .int (i * j)) (.int i) (.int j) (.int (i * j)) := o2_I h fun _ => rfl
theorem o2_mod (h : 0 < j) : Op2 (rI (fun _ j => 0 < j) fun i j => .int (i % j)) (.int i) (.int j) (.int (i % j)) := o2_I h fun _ => rfl
theorem o2_fdiv (h : CDivW i j) : Op2 (rI CDivW fun i j => .int (i / j)) (.int i) (.int j) (.int (i / j)) := o2_I h fun _ => rfl
theorem o2_pow (h : CPow i j) : Op2 (rI CPow fun i j => .int (i ^ j.toNat)) (.int i) (.int j) (.int (i ^ j.toNat)) := o2_I h fun _ => rfl
theorem o1_neg : Op1 (rU fun i => .int (-i)) (.int i) (.int (-i)) := fun G H x e t hx Q q => ⟨i, hx, q _ G H Fr.refl e t rfl⟩
end
theorem cmul_l {i j : Int} (h : -1000000000000000000 < i ∧ i < 1000000000000000000) : CMul i j := .inl ⟨by omega, by omega⟩
theorem cmul_r {i j : Int} (h : -1000000000000000000 < j ∧ j < 1000000000000000000) : CMul i j := .inr ⟨by omega, by omega⟩
/-! ### data as the kit's data -/
mutual
def py : DD → PyData
  | .bl b => .bool b
  | .int i => .int i
  | .str s => .str s
  | .tup xs => .tuple (pyL xs)
  | .tpl xs => .tuple (pyL xs)
  | .lst xs => .list (pyL xs)
  | _ => .none
def pyL : List DD → List PyData
  | [] => []
  | x :: xs => py x :: pyL xs
end
/-! plain data of a depth -/
mutual
def Nice : Nat → DD → Prop
  | _, .non => True
  | _, .bl _ => True
  | _, .int _ => True
  | _, .str s => PyData.strOk s = true
  | 0, .tup _ => False
  | 0, .tpl _ => False
  | 0, .lst _ => False
  | n + 1, .tup xs => NiceL n xs
  | n + 1, .tpl xs => NiceL n xs
  | n + 1, .lst xs => NiceL n xs
  | _, .ty _ => False
  | _, .abs _ _ => False
  | _, .obj _ _ _ => False
def NiceL : Nat → List DD → Prop
  | _, [] => True
  | n, x :: xs => Nice n x ∧ NiceL n xs
end
theorem NiceL.of {n : Nat} : ∀ {xs : List DD}, (∀ x ∈ xs, Nice n x) → NiceL n xs
  | [], _ => by unfold NiceL; exact True.intro
  | x :: xs, h => by
    unfold NiceL
    exact ⟨h x List.mem_cons_self, NiceL.of fun y hy => h y (List.mem_cons_of_mem _ hy)⟩
theorem NiceL.mem {n : Nat} : ∀ {xs : List DD}, NiceL n xs → ∀ x ∈ xs, Nice n x
  | [], _, x, h => by simp at h
  | y :: ys, h, x, hx => by
    unfold NiceL at h
    rcases List.mem_cons.mp hx with e | e
    · rw [e]; exact h.1
    · exact NiceL.mem h.2 x e
theorem nice_lst {n : Nat} {xs : List DD} (h : ∀ x ∈ xs, Nice n x) : Nice (n + 1) (.lst xs) := by
  unfold Nice
  exact NiceL.of h
theorem nice_tup {n : Nat} {xs : List DD} (h : ∀ x ∈ xs, Nice n x) : Nice (n + 1) (.tup xs) := by
  unfold Nice
  exact NiceL.of h
theorem nice_tpl {n : Nat} {xs : List DD} (h : ∀ x ∈ xs, Nice n x) : Nice (n + 1) (.tpl xs) := by
  unfold Nice
  exact NiceL.of h
theorem nice_int {n : Nat} {i : Int} : Nice n (.int i) := by cases n <;> (unfold Nice; exact True.intro)
theorem nice_bl {n : Nat} {i : Bool} : Nice n (.bl i) := by cases n <;> (unfold Nice; exact True.intro)
theorem nice_non {n : Nat} : Nice n .non := by cases n <;> (unfold Nice; exact True.intro)
mutual
theorem Nice.lay : ∀ (n : Nat) (d : DD), Nice n d → (py d).canLay0 = true ∧ (py d).depth ≤ n
  | n, .non, _ => by simp [py, PyData.canLay0, PyData.depth]
  | n, .bl _, _ => by simp [py, PyData.canLay0, PyData.depth]
  | n, .int _, _ => by simp [py, PyData.canLay0, PyData.depth]
  | n, .str s, h => by
    have h' : PyData.strOk s = true := by cases n <;> (unfold Nice at h; exact h)
    simp [py, PyData.canLay0, PyData.depth, h']
  | 0, .tup _, h => by unfold Nice at h; exact h.elim
  | 0, .tpl _, h => by unfold Nice at h; exact h.elim
  | 0, .lst _, h => by unfold Nice at h; exact h.elim
  | n + 1, .tup xs, h => by
    unfold Nice at h
    have := NiceL.lay n xs h
    simp [py, PyData.canLay0, PyData.depth, this.1]
    exact this.2
  | n + 1, .lst xs, h => by
    unfold Nice at h
    have := NiceL.lay n xs h
    simp [py, PyData.canLay0, PyData.depth, this.1]
    exact this.2
  | n + 1, .tpl xs, h => by
    unfold Nice at h
    have := NiceL.lay n xs h
    simp [py, PyData.canLay0, PyData.depth, this.1]
    exact this.2
  | n, .ty _, h => by cases n <;> (unfold Nice at h; exact h.elim)
  | n, .abs _ _, h => by cases n <;> (unfold Nice at h; exact h.elim)
  | n, .obj _ _ _, h => by cases n <;> (unfold Nice at h; exact h.elim)
theorem NiceL.lay : ∀ (n : Nat) (ds : List DD), NiceL n ds → PyData.canLayAll0 (pyL ds) = true ∧ PyData.depthAll (pyL ds) ≤ n
  | n, [], _ => by simp [pyL, PyData.canLayAll0, PyData.depthAll]
  | n, d :: ds, h => by
    unfold NiceL at h
    have h1 := Nice.lay n d h.1
    have h2 := NiceL.lay n ds h.2
    simp only [pyL, PyData.canLayAll0, PyData.depthAll, h1.1, h2.1, Bool.and_self, true_and]
    omega
end
theorem Nice.shaped {n : Nat} {d : DD} (h : Nice n d) (hn : n ≤ 64) : SeqAt.shaped (py d) = true := by
  have := Nice.lay n d h
  simp [SeqAt.shaped, this.1]
  omega
mutual
theorem Nice.dp {K : PySem.W.Frag} {H : Hp} : ∀ (n : Nat) (d : DD) (v : V), Nice n d → Rep H d v → Dp K H v (py d)
  | n, .non, _, _, h => by
    have e : _ = V.non := h
    subst e
    exact .non
  | n, .bl b, _, _, h => by
    have e : _ = V.bl b := h
    subst e
    exact .bl b
  | n, .int b, _, _, h => by
    have e : _ = V.int b := h
    subst e
    exact .int b
  | n, .str b, _, _, h => by
    have e : _ = V.str b := h
    subst e
    exact .str b
  | 0, .tup _, _, h, _ => by unfold Nice at h; exact h.elim
  | 0, .tpl _, _, h, _ => by unfold Nice at h; exact h.elim
  | 0, .lst _, _, h, _ => by unfold Nice at h; exact h.elim
  | n + 1, .tup xs, _, hn, h => by
    unfold Nice at hn
    obtain ⟨a, vs, rfl, h2, h3⟩ := h
    exact .tup (.inl h2) (NiceL.dp n xs vs hn h3)
  | n + 1, .tpl xs, _, hn, h => by
    unfold Nice at hn
    obtain ⟨a, vs, o, rfl, h2, h3⟩ := h
    exact .tup (.inl (.inr ⟨o, h2.1⟩)) (NiceL.dp n xs vs hn h3)
  | n + 1, .lst xs, _, hn, h => by
    unfold Nice at hn
    obtain ⟨a, vs, rfl, h2, h3⟩ := h
    exact .lst (SqL.of h2) (NiceL.dp n xs vs hn h3)
  | n, .ty _, _, h, _ => by cases n <;> (unfold Nice at h; exact h.elim)
  | n, .abs _ _, _, h, _ => by cases n <;> (unfold Nice at h; exact h.elim)
  | n, .obj _ _ _, _, h, _ => by cases n <;> (unfold Nice at h; exact h.elim)
theorem NiceL.dp {K : PySem.W.Frag} {H : Hp} : ∀ (n : Nat) (ds : List DD) (vs : List V), NiceL n ds → RepL H ds vs → DpAll K H vs (pyL ds)
  | n, [], _, _, h => by
    have e : _ = [] := h
    subst e
    exact .nil
  | n, d :: ds, _, hn, h => by
    unfold NiceL at hn
    obtain ⟨v, r, rfl, h2, h3⟩ := h
    exact .cons (Nice.dp n d v hn.1 h2) (NiceL.dp n ds r hn.2 h3)
end
/-- == of data -/
def deqv (d e : DD) : Bool := PyData.eqv (py d) (py e)
theorem o2_eq {K : PySem.W.Frag} {d e : DD} {n m : Nat} (h1 : Nice n d) (h2 : Nice m e) (hn : n ≤ 64) (hm : m ≤ 64) : Op2 (rEqD K) d e (.bl (deqv d e)) := fun G H x y ex t hx hy Q q =>
  ⟨py d, py e, Nice.dp n d x h1 hx, Nice.dp m e y h2 hy, h1.shaped hn, h2.shaped hm, q _ G H Fr.refl ex t rfl⟩
theorem o2_ne {K : PySem.W.Frag} {d e : DD} {n m : Nat} (h1 : Nice n d) (h2 : Nice m e) (hn : n ≤ 64) (hm : m ≤ 64) : Op2 (rNeD K) d e (.bl (!deqv d e)) := fun G H x y ex t hx hy Q q =>
  ⟨py d, py e, Nice.dp n d x h1 hx, Nice.dp m e y h2 hy, h1.shaped hn, h2.shaped hm, q _ G H Fr.refl ex t rfl⟩
theorem o2_inD {K : PySem.W.Frag} {d : DD} {es : List DD} {n m : Nat} (h1 : Nice n d) (h2 : Nice m (.lst es)) (hn : n ≤ 64) (hm : m ≤ 64) : Op2 (rInD K) d (.lst es) (.bl (es.any fun z => deqv z d)) := fun G H x y ex t hx hy Q q => by
  have e : ∀ es : List DD, (pyL es).any (fun z => PyData.eqv z (py d)) = es.any fun z => deqv z d := fun es => by
    induction es with
    | nil => rfl
    | cons a r ih =>
      show (PyData.eqv (py a) (py d) || (pyL r).any fun z => PyData.eqv z (py d)) = (deqv a d || r.any fun z => deqv z d)
      rw [ih]
      rfl
  refine ⟨py d, pyL es, Nice.dp n d x h1 hx, Nice.dp m _ y h2 hy, h1.shaped hn, h2.shaped hm, ?_⟩
  rw [e es]
  exact q _ G H Fr.refl ex t rfl
theorem deqv_int {i j : Int} : deqv (.int i) (.int j) = (i == j) := by simp [deqv, py, PyData.eqv]
theorem deqv_str {i j : Str} : deqv (.str i) (.str j) = (i == j) := by simp [deqv, py, PyData.eqv]
theorem deqv_bl {i j : Bool} : deqv (.bl i) (.bl j) = (i == j) := by simp [deqv, py, PyData.eqv]
def deqvL : List DD → List DD → Bool
  | [], [] => true
  | x :: xs, y :: ys => deqv x y && deqvL xs ys
  | _, _ => false
theorem eqvAll_L : ∀ {xs ys : List DD}, PyData.eqvAll (pyL xs) (pyL ys) = deqvL xs ys
  | [], [] => rfl
  | [], _ :: _ => rfl
  | _ :: _, [] => rfl
  | x :: xs, y :: ys => by
    show (PyData.eqv (py x) (py y) && PyData.eqvAll (pyL xs) (pyL ys)) = (deqv x y && deqvL xs ys)
    rw [eqvAll_L]
    rfl
theorem deqv_lst {xs ys : List DD} : deqv (.lst xs) (.lst ys) = deqvL xs ys := by
  show PyData.eqv (.list (pyL xs)) (.list (pyL ys)) = _
  rw [PyData.eqv, eqvAll_L]
theorem deqv_tup {xs ys : List DD} : deqv (.tup xs) (.tup ys) = deqvL xs ys := by
  show PyData.eqv (.tuple (pyL xs)) (.tuple (pyL ys)) = _
  rw [PyData.eqv, eqvAll_L]
theorem deqvL_self_iff {α : Type} {f : α → DD} (hf : ∀ a b, deqv (f a) (f b) = true ↔ a = b) : ∀ {xs ys : List α}, deqvL (xs.map f) (ys.map f) = true ↔ xs = ys
  | [], [] => by simp [deqvL]
  | [], y :: ys => by simp [deqvL]
  | x :: xs, [] => by simp [deqvL]
  | x :: xs, y :: ys => by
    rw [List.map_cons, List.map_cons, deqvL, Bool.and_eq_true, hf, deqvL_self_iff hf, List.cons.injEq]
/-! ### subscripts -/
section
variable {c : Cfg} {τ : Lc} {Φ : Tg → Lc → Bool → Prop} {te ta tb tc : TE} {t : TA} {K : PySem.W.Frag} {D : AE} {i j : Nat}
theorem atI_rep {G : Hp} {ds : List DD} {vs : List V} {n : Int} {d : DD} (h : RepL G ds vs) (ha : atI ds n = some d) : ∃ v, atI vs n = some v ∧ Rep G d v := by
  unfold atI at ha ⊢
  rw [h.length]
  cases z : ixN ds.length n with
  | none => rw [z] at ha; cases ha
  | some k =>
    rw [z] at ha
    exact h.get ha
/-- an item of data, of a list of one's own -/
theorem w_ix (h : W c ta τ fun x τ1 b1 => W c tb τ1 fun y τ2 b2 => stb x b2 = true ∧ ∃ n d, y = .dat (.int n) ∧ ((∃ ds, Dl τ2 x (.lst ds) ∧ atI ds n = some d) ∨ ∃ ds, Dl τ2 x (.tup ds) ∧ atI ds n = some d) ∧ Φ (.dat d) τ2 (b1 && b2)) :
    W c (tOp (rIx K) ta tb) τ Φ := fun σ G H F o Q q =>
  h σ G H F o _ fun x G1 H1 F1 rx τ1 b1 p1 g1 s1 => p1 σ G1 H1 F1 g1.ok _ fun y G2 H2 F2 ry τ2 b2 p2 g2 s2 => by
    obtain ⟨hs, n, d, rfl, hd, k⟩ := p2
    have s1' := s1.keep g2 hs
    have e2 : y = .int n := s2
    subst e2
    rcases hd with ⟨ds, hl, ha⟩ | ⟨ds, hl, ha⟩
    · obtain ⟨p, vs, rfl, h2, h3⟩ := hl.lst g2.ok s1'
      obtain ⟨v, h4, h5⟩ := atI_rep h3 ha
      exact .inl ⟨p, vs, n, v, rfl, rfl, SqL.of h2, h4, q v G2 H2 F2 _ τ2 _ k (g1.trans g2) h5⟩
    · obtain ⟨p, vs, rfl, h2, h3⟩ := hl.tup g2.ok s1'
      obtain ⟨v, h4, h5⟩ := atI_rep h3 ha
      exact .inr (.inl ⟨p, vs, n, v, rfl, rfl, .inl h2, h4, q v G2 H2 F2 _ τ2 _ k (g1.trans g2) h5⟩)
def scal : DD → Bool
  | .non => true
  | .bl _ => true
  | .int _ => true
  | .str _ => true
  | .ty _ => true
  | _ => false
theorem scal_any {d : DD} (h : scal d = true) {G G' : Hp} {v : V} (r : Rep G d v) : Rep G' d v := by
  cases d with
  | tup xs => cases h
  | tpl xs => cases h
  | lst xs => cases h
  | obj C ns xs => cases h
  | abs φ m => cases h
  | _ => exact r
/-- a seen thing's part: a number is data -/
def seen (f : DD → Tg) (d : DD) : Tg := if scal d = true then .dat d else f d
theorem w_ixV (h : W c ta τ fun x τ1 b1 => W c tb τ1 fun y τ2 b2 => stb x b2 = true ∧ ∃ n d, y = .dat (.int n) ∧ ((∃ ds, x = .vol (.lst ds) ∧ atI ds n = some d ∧ Φ (seen .vol d) τ2 (b1 && b2)) ∨ (∃ ds, x = .vol (.tup ds) ∧ atI ds n = some d ∧ Φ (seen .vol d) τ2 (b1 && b2)) ∨
      (∃ ds, Dv τ2 x (.lst ds) ∧ atI ds n = some d ∧ Φ (seen .tmp d) τ2 (b1 && b2)) ∨ ∃ ds, Dv τ2 x (.tup ds) ∧ atI ds n = some d ∧ Φ (seen .tmp d) τ2 (b1 && b2))) :
    W c (tOp (rIx K) ta tb) τ Φ := fun σ G H F o Q q =>
  h σ G H F o _ fun x G1 H1 F1 rx τ1 b1 p1 g1 s1 => p1 σ G1 H1 F1 g1.ok _ fun y G2 H2 F2 ry τ2 b2 p2 g2 s2 => by
    obtain ⟨hs, n, d, rfl, hd⟩ := p2
    have s1' := s1.keep g2 hs
    have e2 : y = .int n := s2
    subst e2
    have fin : ∀ (f : DD → Tg) (v : V), Φ (seen f d) τ2 (b1 && b2) → (scal d = false → Rs c σ H G2 H2 F2 (f d) v) → (∃ Gx, Rep Gx d v) → Q v H2 := fun f v k hf hr => by
      refine q v G2 H2 F2 _ τ2 _ k (g1.trans g2) ?_
      obtain ⟨Gx, hr⟩ := hr
      unfold seen
      cases z : scal d with
      | true =>
        rw [if_pos rfl]
        exact scal_any z hr
      | false =>
        rw [if_neg (by simp)]
        exact hf z
    rcases hd with ⟨ds, rfl, ha, k⟩ | ⟨ds, rfl, ha, k⟩ | ⟨ds, hl, ha, k⟩ | ⟨ds, hl, ha, k⟩
    · obtain ⟨Gv, hv, a, vs, rfl, h2, h3⟩ := s1'
      obtain ⟨v, h4, h5⟩ := atI_rep h3 ha
      exact .inl ⟨a, vs, n, v, rfl, rfl, SqL.of (g2.ok.fr.h a _ (hv a _ h2).1 (hv a _ h2).2), h4, fin _ v k (fun _ => ⟨Gv, hv, h5⟩) ⟨Gv, h5⟩⟩
    · obtain ⟨Gv, hv, a, vs, rfl, h2, h3⟩ := s1'
      obtain ⟨v, h4, h5⟩ := atI_rep h3 ha
      exact .inr (.inl ⟨a, vs, n, v, rfl, rfl, .inl (rd_mono (fun a o z => g2.ok.fr.h a o (hv a o z).1 (hv a o z).2) h2), h4, fin _ v k (fun _ => ⟨Gv, hv, h5⟩) ⟨Gv, h5⟩⟩)
    · obtain ⟨a, vs, rfl, h2, h3⟩ := hl.rep g2.ok s1'
      obtain ⟨v, h4, h5⟩ := atI_rep h3 ha
      exact .inl ⟨a, vs, n, v, rfl, rfl, SqL.of h2, h4, fin _ v k (fun _ => h5) ⟨H2, h5⟩⟩
    · obtain ⟨a, vs, rfl, h2, h3⟩ := hl.rep g2.ok s1'
      obtain ⟨v, h4, h5⟩ := atI_rep h3 ha
      exact .inr (.inl ⟨a, vs, n, v, rfl, rfl, .inl h2, h4, fin _ v k (fun _ => h5) ⟨H2, h5⟩⟩)
/-! ### built-ins -/
def rLen (K : PySem.W.Frag) : List V → Hp → VK → Prop := fun xs H Q => ∃ p ys, xs = [.ref p] ∧ (SqL K H p ys ∨ SqT K H p ys) ∧ Q (.int ys.length) H
theorem oa_lenL {ds : List DD} : OpA (rLen K) [.lst ds] (.int ds.length) := fun G H xs e t h Q q => by
  obtain ⟨v, r, rfl, ⟨a, vs, rfl, h2, h3⟩, h4⟩ := h
  have e4 : r = [] := h4
  subst e4
  refine ⟨a, vs, rfl, .inl (SqL.of h2), ?_⟩
  rw [h3.length]
  exact q _ G H Fr.refl e t rfl
theorem oa_lenT {ds : List DD} : OpA (rLen K) [.tup ds] (.int ds.length) := fun G H xs e t h Q q => by
  obtain ⟨v, r, rfl, ⟨a, vs, rfl, h2, h3⟩, h4⟩ := h
  have e4 : r = [] := h4
  subst e4
  refine ⟨a, vs, rfl, .inr (.inl h2), ?_⟩
  rw [h3.length]
  exact q _ G H Fr.refl e t rfl
theorem oa_all {bs : List Bool} : OpA (rAll K) [.lst (bs.map .bl)] (.bl (bs.all id)) := fun G H xs e t h Q q => by
  obtain ⟨v, r, rfl, ⟨a, vs, rfl, h2, h3⟩, h4⟩ := h
  have e4 : r = [] := h4
  subst e4
  rw [h3.bls] at h2
  exact ⟨a, bs, rfl, SqL.of h2, q _ G H Fr.refl e t rfl⟩
theorem oa_any {bs : List Bool} : OpA (rAny K) [.lst (bs.map .bl)] (.bl (bs.any id)) := fun G H xs e t h Q q => by
  obtain ⟨v, r, rfl, ⟨a, vs, rfl, h2, h3⟩, h4⟩ := h
  have e4 : r = [] := h4
  subst e4
  rw [h3.bls] at h2
  exact ⟨a, bs, rfl, SqL.of h2, q _ G H Fr.refl e t rfl⟩
theorem oa_sum {ns : List Int} : OpA (rSum K) [.lst (ns.map .int)] (.int ns.sum) := fun G H xs e t h Q q => by
  obtain ⟨v, r, rfl, ⟨a, vs, rfl, h2, h3⟩, h4⟩ := h
  have e4 : r = [] := h4
  subst e4
  rw [h3.ints] at h2
  exact ⟨a, ns, rfl, SqL.of h2, q _ G H Fr.refl e t rfl⟩
/-- the name of a datum's type -/
def tyN : DD → String
  | .non => "NoneType"
  | .bl _ => "bool"
  | .int _ => "int"
  | .str _ => "str"
  | .tup _ => "tuple"
  | .tpl _ => "tuple"
  | .lst _ => "list"
  | _ => ""
def isPl : DD → Bool
  | .ty _ => false
  | .abs _ _ => false
  | .obj _ _ _ => false
  | _ => true
theorem tyx_of {H : Hp} {d : DD} {v : V} (hp : isPl d = true) (h : Rep H d v) : TyX K H v (.type (tyN d)) := by
  cases d with
  | non => cases (show v = V.non from h); exact .base .non
  | bl b => cases (show v = V.bl b from h); exact .base (.bl b)
  | int b => cases (show v = V.int b from h); exact .base (.int b)
  | str b => cases (show v = V.str b from h); exact .base (.str b)
  | tup xs =>
    obtain ⟨a, vs, rfl, h2, _⟩ := h
    rcases h2 with h2 | ⟨o, h2⟩
    · exact .base (.tup h2)
    · exact .fTuple h2
  | tpl xs => obtain ⟨a, vs, o, rfl, h2, _⟩ := h; exact .fTuple h2.1
  | lst xs => obtain ⟨a, vs, rfl, h2, _⟩ := h; exact .base (.lst h2)
  | ty n => cases hp
  | abs _ _ => cases hp
  | obj C ns xs => cases hp
theorem oa_isi {d : DD} {n : String} {b : Bool} (hp : isPl d = true) (hk : kitB (tyN d) n = some b) : OpA (rIsi K) [d, .ty n] (.bl b) := fun G H xs e t h Q q => by
  obtain ⟨v, r, rfl, h2, v2, r2, rfl, h3, h4⟩ := h
  have e4 : r2 = [] := h4
  subst e4
  cases (show v2 = V.ty n from h3)
  exact ⟨v, .ty n, .type (tyN d), .type n, b, rfl, .ty n, tyx_of hp h2, kit_ty hk, q _ G H Fr.refl e t rfl⟩
def isiAny (a : String) : List String → Option Bool
  | [] => some false
  | n :: ns => match kitB a n with
    | some true => some true
    | some false => isiAny a ns
    | none => none
theorem kitAny_of {a : String} : ∀ {ns : List String} {b : Bool}, isiAny a ns = some b → PySem.W.kitAny K (.type a) (ns.map Value.type) = some b
  | [], b, h => h
  | n :: ns, b, h => by
    unfold isiAny at h
    cases z : kitB a n with
    | none => rw [z] at h; cases h
    | some k =>
      rw [z] at h
      have := kit_ty (K := K) z
      cases k with
      | true =>
        cases h
        show PySem.W.kitAny K (.type a) (.type n :: _) = _
        unfold PySem.W.kitAny
        rw [this]
      | false =>
        show PySem.W.kitAny K (.type a) (.type n :: _) = _
        unfold PySem.W.kitAny
        rw [this]
        exact kitAny_of h
/-- isinstance(x, (a, b)), the tuple of built-in classes written there -/
theorem w_isi2 {a b : String} (h : W c ta τ fun x τ1 b1 => ∃ d k, Dv τ1 x d ∧ isPl d = true ∧ isiAny (tyN d) [a, b] = some k ∧ Φ (.dat (.bl k)) τ1 b1) :
    W c (tCB (rIsiT K) (tCons ta (tCons (tTup (tCons (tC (.ty a)) (tCons (tC (.ty b)) tNil))) tNil))) τ Φ := fun σ G H F o Q q =>
  h σ G H F o _ fun x G1 H1 F1 rx τ1 b1 p1 g1 s1 => by
    obtain ⟨d, k, hd, hp, hk, kk⟩ := p1
    have hr := hd.rep g1.ok s1
    show [V.ty a, V.ty b].length ≤ sizeLine ∧ _
    refine ⟨sz_le (by show 2 ≤ 100000; decide), fun p hpp => ?_⟩
    have g2 := Go.grow g1.ok (Fr.both (o := .tup [V.ty a, V.ty b]) g1.ok.ex hpp) (same_both g1.ok.ex) g1.ok.tu.both
    have gg := g1.trans g2
    rw [Bool.and_true] at gg
    exact ⟨x, p, [V.ty a, V.ty b], .type (tyN d), [.type a, .type b], k, rfl, upd_same, .cons (.ty a) (.cons (.ty b) .nil), tyx_of hp (Rep.mono (Fr.both (o := .tup [V.ty a, V.ty b]) (Same.refl H1) hpp).same _ _ hr), kitAny_of (ns := [a, b]) hk, q _ _ _ F1 _ τ1 b1 kk gg rfl⟩
/-- list(x) -/
def rListOf (K : PySem.W.Frag) : List V → Hp → VK → Prop := fun xs H Q => ∃ p ys, xs = [.ref p] ∧ (SqL K H p ys ∨ SqT K H p ys) ∧ ∀ l, H l = none → Q (.ref l) (upd H l (.lst ys))
theorem mkL_list {ds : List DD} : MkL (rListOf K) (.lst ds) ds := fun G H p vs e Q h k => by
  obtain ⟨es, h1 | h1, h2⟩ := h
  · cases h1.1
    exact ⟨p, vs, rfl, .inl (SqL.of h1.2), fun l hl => k l vs hl h2⟩
  · cases h1.1
theorem mkL_listT {ds : List DD} : MkL (rListOf K) (.tup ds) ds := fun G H p vs e Q h k => by
  obtain ⟨es, h1 | h1, h2⟩ := h
  · cases h1.1
  · cases h1.1
    exact ⟨p, vs, rfl, .inr (.inl h1.2), fun l hl => k l vs hl h2⟩
/-- tuple(x): of a list a new one, whose object is known -/
def rTupN (K : PySem.W.Frag) : List V → Hp → VK → Prop := fun xs H Q => ∃ p ys, xs = [.ref p] ∧ ((SqL K H p ys ∧ ∀ (l : Addr) (o : Obj), H l = none → o.dict = none → Q (.ref l) (upd H l (.frz o (.tup ys)))) ∨ (SqT K H p ys ∧ Q (.ref p) H))
def hardL (ds : List DD) : Bool := ds.all scal
theorem hardL_any {G G' : Hp} : ∀ {ds : List DD} {vs : List V}, hardL ds = true → RepL G ds vs → RepL G' ds vs
  | [], _, _, h => h
  | d :: ds, _, hh, h => by
    obtain ⟨v, r, rfl, h2, h3⟩ := h
    have q : scal d = true ∧ hardL ds = true := by
      unfold hardL at hh ⊢
      rw [List.all_cons, Bool.and_eq_true] at hh
      exact hh
    exact RepL.cons (scal_any q.1 h2) (hardL_any q.2 h3)
theorem w_tupN (h : W c ta τ fun x τ1 b1 => ∃ ds, (Dl τ1 x (.lst ds) ∨ (Dv τ1 x (.lst ds) ∧ hardL ds = true)) ∧ Φ (.dat (.tpl ds)) τ1 b1) : W c (tCB (rTupN K) (tCons ta tNil)) τ Φ := fun σ G H F o Q q =>
  h σ G H F o _ fun x G1 H1 F1 rx τ1 b1 p1 g1 s1 => by
    obtain ⟨ds, hd, k⟩ := p1
    have new : ∀ (vs : List V), RepL G1 ds vs → ∀ (l : Addr) (o : Obj), H1 l = none → o.dict = none → Q (.ref l) (upd H1 l (.frz o (.tup vs))) := fun vs rr l o hl hdn => by
      have g2 := Go.grow g1.ok (Fr.both (o := .frz o (.tup vs)) g1.ok.ex hl) (same_both g1.ok.ex) g1.ok.tu.both
      have gg := g1.trans g2
      rw [Bool.and_true] at gg
      exact q _ _ _ F1 _ τ1 b1 k gg ⟨l, vs, o, rfl, ⟨upd_same, hdn⟩, rr.mono g2.fr.g _ _⟩
    rcases hd with hl | ⟨hl, hh⟩
    · obtain ⟨p, vs, rfl, h2, h3⟩ := hl.lst g1.ok s1
      exact ⟨p, vs, rfl, .inl ⟨SqL.of h2, new vs h3⟩⟩
    · obtain ⟨p, vs, rfl, h2, h3⟩ := hl.rep g1.ok s1
      exact ⟨p, vs, rfl, .inl ⟨SqL.of h2, new vs (hardL_any hh h3)⟩⟩
/-- of a tuple the same -/
theorem w_tupT (h : W c ta τ fun x τ1 b1 => ∃ ds, (x = .dat (.tup ds) ∨ (Dv τ1 x (.tup ds) ∧ hardL ds = true)) ∧ Φ (.dat (.tup ds)) τ1 b1) : W c (tCB (rTupN K) (tCons ta tNil)) τ Φ := fun σ G H F o Q q =>
  h σ G H F o _ fun x G1 H1 F1 rx τ1 b1 p1 g1 s1 => by
    obtain ⟨ds, hd, k⟩ := p1
    rcases hd with rfl | ⟨hl, hh⟩
    · obtain ⟨p, vs, rfl, h2, h3⟩ := s1
      exact ⟨p, vs, rfl, .inr ⟨.inl (rd_mono g1.ok.ex h2), q _ G1 H1 F1 _ τ1 b1 k g1 ⟨p, vs, rfl, h2, h3⟩⟩⟩
    · obtain ⟨p, vs, rfl, h2, h3⟩ := hl.rep g1.ok s1
      exact ⟨p, vs, rfl, .inr ⟨.inl h2, q _ G1 H1 F1 _ τ1 b1 k g1 ⟨p, vs, rfl, g1.ok.tu.rd h2, hardL_any hh h3⟩⟩⟩
/-- list(range(..)) -/
theorem w_listRg1 (h : W c ta τ fun x τ1 b1 => ∃ n : Nat, x = .dat (.int n) ∧ n ≤ 100000 ∧ Φ (.res true (ownL ((List.range n).map fun k => .int (k : Nat)))) τ1 b1) : W c (tLstRg (tRg1 ta)) τ Φ := fun σ G H F o Q q =>
  h σ G H F o _ fun x G1 H1 F1 rx τ1 b1 p1 g1 s1 => by
    obtain ⟨n, rfl, hn, k⟩ := p1
    refine ⟨(n : Int), s1, RgOk.of_le (by omega) (by omega) (by omega) (by omega), fun l hl => ?_⟩
    have e : rgV 0 (n : Int) = (List.range n).map fun k : Nat => V.int (k : Int) := by
      unfold rgV
      have e1 : ((n : Int) - 0).toNat = n := by omega
      rw [e1]
      exact List.map_congr_left fun a _ => by rw [Int.zero_add]
    rw [e]
    have rr : RepL G1 ((List.range n).map fun k : Nat => DD.int (k : Int)) ((List.range n).map fun k : Nat => V.int (k : Int)) := by
      have := RepL.of_ints (G := G1) ((List.range n).map fun k : Nat => (k : Int))
      rw [List.map_map, List.map_map] at this
      exact this
    obtain ⟨a, b⟩ := new_own g1 hl rr
    exact q _ _ _ F1 _ τ1 b1 k a b
/-! ### an owned list is changed -/
theorem Ok.mutL {σ : L2.St} {G H : Hp} {F : Nat → Addr → Prop} {l : Bool} {ds es : List DD} {ws : List V} (o : Ok c τ σ G H F) (hi : τ[i]? = some (some (.res l (ownL ds)))) (r : RepL G es ws) :
    ∃ p vs, σ[i]? = some (some (.ref p)) ∧ H p = some (.lst vs) ∧ RepL G ds vs ∧ Go false c (τ.set i (some (.res l (ownL es)))) σ G H F G (upd H p (.lst ws)) F := by
  obtain ⟨u, hu, p, vs, rfl, h2, h3, h4⟩ := o.rs i l _ hi
  have fp : F i p := by rw [h4]
  have m3 := (o.own i p fp).2.1
  have hil : i < τ.length := (List.getElem?_eq_some_iff.mp hi).1
  have gt : ∀ j : Nat, j ≠ i → (τ.set i (some (.res l (ownL es))))[j]? = τ[j]? := fun j h => List.getElem?_set_ne (fun z => h z.symm)
  have gti : (τ.set i (some (.res l (ownL es))))[i]? = some (some (.res l (ownL es))) := List.getElem?_set_self hil
  refine ⟨p, vs, hu, h2, h3, ⟨?_, ⟨Same.refl G, fun a u z w => ?_, fun a z _ _ => z, fun a z => ?_⟩, fun j a z => .inl z⟩⟩
  · exact {
      ex := same_own o.ex m3
      tu := o.tu.new fun z => z
      fr := ⟨o.fr.g, fun a u z w => by
        rw [upd_ne (fun e => by
          subst e
          obtain ⟨_, _, _, _, _, y4⟩ := o.own i a fp
          rcases y4 with y4 | y4
          · rw [z] at y4; cases y4
          · exact w y4.2)]
        exact o.fr.h a u z w, o.fr.n, fun a z => by
        by_cases e : a = p
        · rw [e, upd_same]; exact (fun y => by cases y)
        · rw [upd_ne e]; exact o.fr.t a z⟩
      len := by rw [List.length_set]; exact o.len
      sl := fun j t h => by
        by_cases e : j = i
        · subst e
          rw [gti] at h
          cases h
          exact ⟨_, hu, True.intro⟩
        · rw [gt j e] at h
          exact o.sl j t h
      rs := fun j l' R h => by
        by_cases e : j = i
        · subst e
          rw [gti] at h
          cases h
          exact ⟨_, hu, p, ws, rfl, upd_same, r, h4⟩
        · rw [gt j e] at h
          obtain ⟨v, k1, k2⟩ := o.rs j l' R h
          exact ⟨v, k1, R.mono v _ _ _ _ _ k2 (Same.refl G) fun a ha => upd_ne fun ea => o.dj j i a e ha (by rw [ea]; exact fp)⟩
      own := fun j a z => by
        obtain ⟨y1, y2, l', R, y3, y4⟩ := o.own j a z
        refine ⟨?_, y2, ?_⟩
        · by_cases e : a = p
          · rw [e, upd_same]; exact (fun y => by cases y)
          · rw [upd_ne e]; exact y1
        · by_cases e : j = i
          · subst e
            rw [hi] at y3
            cases y3
            exact ⟨l, _, gti, y4⟩
          · exact ⟨l', R, by rw [gt j e]; exact y3, y4⟩
      dj := o.dj
      pn := fun q hq => by
        obtain ⟨k1, R, k2⟩ := o.pn q hq
        by_cases e : q.1 = i
        · rw [e, hi] at k2
          cases k2
          exact ⟨k1, _, by rw [e]; exact gti⟩
        · exact ⟨k1, R, by rw [gt _ e]; exact k2⟩ }
  · rw [upd_ne (fun e => by subst e; exact w ⟨rfl, i, fp⟩)]
    exact z
  · by_cases e : a = p
    · rw [e, upd_same]; exact (fun y => by cases y)
    · rw [upd_ne e]; exact z
theorem tyV_list {H : Hp} {p : Addr} {vs : List V} (h : H p = some (.lst vs)) : tyV K "list" (.ref p) H := .inl ⟨rfl, vs, SqL.of h⟩
/-- x.append(e) -/
theorem ws_app {l : Bool} {ds0 : List DD} (hi : τ[i]? = some (some (.res l (ownL ds0)))) (h : W c te τ fun r τ1 _ => ∃ ds d, τ1[i]? = some (some (.res l (ownL ds))) ∧ r = .dat d ∧ ds.length < 100000 ∧ D.nx (τ1.set i (some (.res l (ownL (ds ++ [d])))))) :
    WS c (tDrop (tBM K "list" rAppend (tVar i) (tCons te tNil))) τ D := fun σ G H F o De lk => by
  obtain ⟨u, hu, p, vs, rfl, h2, h3, h4⟩ := o.rs i l _ hi
  refine ⟨_, hu, tyV_list h2, h σ G H F o _ fun y G1 H1 F1 r τ1 b1 p1 g1 s1 => ?_⟩
  obtain ⟨ds, d, hi1, rfl, hz, k⟩ := p1
  obtain ⟨u1, hu1, p1, vs1, e1, k2, k3, k4⟩ := g1.ok.rs i l _ hi1
  rw [hu] at hu1
  cases hu1
  cases e1
  obtain ⟨p', vs', q1, q2, q3, gm⟩ := g1.ok.mutL hi1 (es := ds ++ [d]) (ws := vs1 ++ [y]) (k3.append (RepL.cons s1 rfl))
  rw [hu] at q1
  cases q1
  exact ⟨p, vs1, y, rfl, rfl, k2, by rw [k3.length]; exact sz_lt hz, lk.nx _ σ G1 _ F1 k gm.ok g1.fr.g⟩
/-- x.pop(e) -/
theorem w_popAt {l : Bool} {ds0 : List DD} (hi : τ[i]? = some (some (.res l (ownL ds0)))) (h : W c te τ fun r τ1 _ => ∃ ds d n, τ1[i]? = some (some (.res l (ownL ds))) ∧ r = .dat (.int (n : Nat)) ∧ n < 100000 ∧ ds[n]? = some d ∧ Φ (.dat d) (τ1.set i (some (.res l (ownL (ds.eraseIdx n))))) false) :
    W c (tBM K "list" rPopAt (tVar i) (tCons te tNil)) τ Φ := fun σ G H F o Q q => by
  obtain ⟨u, hu, p, vs, rfl, h2, h3, h4⟩ := o.rs i l _ hi
  refine ⟨_, hu, tyV_list h2, h σ G H F o _ fun y G1 H1 F1 r τ1 b1 p1 g1 s1 => ?_⟩
  obtain ⟨ds, d, n, hi1, rfl, hz, hd, k⟩ := p1
  obtain ⟨u1, hu1, p1, vs1, e1, k2, k3, k4⟩ := g1.ok.rs i l _ hi1
  rw [hu] at hu1
  cases hu1
  cases e1
  obtain ⟨v, h5, h6⟩ := k3.get hd
  obtain ⟨p', vs', q1, q2, q3, gm⟩ := g1.ok.mutL hi1 (es := ds.eraseIdx n) (ws := vs1.eraseIdx n) (k3.erase n)
  rw [hu] at q1
  cases q1
  have hn : n < vs1.length := (List.getElem?_eq_some_iff.mp h5).1
  have ge := g1.trans gm
  rw [Bool.and_false] at ge
  refine ⟨p, vs1, (n : Nat), n, v, rfl, by rw [show y = V.int (n : Nat) from s1], k2, by omega, by omega, (ixN_seq (by unfold ixN; rw [if_pos (by omega), if_pos (by omega)]; simp)).1, h5, q v G1 _ F1 _ _ _ k ge h6⟩
/-- x.pop() -/
theorem w_pop {l : Bool} {ds : List DD} {d : DD} (hi : τ[i]? = some (some (.res l (ownL ds)))) (hd : ds[ds.length - 1]? = some d) (k : Φ (.dat d) (τ.set i (some (.res l (ownL ds.dropLast)))) false) :
    W c (tBM0 K "list" rPop (tVar i)) τ Φ := fun σ G H F o Q q => by
  obtain ⟨u, hu, p, vs, rfl, h2, h3, h4⟩ := o.rs i l _ hi
  obtain ⟨v, h5, h6⟩ := h3.get hd
  obtain ⟨p', vs', q1, q2, q3, gm⟩ := o.mutL hi (es := ds.dropLast) (ws := vs.dropLast) h3.dropLast
  rw [hu] at q1
  cases q1
  exact ⟨_, hu, tyV_list h2, p, vs, v, rfl, rfl, h2, by rw [h3.length]; exact h5, q v G _ F _ _ _ k gm h6⟩
theorem ixN_nat {n k : Nat} (h : k < n) : ixN n (k : Int) = some k := by
  unfold ixN
  rw [if_pos (by omega), if_pos (by omega)]
  simp
/-- x[j] = e -/
theorem ws_setI {l : Bool} (h : W c te τ fun r τ1 b1 => ∃ d ds0, r = .dat d ∧ τ1[i]? = some (some (.res l (ownL ds0))) ∧ W c tb τ1 fun y τ2 _ => ∃ ds n, τ2[i]? = some (some (.res l (ownL ds))) ∧ y = .dat (.int (n : Nat)) ∧ n < ds.length ∧ D.nx (τ2.set i (some (.res l (ownL (ds.set n d)))))) :
    WS c (tAsg te (gSub (tVar i) tb rSetL)) τ D := fun σ G H F o De lk =>
  h σ G H F o _ fun x G1 H1 F1 r τ1 b1 p1 g1 s1 => by
    obtain ⟨d, ds0, rfl, hi0, p2⟩ := p1
    obtain ⟨u, hu, p, vs, rfl, h2, h3, h4⟩ := g1.ok.rs i l _ hi0
    refine ⟨_, hu, p2 σ G1 H1 F1 g1.ok _ fun y G2 H2 F2 r2 τ2 b2 p3 g2 s2 => ?_⟩
    obtain ⟨ds, n, hi1, rfl, hn, k⟩ := p3
    obtain ⟨u1, hu1, p1, vs1, e1, k2, k3, k4⟩ := g2.ok.rs i l _ hi1
    rw [hu] at hu1
    cases hu1
    cases e1
    obtain ⟨p', vs', q1, q2, q3, gm⟩ := g2.ok.mutL hi1 (es := ds.set n d) (ws := vs1.set n x) (RepL.set (Rep.mono g2.fr.g _ _ s1) n k3)
    rw [hu] at q1
    cases q1
    exact ⟨p, vs1, (n : Nat), n, rfl, s2, k2, ixN_nat (by rw [k3.length]; exact hn), lk.nx _ σ G2 _ F2 k gm.ok (g1.fr.g.trans g2.fr.g)⟩
/-- x[j] op= e, by a rule for the read -/
def rGetL : V → V → Hp → VK → Prop := fun o i H Q => ∃ p xs k v, o = .ref p ∧ i = .int k ∧ H p = some (.lst xs) ∧ atI xs k = some v ∧ Q v H
theorem ws_augI {l : Bool} {ds0 : List DD} {f : Int → Int → Int} {n : Nat} (hi : τ[i]? = some (some (.res l (ownL ds0)))) {a : Int} (hn : ds0[n]? = some (.int a))
    (h : W c te τ fun r τ2 _ => ∃ ds b, τ2[i]? = some (some (.res l (ownL ds))) ∧ r = .dat (.int b) ∧ n < ds.length ∧ D.nx (τ2.set i (some (.res l (ownL (ds.set n (.int (f a b)))))))) :
    WS c (tAugS (tVar i) (tC (.int (n : Nat))) te rGetL (ipI f) rSetL) τ D := fun σ G H F o De lk => by
  obtain ⟨u, hu, p, vs, rfl, h2, h3, h4⟩ := o.rs i l _ hi
  obtain ⟨v, h5, h6⟩ := h3.get hn
  cases (show v = V.int a from h6)
  refine ⟨_, hu, p, vs, (n : Nat), .int a, rfl, rfl, h2, atI_nat h5, h σ G H F o _ fun y G2 H2 F2 r2 τ2 b2 p3 g2 s2 => ?_⟩
  obtain ⟨ds, b, hi1, rfl, hn2, k⟩ := p3
  obtain ⟨u1, hu1, p1, vs1, e1, k2, k3, k4⟩ := g2.ok.rs i l _ hi1
  rw [hu] at hu1
  cases hu1
  cases e1
  obtain ⟨p', vs', q1, q2, q3, gm⟩ := g2.ok.mutL hi1 (es := ds.set n (.int (f a b))) (ws := vs1.set n (.int (f a b))) (RepL.set (d := .int (f a b)) (v := V.int (f a b)) rfl n k3)
  rw [hu] at q1
  cases q1
  exact ⟨a, b, rfl, s2, p, vs1, (n : Nat), n, rfl, rfl, k2, ixN_nat (by rw [k3.length]; exact hn2), lk.nx _ σ G2 _ F2 k gm.ok g2.fr.g⟩
/-- x op= e, x a number of one's own -/
theorem ws_aug {f : Int → Int → Int} {a : Int} (hi : τ[i]? = some (some (.dat (.int a)))) (h : W c te τ fun r τ2 _ => ∃ b, r = .dat (.int b) ∧ i < τ2.length ∧ free τ2 i ∧ D.nx (τ2.set i (some (.dat (.int (f a b)))))) : WS c (tAug i te (ipI f)) τ D := fun σ G H F o De lk => by
  obtain ⟨v, h1, h2⟩ := o.sl i _ hi
  cases (show v = V.int a from h2)
  refine ⟨_, h1, h σ G H F o _ fun y G2 H2 F2 r2 τ2 b2 p3 g2 s2 => ?_⟩
  obtain ⟨b, rfl, hl, hf, k⟩ := p3
  obtain ⟨F', o', _⟩ := g2.ok.store (H0 := c.H0) (v := V.int (f a b)) (r := .dat (.int (f a b))) hf hl .dat (show Rep G2 (.int (f a b)) (V.int (f a b)) from rfl) fun _ z => z
  exact ⟨a, b, rfl, s2, lk.nx _ _ G2 H2 F' k o' g2.fr.g⟩
/-- a, b = e, e' -/
theorem ws_par {u v : Tg} (h : WA c t τ fun rs τ1 _ => ∃ r r2 u v, rs = [r, r2] ∧ Stk r u ∧ Stk r2 v ∧ (Pl r ∨ Pl r2) ∧ free τ1 i ∧ free τ1 j ∧ i ≠ j ∧ i < τ1.length ∧ j < τ1.length ∧ D.nx ((τ1.set i (some u)).set j (some v))) : WS c (tPar i j t) τ D := fun σ G H F o De lk =>
  h σ G H F o _ fun vs G1 H1 F1 rs τ1 b1 p1 g1 s1 => by
    obtain ⟨r, r2, u, v, rfl, hu, hv, hp, fi, fj, hij, hi, hj, k⟩ := p1
    cases s1 with
    | @cons _ x _ _ sx s' =>
      cases s' with
      | @cons _ y _ _ sy s'' =>
        cases s''
        have sx0 := Rs.from sx o.fr.t
        have sy0 := Rs.from sy o.fr.t
        have fij : ∀ {w : Tg}, free (τ1.set i (some u)) j := fun {w} R z => fj R (by rw [List.getElem?_set_ne hij] at z; exact z)
        obtain ⟨F', o', hF⟩ := g1.ok.store fi hi hu sx0 fun _ z => z
        have sy1 : Rs c (σ.set i (some x)) c.H0 G1 H1 F' r2 y := by
          cases hv with
          | dat => exact sy0
          | vol => exact sy0
          | res =>
            obtain ⟨q1, A, q2, q3⟩ := sy0
            refine ⟨q1, A, q2, fun a ha => ?_⟩
            obtain ⟨m1, m2, m3, m4⟩ := q3 a ha
            refine ⟨m1, m2, m3, fun k z => ?_⟩
            rcases hp with hp | hp
            · exact m4 k (hF hp k a z)
            · cases hp
        obtain ⟨F2, o2, _⟩ := o'.store (fij (w := u)) (by rw [List.length_set]; exact hj) hv sy1 fun _ z => z
        exact ⟨x, y, rfl, lk.nx _ _ G1 H1 F2 k o2 g1.fr.g⟩
end
end Z
set_option Elab.async false
set_option linter.all false
set_option maxRecDepth 100000
set_option maxHeartbeats 2000000
/-! Z6: further rules of the hand layer: reads for a changed item, tuple(list) with its object known, enumerate of a tuple, count of a tuple, own len, ==, !=, repr. -/
namespace Z
open PySem PySem.Spec PyProof.Rows L2
section
variable {X : Cx} {pins : List (Addr × Obj)} {σ : L2.St} {H : Hp} {s : Shared}
theorem pget_list : PGet X rGetL := by
  intro pins s σ H o i ov iv Q I ro ri h
  obtain ⟨p, xs, k, v, rfl, rfl, hp, ha, q⟩ := h
  cases ro
  obtain ⟨t, rfl⟩ := ri
  obtain ⟨its, r, pl, hz⟩ := I.list (SqL.of hp)
  obtain ⟨j, h1, h2, h3, h4, h5⟩ := atI_get ha
  obtain ⟨w, ew, rw'⟩ := r.get h2
  have hl := r.length
  have hn := line63
  have fin : EP X pins σ Q w s := ⟨v, H, I, rw', q⟩
  by_cases h0 : 0 ≤ k
  · have hj : k.toNat = j := by
      rw [seqIndex_of h0 h5] at h1
      exact Option.some.inj h1
    exact wpAny_getItem_list pl.isList h0 (by omega) (by rw [hj]; simpa using ew) fin
  · have hj : (k + (its.toArray.size : Int)).toNat = j := by
      rw [seqIndex_neg (by omega) h4] at h1
      rw [List.size_toArray, ← hl]
      exact Option.some.inj h1
    exact wpAny_getItem_list_neg pl.isList (by omega) (by rw [List.size_toArray] <;> omega) (by omega) (by rw [hj]; simpa using ew) fin
theorem call_tupleN : CallR X (.type "tuple") (rTupN X.K) := by
  intro pins s σ H xs us Q I r h
  obtain ⟨p, ys, rfl, h⟩ := h
  obtain ⟨u, rfl, rx⟩ := vals1 r
  cases rx
  rcases h with ⟨hq, q⟩ | ⟨hq, q⟩
  · obtain ⟨its, r', pl, hz⟩ := I.list hq
    have hlen := r'.length
    refine call_tuple_list pl.isList (fun h' kp => ?_) (by simp only [List.size_toArray] <;> omega)
    have I1 : Inv X pins σ H { s with heap := h' } := I.kept (t' := s.toks) kp
    have hg : (h'.push { cls := .type "tuple", data := .seq its.toArray }).get? h'.objs.size = some { cls := .type "tuple", data := .seq its.toArray } := Heap.get?_push_size _ rfl
    have I2 : Inv X pins σ (upd H h'.objs.size (.frz { cls := .type "tuple", data := .seq its.toArray } (.tup ys))) { s with heap := h'.push { cls := .type "tuple", data := .seq its.toArray } } :=
      I1.laid (t' := s.toks) (fun b o e => Heap.get?_push_of_some _ e) (Nat.le_refl _) (show ObjOk X.prog X.w _ _ _ (.frz _ (.tup ys)) from ⟨hg, hz, its, r', IsTup.new _ _⟩)
    exact ⟨.ref h'.objs.size, _, I2, rfl, q _ _ (I1.hok.fresh (Nat.le_refl _)) rfl⟩
  · obtain ⟨its, r', pl, hz⟩ := I.tuple hq
    exact call_tuple_same pl ⟨.ref p, H, I, rfl, q⟩
end
/-! ### enumerate(tuple) -/
theorem meets_enumerate_newT (l : Addr) (items : Array Value) :
    Meets (Builtin.«enumerate.__new__» ⟨[.type "enumerate", .ref l], []⟩) (fun _ R s => s.heap.IsTuple l items ∧
      R (.ok (.ret (.ref (s.heap.push { cls := .type "tuple_iterator", data := .fields #[.ref l, .int 0 0] }).objs.size)))
        { s with heap := (s.heap.push { cls := .type "tuple_iterator", data := .fields #[.ref l, .int 0 0] }).push { cls := .type "enumerate", data := .fields #[.none, .bool false, .ref s.heap.objs.size, rawInt 0, .none, .none] } }) :=
  .of_wp fun prog w A R s h => by
    obtain ⟨hp, g, d, tk, os⟩ := s; obtain ⟨h1, h⟩ := h
    have hsub := sub_enumerate
    have q1 : ∀ {A' : Around} {E : Value → Shared → Prop} {Q : Value → Shared → Prop}, Q (.ref hp.objs.size) ⟨hp.push { cls := .type "tuple_iterator", data := .fields #[.ref l, .int 0 0] }, g, d, tk, os⟩ → wpAny (model prog w) A' (pyIter (.ref l)) Q E ⟨hp, g, d, tk, os⟩ :=
      fun q => (begins_tuple l items).iter prog w _ _ ⟨hp, g, d, tk, os⟩ _ h1 q
    wp_walk using q1
    refine wpAny_stack_any fun st => wpAny_pure ?_
    split
    · rename_i c _ _ _ _ _
      cases (c == Value.type "enumerate")
      · wp_walk using q1
        exact ⟨_, rfl, h⟩
      · wp_walk using q1
        exact ⟨_, rfl, h⟩
    · wp_walk using q1
      exact ⟨_, rfl, h⟩
theorem call_enumerate_tup {prog : Program} {w : World} {A : Around} {E : Value → Shared → Prop} {s : Shared} {l : Addr} {items : Array Value} {Q : Value → Shared → Prop} (hL : s.heap.IsTuple l items)
    (h : ∀ h', IsEnum h' (s.heap.objs.size + 1) s.heap.objs.size 0 .none → h'.IsTupleIter s.heap.objs.size l 0 → h'.objs.size = s.heap.objs.size + 2 →
      (∀ b o, s.heap.get? b = some o → h'.get? b = some o) → Q (.ref (s.heap.objs.size + 1)) { s with heap := h' }) :
    wpAny (model prog w) A (call (.type "enumerate") [.ref l]) Q E s := by
  refine callType_new F.called_enumerate (by decide) (F.typeCall_enumerate_1 _) (F.newCall_enumerate_1 _) (fun obj => F.args_object_init_2 obj _) F.entry_enumerate_new
    (meets_enumerate_newT l items) ⟨hL, ?_⟩
  have hz : (s.heap.push { cls := .type "tuple_iterator", data := .fields #[.ref l, .int 0 0] }).objs.size = s.heap.objs.size + 1 := Heap.size_push ..
  show _ ∧ _
  rw [hz]
  have he : IsEnum ((s.heap.push { cls := .type "tuple_iterator", data := .fields #[.ref l, .int 0 0] }).push
      { cls := .type "enumerate", data := .fields #[.none, .bool false, .ref s.heap.objs.size, rawInt 0, .none, .none] }) (s.heap.objs.size + 1) s.heap.objs.size 0 .none := by
    have := Heap.get?_push_size (s.heap.push { cls := .type "tuple_iterator", data := .fields #[.ref l, .int 0 0] })
      (o := { cls := .type "enumerate", data := .fields #[.none, .bool false, .ref s.heap.objs.size, rawInt 0, .none, .none] }) rfl
    rw [hz] at this; exact this
  refine ⟨⟨_, he, rfl⟩, h _ he ⟨_, Heap.get?_push_of_some _ (Heap.get?_push_size _ rfl), rfl, rfl⟩ (by rw [Heap.size_push, hz]) fun b o x => Heap.get?_push_of_some _ (Heap.get?_push_of_some _ x)⟩
/-- the tuple at a, each item in a new pair -/
def IteT (K : PySem.W.Frag) (a : Addr) : It :=
  ⟨fun i H => ∃ (xs : List V) (x : V), SqT K H a xs ∧ xs[i]? = some x, fun i H v H' => ∃ T x, v = .ref T ∧ H T = none ∧ H' = upd H T (.tup [.int (i : Nat), x]) ∧ ∀ xs, SqT K H a xs → xs[i]? = some x, fun i H => ∃ xs : List V, SqT K H a xs ∧ xs.length ≤ i⟩
theorem turn_enumT {P : Program} {w : World} {K : PySem.W.Frag} {elts : List Expr} {kk : Nat} {tpos : Pos} (a e it : Addr) :
    Turn P w K (.Tuple elts kk tpos) (IteT K a) [e, it] e (fun i h => (∃ old, IsEnum h e it ((i : Nat) : Int) old) ∧ h.IsTupleIter it a i ∧ e ≠ it) where
  mem := by simp
  obj := fun i h st b hb => by
    obtain ⟨⟨old, he⟩, ⟨o, ho, hc, hd⟩, _⟩ := st
    have e' : b = e ∨ b = it := by simpa using hb
    rcases e' with z | z
    · rw [z]; exact ⟨_, he, fun v q => nomatch q⟩
    · rw [z]; exact ⟨o, ho, fun v q => by rw [hd] at q; cases q⟩
  keep := fun i h h' st k => let ⟨⟨old, he⟩, hi, hne⟩ := st; ⟨⟨old, k e (by simp) _ he⟩, hi.at fun o q => k it (by simp) o q, hne⟩
  item := by
    intro X hP hw hK hc i pins s σ H E I hf st hg
    subst hP hw hK
    obtain ⟨⟨old, he⟩, hit, hne⟩ := st
    obtain ⟨xs, x, hq, hx⟩ := hg
    obtain ⟨its, rv, p, hz⟩ := I.tuple hq
    obtain ⟨u, hu, ru⟩ := rv.get hx
    have hT : s.heap.IsTuple a its.toArray := p
    have hai : a ≠ it := fun z => by
      subst z
      obtain ⟨o, ho, hc', _⟩ := hit
      obtain ⟨o2, ho2, hc2, _⟩ := p
      rw [ho] at ho2
      cases ho2
      rw [hc'] at hc2
      exact absurd hc2 (by decide)
    have hae : a ≠ e := fun z => by
      subst z
      obtain ⟨o2, ho2, hc2, _⟩ := p
      have he' : s.heap.get? a = some _ := he
      rw [he'] at ho2
      cases ho2
      exact absurd (show Value.type "enumerate" = Value.type "tuple" from hc2) (by decide)
    have hel : e < s.heap.objs.size := Heap.lt_size he
    have hil : it < s.heap.objs.size := by obtain ⟨_, q, _⟩ := hit; exact Heap.lt_size q
    have hisz : i < its.toArray.size := by
      have := (List.getElem?_eq_some_iff.mp hu).1
      simpa using this
    refine wpAny_pyNext_enum_itemD (Draws.tuple (A := X.A.in1) (I.ok.hd hc) it a hai its.toArray) he ⟨hit, hT⟩ hisz hne (by simp [hne, Ne.symm hae]) fun y h' tk hPy ho hst' hT' hsz hk => ?_
    obtain ⟨hit', _⟩ := hst'
    have ey : y = u := by
      have h1 : its.toArray[i]? = some u := by simpa using hu
      rw [h1] at hPy
      exact (Option.some.inj hPy).symm
    subst ey
    refine ⟨_, rfl, wpAny_letOwnedTupleGo_enum (s := { s with heap := h', toks := tk + 1 }) ho fun h'' he' sb => ?_⟩
    have hT2 : h''.get? s.heap.objs.size = some { cls := .type "tuple", data := .seq #[.int i tk, y] } := (sb.2 _ (Nat.ne_of_gt hel)).trans hT'
    have new : ObjOk X.prog X.w (upd H s.heap.objs.size (.tup [.int (i : Nat), x])) h'' s.heap.objs.size (.tup [.int (i : Nat), x]) :=
      ⟨by show 2 ≤ sizeLine; decide, [.int i tk, y], .cons ⟨_, rfl⟩ (.cons ru .nil), ⟨_, hT2, rfl, _, rfl⟩⟩
    have I1 : Inv X pins σ (upd H s.heap.objs.size (.tup [.int (i : Nat), x])) { s with heap := h'', toks := tk + 1 } :=
      I.turnedNew (ch := [e, it]) (fun b ob hb q => (sb.2 b (fun z => hb (by simp [z]))).trans (hk b ob (fun z => hb (by simp [z])) (fun z => hb (by simp [z])) q)) hf (Nat.le_refl _) new
    refine ⟨.ref s.heap.objs.size, _, I1, rfl, ⟨_, x, rfl, I.hok.fresh (Nat.le_refl _), rfl, fun ys hy => by rw [I.tuple_inj hy hq]; exact hx⟩, ⟨⟨y, ?_⟩, hit'.at fun o q => (sb.2 it (Ne.symm hne)).trans q, hne⟩, fun b hb => ?_⟩
    · have e1 : ((i + 1 : Nat) : Int) = (i : Int) + 1 := by omega
      rw [e1]; exact he'
    · have hb' : b < s.heap.objs.size := by
        have e' : b = e ∨ b = it := by simpa using hb
        rcases e' with z | z
        · rw [z]; exact hel
        · rw [z]; exact hil
      rw [upd_ne (Nat.ne_of_lt hb')]
      exact (hf b hb).1
  done := by
    intro X hP hw hK hc i pins s σ H E I hf st hg
    subst hP hw hK
    obtain ⟨⟨old, he⟩, hit, hne⟩ := st
    obtain ⟨xs, hq, hx⟩ := hg
    obtain ⟨its, rv, p, hz⟩ := I.tuple hq
    obtain ⟨f0, f1, f2, f3, f4, f5⟩ := hf it (by simp)
    have hT : s.heap.IsTuple a its.toArray := p
    have hl := rv.length
    have hai : a ≠ it := fun z => by
      subst z
      obtain ⟨o, ho, hc', _⟩ := hit
      obtain ⟨o2, ho2, hc2, _⟩ := p
      rw [ho] at ho2
      cases ho2
      rw [hc'] at hc2
      exact absurd hc2 (by decide)
    have hT0 : s.TypeIs (.ref e) "enumerate" := ⟨_, he, rfl⟩
    unfold pyNext
    refine wpAny_bind (wpAny_attempt (wpAny_callSpecial?_slot (name := Str.ofString "__next__") hT0 F.slot_enumerate_next
      (wpAny_call_entry F.slot_enumerate_next hT0 F.entry_enumerate_next ?_ (F.args_enumerate_next_1 _))))
    show wpAny _ _ (PySem.field (.ref e) 2 >>= _) _ _ _
    refine wpAny_bind (wpAny_field he rfl (x := .ref it) rfl ?_)
    refine wpAny_bind (wpAny_nextOf_tuple_end (A := X.A.in1) (I.ok.hd hc) hit hT (by simp; omega) fun h' x he' hx' => ?_)
    obtain ⟨o, ho, hc⟩ := hx'
    refine wpAny_bind (wpAny_isInstance (T := "StopIteration") (b := true) ⟨o, ho, hc⟩ isSubtype_stop ?_)
    exact wpAny_pure ⟨rfl, I.turned (t' := s.toks) (fun b o hb q => he' b o hb q) f0 f1 f3 f4 f5⟩
  self := fun A i s Q E st h => let ⟨⟨_, he⟩, _⟩ := st; wpAny_pyIter_enum he h
/-- enumerate of a list or a tuple -/
def iEnumA (K : PySem.W.Frag) (ta : TA) : TI := fun σ H R => ta σ H fun vs H1 => ∃ a xs, vs = [.ref a] ∧ ((SqL K H1 a xs ∧ R (Ite K a) H1) ∨ (SqT K H1 a xs ∧ R (IteT K a) H1))
theorem pi_enumA {X : Cx} {e : Expr} {ta : TA} {p pos tpos : Pos} {elts : List Expr} {kk : Nat} (hg : Gl X "enumerate") (hm : X.mg "enumerate" = none) (ha : PA X [e] ta) (hs : starEach [e] X.env = [(false, eval e X.env)] := by rfl) :
    PI X (.Tuple elts kk tpos) (.Call (.Name "enumerate" p) [e] [] pos) (iEnumA X.K ta) := by
  refine ⟨fun pins s σ H R I h => ?_⟩
  refine Call_ (ld_blt I hg hm boot_enumerate (PyProof.Rows.callWith_type1 (thn (ha.run pos pins s σ H _ I h) fun us s1 ⟨vs, H1, I1, r1, q1⟩ => ?_) hs rfl))
  obtain ⟨a, xs, ex, hq⟩ := q1
  subst ex
  cases r1 with
  | cons r rr =>
    cases rr
    cases r
    have fp : ∀ b ∈ [s1.heap.objs.size + 1, s1.heap.objs.size], FpOk X pins H1 b := fun b hb => by
      have e' : b = s1.heap.objs.size + 1 ∨ b = s1.heap.objs.size := by simpa using hb
      have hle : s1.heap.objs.size ≤ b := by
        rcases e' with z | z
        · rw [z]; exact Nat.le_add_right _ _
        · rw [z]; exact Nat.le_refl _
      exact I1.fpOk hle (I1.hok.fresh hle)
    rcases hq with ⟨hq, q⟩ | ⟨hq, q⟩
    · obtain ⟨its, rv, p', hz⟩ := I1.list hq
      refine call_enumerate_list p'.isList fun h' he hit hsz hk => wpAny_pyIter_enum he ?_
      have I2 : Inv X pins σ H1 { s1 with heap := h' } := I1.kept (t' := s1.toks) hk
      exact ⟨s1.heap.objs.size + 1, [s1.heap.objs.size + 1, s1.heap.objs.size], _, _, H1, rfl, I2, turn_enum a (s1.heap.objs.size + 1) s1.heap.objs.size, ⟨⟨.none, he⟩, hit, Nat.succ_ne_self _⟩, fp, q⟩
    · obtain ⟨its, rv, p', hz⟩ := I1.tuple hq
      refine call_enumerate_tup (show s1.heap.IsTuple a its.toArray from p') fun h' he hit hsz hk => wpAny_pyIter_enum he ?_
      have I2 : Inv X pins σ H1 { s1 with heap := h' } := I1.kept (t' := s1.toks) hk
      exact ⟨s1.heap.objs.size + 1, [s1.heap.objs.size + 1, s1.heap.objs.size], _, _, H1, rfl, I2, turn_enumT a (s1.heap.objs.size + 1) s1.heap.objs.size, ⟨⟨.none, he⟩, hit, Nat.succ_ne_self _⟩, fp, q⟩
section
variable {c : Cfg} {τ : Lc} {Φ : List Itm → Lc → Bool → Prop} {t : TA} {K : PySem.W.Frag}
theorem wi_enumA (h : WA c t τ fun rs τ1 b1 => ∃ ds, (rs = [.dat (.lst ds)] ∧ Φ (itsE .dat ds) τ1 b1) ∨ (rs = [.dat (.tup ds)] ∧ Φ (itsE .dat ds) τ1 b1) ∨ (rs = [.dat (.tpl ds)] ∧ Φ (itsE .dat ds) τ1 b1) ∨ (rs = [.vol (.lst ds)] ∧ Φ (itsE .vol ds) τ1 b1)) :
    WI c (iEnumA K t) τ Φ := fun σ G H F o R q =>
  h σ G H F o _ fun x G1 H1 F1 rx τ1 b1 p1 g1 s1 => by
    obtain ⟨ds, p1⟩ := p1
    have tupC : ∀ (a : Addr) (vs : List V), Rd G1 a (.tup vs) → RepL G1 ds vs → Wk c (IteT K a) (itsE .dat ds) G1 := fun a vs h2 h3 => ⟨fun i G H hi e1 e2 _ => by
        rw [itsE_len] at hi
        exact ⟨vs, vs[i]'(by rw [h3.length]; exact hi), .inl (rd_mono (e1.trans e2) h2), by simp⟩, fun G H e1 e2 _ => ⟨vs, .inl (rd_mono (e1.trans e2) h2), by rw [itsE_len, h3.length]; exact Nat.le_refl _⟩, fun i t G H y H' ht e1 e2 _ yy => by
        obtain ⟨d, hd, rfl⟩ := itsE_get ht
        obtain ⟨w, h4, h5⟩ := h3.get hd
        obtain ⟨T, x, y1, y2, y3, y4⟩ := yy
        have e := y4 vs (.inl (rd_mono (e1.trans e2) h2))
        rw [h4] at e
        cases e
        exact ⟨T, _, _, y1, y2, y3, rfl, Rep.mono e1 _ _ h5⟩⟩
    rcases p1 with ⟨rfl, k⟩ | ⟨rfl, k⟩ | ⟨rfl, k⟩ | ⟨rfl, k⟩
    · cases s1 with
      | cons s1 b =>
        cases b
        obtain ⟨a, vs, rfl, h2, h3⟩ := s1
        refine ⟨a, vs, rfl, .inl ⟨SqL.of (g1.ok.ex _ _ h2), q _ _ G1 H1 F1 τ1 b1 k g1 ⟨fun i G H hi e1 e2 _ => ?_, fun G H e1 e2 _ => ?_, fun i t G H y H' ht e1 e2 _ yy => ?_⟩⟩⟩
        · rw [itsE_len] at hi
          exact ⟨vs, vs[i]'(by rw [h3.length]; exact hi), SqL.of (e2 _ _ (e1 _ _ h2)), by simp⟩
        · exact ⟨vs, SqL.of (e2 _ _ (e1 _ _ h2)), by rw [itsE_len, h3.length]; exact Nat.le_refl _⟩
        · obtain ⟨d, hd, rfl⟩ := itsE_get ht
          obtain ⟨w, h4, h5⟩ := h3.get hd
          obtain ⟨T, x, y1, y2, y3, y4⟩ := yy
          have e := y4 vs (SqL.of (e2 _ _ (e1 _ _ h2)))
          rw [h4] at e
          cases e
          exact ⟨T, _, _, y1, y2, y3, rfl, Rep.mono e1 _ _ h5⟩
    · cases s1 with
      | cons s1 b =>
        cases b
        obtain ⟨a, vs, rfl, h2, h3⟩ := s1
        exact ⟨a, vs, rfl, .inr ⟨.inl (rd_mono g1.ok.ex h2), q _ _ G1 H1 F1 τ1 b1 k g1 (tupC a vs h2 h3)⟩⟩
    · cases s1 with
      | cons s1 b =>
        cases b
        obtain ⟨a, vs, rfl, h2, h3⟩ := tpl_tup s1
        exact ⟨a, vs, rfl, .inr ⟨.inl (rd_mono g1.ok.ex h2), q _ _ G1 H1 F1 τ1 b1 k g1 (tupC a vs h2 h3)⟩⟩
    · cases s1 with
      | cons s1 b =>
        cases b
        obtain ⟨Gv, hv, a, vs, rfl, h2, h3⟩ := s1
        have at_ : ∀ {G H : Hp}, Fr c.X c.G0 c.H0 G H → H a = some (.lst vs) := fun f => f.h a _ (hv a _ h2).1 (hv a _ h2).2
        refine ⟨a, vs, rfl, .inl ⟨SqL.of (at_ g1.ok.fr), q _ _ G1 H1 F1 τ1 b1 k g1 ⟨fun i G H hi e1 e2 f => ?_, fun G H e1 e2 f => ?_, fun i t G H y H' ht e1 e2 f yy => ?_⟩⟩⟩
        · rw [itsE_len] at hi
          exact ⟨vs, vs[i]'(by rw [h3.length]; exact hi), SqL.of (at_ f), by simp⟩
        · exact ⟨vs, SqL.of (at_ f), by rw [itsE_len, h3.length]; exact Nat.le_refl _⟩
        · obtain ⟨d, hd, rfl⟩ := itsE_get ht
          obtain ⟨w, h4, h5⟩ := h3.get hd
          obtain ⟨T, x, y1, y2, y3, y4⟩ := yy
          have e := y4 vs (SqL.of (at_ f))
          rw [h4] at e
          cases e
          exact ⟨T, _, _, y1, y2, y3, rfl, Gv, hv, h5⟩
end
/-! ### methods of a tuple whose object is known -/
section
variable {X : Cx} {o e : Expr} {es : List Expr} {to : TE} {t : TA} {name : Str} {apos cpos : Pos} {id : String} {r : V → List V → Hp → VK → Prop}
def tyF (x : V) (H : Hp) : Prop := ∃ p ob ys, x = V.ref p ∧ H p = some (.frz ob (.tup ys)) ∧ ob.dict = none
def tBMT (r : V → List V → Hp → VK → Prop) (to : TE) (t : TA) : TE := fun σ H Q => to σ H fun x H1 => tyF x H1 ∧ t σ H1 fun xs H2 => r x xs H2 Q
theorem pe_bmT (pa : PlainAttrs "tuple") (slot : Slot "tuple" name id) (hty : typeOf (.builtin id) = pure (.type "method_descriptor")) (hm : MtR X id r) (ho : PE X o to) (ha : PA X (e :: es) t)
    (hbase : attributeBase o name X.env (eval o X.env) = eval o X.env := by rfl)
    (hfew : ((backTo cpos (starEach (e :: es) X.env)).all (fun x => !x.1) && (backToKw cpos (keywordEach [] X.env)).all (fun x => x.1.isSome)
      && decide ((e :: es).length + ([] : List Keyword).length + (if ([] : List Keyword).isEmpty then 0 else 1) < 30)) = true := by rfl)
    (hline : (apos.endLine == cpos.line) = true := by rfl) (hs : starEach (e :: es) X.env = (false, eval e X.env) :: starEach es X.env := by rfl) (hplain : (backTo cpos (starEach es X.env)).any (·.1) = false := by rfl) :
    PE X (.Call (.Attribute o name apos) (e :: es) [] cpos) (tBMT r to t) := by
  refine ⟨fun pins s σ H Q I h => ?_⟩
  refine wpAny_Call_method_late hbase hfew hline rfl (thn (ho.run pins s σ H _ I h) fun v s1 ⟨x, H1, I1, r1, ty, q1⟩ => ?_)
  obtain ⟨p, ob, ys, rfl, hp, hdn⟩ := ty
  cases r1
  obtain ⟨hg, _, its, rv, o2, ho2, hc2, _⟩ := (show ObjOk X.prog X.w H1 s1.heap p (.frz ob (.tup ys)) from I1.hok p _ hp)
  rw [hg] at ho2
  cases ho2
  refine ⟨"tuple", id, pa, slot, hty, ⟨_, hg, hc2⟩, fun a ea => ?_, ?_⟩
  · cases ea
    exact ⟨_, hg, hdn⟩
  have hA := ha.run cpos pins s1 σ H1 _ I1 q1
  rw [hs] at hA ⊢
  refine Calls.callWith_builtin (by show (false || (backTo cpos (starEach es X.env)).any (·.1)) = false; rw [hplain] <;> rfl) (Calls.evalArgs_plain ?_)
  exact thn hA fun us s2 ⟨vs, H2, I2, r2, q2⟩ => hm pins s2 σ H2 (.ref p) vs (.ref p) us Q I2 rfl r2 q2
def rCntD (K : PySem.W.Frag) : V → List V → Hp → VK → Prop := fun x xs H Q => ∃ (a : Addr) (y : V) (d : PyData) (ds : List PyData), x = V.ref a ∧ xs = [y] ∧ Dp K H (V.ref a) (.tuple ds) ∧ Dp K H y d ∧
  SeqAt.shaped (.tuple ds) = true ∧ SeqAt.shaped d = true ∧ Q (.int ((ds.countP fun z => PyData.eqv z d : Nat) : Int)) H
theorem room_cnt {A : Around} {ds : List PyData} {d : PyData} (hs : SeqAt.shaped d = true) (hu : A.units + 65 < cLine) : A.units + 1 + min (PyData.depthAll ds) d.depth < cLine := by
  have h1 := SeqAt.depth_of_shaped hs
  have h2 : min (PyData.depthAll ds) d.depth ≤ d.depth := Nat.min_le_right _ _
  omega
theorem mt_tcount (hu : X.A.units + 65 < cLine) : MtR X "tuple.count" (rCntD X.K) := by
  intro pins s σ H x xs v us Q I rx rxs h
  obtain ⟨a, y, d, ds, rfl, rfl, hl, hy, sl, sd, q⟩ := h
  cases rx
  cases rxs with
  | cons ry rt =>
    rename_i uy ut
    cases rt
    obtain ⟨bs, r1⟩ := Dp.reads I d y uy hy ry
    have hxs : PyData.canLayAll0 ds = true := SeqAt.canLay_of_shaped sl
    cases hl with
    | tup hs ha =>
      obtain ⟨its, rv, ⟨⟨cls, dd, data, sls⟩, ho, hc, n, hd⟩, hz⟩ := I.tuple hs
      simp only at hc hd
      subst hc hd
      obtain ⟨as, h4⟩ := Dp.readsAll I ds _ its ha rv
      have hmap : its.map (SeqAt.readOf s.heap) = ds := SeqAt.readsAll_map ds its as hxs h4
      refine call_meets PySem.F.slot_tuple_count ⟨_, ho, rfl⟩ PySem.F.entry_tuple_count (PySem.F.args_tuple_count_2 _ _)
        (SeqAt.tuple_countAt a its.toArray n dd sls uy (fun u => PyData.eqv (SeqAt.readOf s.heap u) d)) ⟨ho, SeqAt.items_eqAt (vs := its.toArray) (show ReadsAll s.heap its.toArray.toList ds as from h4) r1 hxs (SeqAt.canLay_of_shaped sd) (room_cnt sd hu), ?_⟩
      have ec : its.toArray.toList.countP (fun u => PyData.eqv (SeqAt.readOf s.heap u) d) = ds.countP fun z => PyData.eqv z d := by
        rw [← hmap, List.countP_map]
        rfl
      refine ⟨.int ((ds.countP fun z => PyData.eqv z d : Nat) : Int), H, I.tok _, ⟨s.toks, ?_⟩, q⟩
      show Value.int ((its.toArray.toList.countP (fun u => PyData.eqv (SeqAt.readOf s.heap u) d) : Nat) : Int) s.toks = _
      rw [ec]
end
section
variable {c : Cfg} {τ : Lc} {Φ : Tg → Lc → Bool → Prop} {ta : TE} {t : TA} {K : PySem.W.Frag}
theorem countP_py {ds : List DD} {d : DD} : ((pyL ds).countP fun z => PyData.eqv z (py d)) = ds.countP fun z => deqv z d := by
  induction ds with
  | nil => rfl
  | cons a r ih =>
    show ((py a :: pyL r).countP fun z => PyData.eqv z (py d)) = _
    rw [List.countP_cons, List.countP_cons, ih]
    rfl
theorem w_count {n m : Nat} (h : W c ta τ fun x τ1 b1 => ∃ ds, x = .dat (.tpl ds) ∧ Nice n (.tpl ds) ∧ WA c t τ1 fun rs τ2 b2 => ∃ d, rs = [.dat d] ∧ Nice m d ∧ n ≤ 64 ∧ m ≤ 64 ∧ Φ (.dat (.int ((ds.countP fun z => deqv z d : Nat) : Int))) τ2 (b1 && b2)) :
    W c (tBMT (rCntD K) ta t) τ Φ := fun σ G H F o Q q =>
  h σ G H F o _ fun x G1 H1 F1 rx τ1 b1 p1 g1 s1 => by
    obtain ⟨ds, rfl, hn, p2⟩ := p1
    obtain ⟨a, vs, ob, rfl, h2, h3⟩ := s1
    refine ⟨⟨a, ob, vs, rfl, g1.ok.ex _ _ h2.1, h2.2⟩, p2 σ G1 H1 F1 g1.ok _ fun ys G2 H2 F2 rs τ2 b2 p3 g2 s2 => ?_⟩
    obtain ⟨d, rfl, hm, ln, lm, k⟩ := p3
    cases s2 with
    | cons s2 sn =>
      cases sn
      have r0 : Rep H2 (.tpl ds) (.ref a) := Rep.mono g2.ok.ex _ _ (Rep.mono g2.fr.g _ _ (show Rep G1 (.tpl ds) (.ref a) from ⟨a, vs, ob, rfl, h2, h3⟩))
      refine ⟨a, _, py d, pyL ds, rfl, rfl, Nice.dp n (.tpl ds) _ hn r0, Nice.dp m d _ hm (Rep.mono g2.ok.ex _ _ s2), hn.shaped ln, hm.shaped lm, ?_⟩
      rw [countP_py]
      exact q _ G2 H2 F2 _ τ2 _ k (g1.trans g2) rfl
end
end Z
set_option Elab.async false
set_option linter.all false
set_option maxRecDepth 100000
set_option maxHeartbeats 2000000
/-! Z7: own len, ==, !=, repr. -/
namespace PySem.W
open Lean Elab Tactic Meta PySem PySem.Spec PySem.Calls PyProof.Rows
section
variable {prog : Program} {w : World} {A : Around} {E : Value → Shared → Prop} {s : Shared} {K : Frag} {x C L f : Addr} {h₀ : Heap} {m : Str → Option Value} {ox : Obj} {od : Option Obj} {b tb : Value}
theorem zz_ifBoundB {M : Model} {name : Str} {id : String} {args : List Value} {Q : Option Value → Shared → Prop} (X : K.In s.heap) (I : InstAt s.heap x ox C od) (hs : findIn K (.ref C) name = some (some (.builtin id)))
    (hb : ∀ self, bindSpecial (.builtin id) self = pure (.builtin id, [self])) (h : wpAny M A (call (.builtin id) (.ref x :: args)) (fun v => Q (some v)) E s) : wpAny M A (callSpecialIfBound? (.ref x) name args) Q E s := by
  simp only [callSpecialIfBound?, bindSpecialIfBound?]
  refine wpAny_holding (wpAny_bind (wpAny_bind (wpAny_bind (I.type.here ((looks_findIn X hs).here ?_)))))
  refine wpAny_bind (wpAny_askSetting (wpAny_ite ?_))
  have fin : wpAny M A (call (.builtin id) ([.ref x] ++ args) >>= fun v => pure (some v)) Q E s := wpAny_bind (wpAny_mono h (fun v s' h' => wpAny_pure h') fun _ _ h' => h')
  split
  · exact wpAny_bind ((Looks.of_pure (hb _)).here (wpAny_pure (by exact fin)))
  · exact wpAny_tryCatch (wpAny_bind ((Looks.of_pure (hb _)).here (wpAny_pure (by exact fin))))
open Builtin in
theorem zz_objNe {Q : Value → Shared → Prop} (hu : A.in1.units < cLine) (X : K.In s.heap) (I : InstAt s.heap x ox C od) (hm : mroIn K C (.type "object") = some true) (hr : findIn K (.ref C) "__eq__" = some (some (.ref f))) (hf : isFn K (.ref f) = true)
    (h : wpAny (model prog w) A.in1 (call (.ref f) [.ref x, b]) (fun v s' => ∃ k, v = .bool k ∧ Q (.bool (!k)) s') E s) : wpAny (model prog w) A (call (.builtin "object.__ne__") [.ref x, b]) Q E s := by
  refine wpAny_call (codeAny_call_builtin PySem.F.cmp_object.ne.plain PySem.F.cmpEntry_ne (check_slot (i := "object.__ne__") (owner := "object") (n := "__ne__") (by decide +kernel) (by decide +kernel) (I.type.andThen (looks_mroIn X hm)) (PySem.F.cmpArgs_ne _ _) ?_))
  unfold Builtin.«object.__ne__»
  refine wpAny_bind (m := slotArgs "__ne__" 1 _) (wpAny_pure ?_)
  refine wpAny_bind (m := cRoomFor _ _) (wpAny_cRoomFor hu ?_)
  refine wpAny_bind (m := callSpecialIfBound? (.ref x) (Str.ofString "__eq__") _) (ifBound_K X I hr hf (wpAny_mono h (fun r s' hq => ?_) fun _ _ y => y))
  obtain ⟨k, rfl, hq⟩ := hq
  refine wpAny_bind (wpAny_truthy_bool ?_)
  exact wpAny_pure hq
theorem zz_ne {Q : Value → Shared → Prop} (hu : A.units < cLine) (hu1 : A.in1.units < cLine) (F : Fr h₀ L s.heap m) (X₀ : K.In h₀) (I : InstAt s.heap x ox C od) (hb : Looks (model prog w) s.heap (typeOf b) tb) (hn : notFirst K C tb = true)
    (hs : findIn K (.ref C) "__ne__" = some (some (.builtin "object.__ne__"))) (hm : mroIn K C (.type "object") = some true) (hr : findIn K (.ref C) "__eq__" = some (some (.ref f))) (hf : isFn K (.ref f) = true)
    (h : wpAny (model prog w) A.in1 (call (.ref f) [.ref x, b]) (fun v s' => ∃ k, v = .bool k ∧ Q (.bool (!k)) s') E s) : wpAny (model prog w) A (richCompare .NotEq (.ref x) b) Q E s := by
  have X := X₀.keeps F.keep
  have one : wpAny (model prog w) A (tryCompare (.ref x) (cmpInfo .NotEq).2.1 b) (fun r s' => ∃ v, r = some v ∧ Q v s') E s := by
    unfold tryCompare
    refine wpAny_bind (zz_ifBoundB (name := (cmpInfo .NotEq).2.1) X I hs PySem.F.cmp_object.ne.bind (zz_objNe hu1 X I hm hr hf (wpAny_mono h (fun v s' hv => ?_) fun _ _ e => e)))
    obtain ⟨k, rfl, hq⟩ := hv
    exact ⟨k, rfl, wpAny_pure ⟨_, rfl, hq⟩⟩
  unfold richCompare
  simp only [oneThing_ref]
  refine wpAny_holding (wpAny_bind (wpAny_cRoomFor hu ?_))
  refine wpAny_bind (I.type.here (wpAny_bind (hb.here ?_)))
  split
  · rename_i q
    have e : subIn K tb (.ref C) = some false := by
      rcases Bool.or_eq_true_iff.mp hn with e | e
      · rw [beq_iff_eq.mp e] at q; simp at q
      · exact beq_iff_eq.mp e
    refine wpAny_bind ((looks_subIn X e).here ?_)
    simp only [Bool.false_eq_true, if_false]
    refine wpAny_bind (wpAny_mono one (fun r s' z => ?_) fun _ _ e => e)
    obtain ⟨v, rfl, hq⟩ := z
    exact wpAny_pure hq
  · refine wpAny_bind (wpAny_pure ?_)
    simp only [Bool.false_eq_true, if_false]
    refine wpAny_bind (wpAny_mono one (fun r s' z => ?_) fun _ _ e => e)
    obtain ⟨v, rfl, hq⟩ := z
    exact wpAny_pure hq
end
end PySem.W
namespace Z
open PySem PySem.Spec PyProof.Rows L2
section
variable {X : Cx} {CXg : CXT} {k n : Nat} {f C : Addr} {fd : FuncData} {ps : List Str} {sp : Sp} {E : XK}
/-- a method called by the machine itself, at a deeper place -/
theorem run_at {A : Around} {pins : List (Addr × Obj)} {σ : L2.St} {H : Hp} {s : Shared} {Q : VK} {us : List Value} {vs : List V} {R : Value → Shared → Prop} (F : FnOk X.prog X.w X.K X.mg X.base CXg n f fd ps sp) (hr : Room n A) (hfr : A.frames = X.A.frames) (hb : Binds X.K fd ps []) (hx : Passes CXg X E)
    (I : Inv X pins σ H s) (r : Vals vs us) (h : sp vs H Q E) (k : ∀ v s', EP X pins σ Q v s' → R v s') : wpAny (model X.prog X.w) A (call (.ref f) us) R X.xe s := by
  have e0 : Env0 X.prog X.w X.K X.mg X.base A X.stack s H := by
    have e := I.env0
    exact ⟨by rw [hfr]; exact e.frames, e.mod, e.bs, e.bsz, e.funs, e.frf, e.hok, e.bare⟩
  have hl := F.len _ _ _ _ h
  refine wpAny_call (codeAny_mono (F.run A X.stack s H ⟨us, []⟩ us vs _ E hr e0 (by
    have := hb s us I.kIn (by rw [List.append_nil, ← r.length]; exact hl)
    rw [List.append_nil] at this
    exact this) r h) fun r s' hq => ?_)
  cases r with
  | error e => exact hx pins σ H s e s' I hq
  | ok fl =>
    cases fl with
    | ret u => exact k u s' (I.after hq)
    | next => exact False.elim hq
    | brk => exact False.elim hq
    | cont => exact False.elim hq
theorem frames_in1 {A : Around} : A.in1.frames = A.frames := rfl
/-- len(x), x of a class with its own __len__ -/
def rOwnLen (C : Addr) (sp : Sp) (E : XK) : List V → Hp → VK → Prop := fun xs H Q => ∃ a dx fs, xs = [.ref a] ∧ H a = some (.ins C dx fs) ∧ sp [.ref a] H (fun v H' => ∃ i : Int, v = .int i ∧ (0 ≤ i ∧ i < 2 ^ 63) ∧ Q (.int i) H') E
theorem call_ownlen (F : FnOk X.prog X.w X.K X.mg X.base CXg n f fd ps sp) (hr : Room (n + 1) X.A) (hb : Binds X.K fd ps []) (hx : Passes CXg X E)
    (hs : PySem.W.findIn X.K (.ref C) "__len__" = some (some (.ref f))) (hf : PySem.W.isFn X.K (.ref f) = true) : CallR X (.builtin "len") (rOwnLen C sp E) := by
  intro pins s σ H xs us Q I r h
  obtain ⟨a, dx, fs, rfl, ha, hsp⟩ := h
  obtain ⟨u, rfl, rx⟩ := vals1 r
  cases rx
  obtain ⟨mA, J, _⟩ := ins_get I.hok ha
  obtain ⟨od, J, _⟩ := J.look
  obtain ⟨m, hF⟩ := I.fr
  refine PySem.W.len_K hF I.ok.mod.kin J hs hf (run_at F hr.in1 frames_in1 hb hx I r hsp fun v s' hv => ?_)
  obtain ⟨z, H', I', rz, i, rfl, hi, q⟩ := hv
  obtain ⟨t, rfl⟩ := rz
  exact ⟨hi, .int i, H', I'.tok _, ⟨_, rfl⟩, q⟩
/-- repr(x) -/
def rOwnRepr (C : Addr) (sp : Sp) (E : XK) : List V → Hp → VK → Prop := fun xs H Q => ∃ a dx fs, xs = [.ref a] ∧ H a = some (.ins C dx fs) ∧ sp [.ref a] H (fun v H' => ∃ i : Str, v = .str i ∧ Q (.str i) H') E
theorem call_ownrepr (F : FnOk X.prog X.w X.K X.mg X.base CXg n f fd ps sp) (hr : Room (n + 1) X.A) (hb : Binds X.K fd ps []) (hx : Passes CXg X E)
    (hs : PySem.W.findIn X.K (.ref C) "__repr__" = some (some (.ref f))) (hf : PySem.W.isFn X.K (.ref f) = true) : CallR X (.builtin "repr") (rOwnRepr C sp E) := by
  intro pins s σ H xs us Q I r h
  obtain ⟨a, dx, fs, rfl, ha, hsp⟩ := h
  obtain ⟨u, rfl, rx⟩ := vals1 r
  cases rx
  obtain ⟨mA, J, _⟩ := ins_get I.hok ha
  obtain ⟨od, J, _⟩ := J.look
  obtain ⟨m, hF⟩ := I.fr
  refine PySem.W.repr_K hr.in1.units0 hF I.ok.mod.kin J hs hf (run_at F hr.in1 frames_in1 hb hx I r hsp fun v s' hv => ?_)
  obtain ⟨z, H', I', rz, i, rfl, q⟩ := hv
  obtain ⟨t, rfl⟩ := rz
  exact ⟨.str i, H', I', ⟨t, rfl⟩, q⟩
/-- what stands on the right of an own == -/
inductive TyR (K : PySem.W.Frag) (C : Addr) (H : Hp) : V → Prop where
  | same {b dx : Addr} {fs : List (Str × V)} (h : H b = some (.ins C dx fs)) : TyR K C H (.ref b)
  | tup {b : Addr} {ys : List V} (h : Rd H b (.tup ys)) (hn : PySem.W.subIn K (.type "tuple") (.ref C) = some false) : TyR K C H (.ref b)
theorem TyR.looks {x : V} {u : Value} {pins : List (Addr × Obj)} {σ : L2.St} {H : Hp} {s : Shared} (h : TyR X.K C H x) (I : Inv X pins σ H s) (r : RelV x u) : ∃ tb, PySem.W.Looks (model X.prog X.w) s.heap (typeOf u) tb ∧ PySem.W.notFirst X.K C tb = true := by
  cases h with
  | same h =>
    cases r
    obtain ⟨mB, J', _⟩ := ins_get I.hok h
    obtain ⟨od', J', _⟩ := J'.look
    exact ⟨.ref C, J'.type, by simp [PySem.W.notFirst]⟩
  | tup h hn =>
    cases r
    obtain ⟨_, its, rv, o, ho, hc, _⟩ := (show ObjOk X.prog X.w H s.heap _ (.tup _) from h.ok I.hok)
    exact ⟨.type "tuple", fun A Q E s' k q => wpAny_typeOf_ref (k _ _ ho) (by rw [hc]; exact q), by simp [PySem.W.notFirst, hn]⟩
def rOwnEq (K : PySem.W.Frag) (C : Addr) (sp : Sp) (E : XK) : R2 := fun x y H Q => ∃ a dx fs, x = .ref a ∧ H a = some (.ins C dx fs) ∧ TyR K C H y ∧ sp [x, y] H (fun v H' => ∃ i : Bool, v = .bl i ∧ Q (.bl i) H') E
def rOwnNe (K : PySem.W.Frag) (C : Addr) (sp : Sp) (E : XK) : R2 := fun x y H Q => ∃ a dx fs, x = .ref a ∧ H a = some (.ins C dx fs) ∧ TyR K C H y ∧ sp [x, y] H (fun v H' => ∃ i : Bool, v = .bl i ∧ Q (.bl (!i)) H') E
theorem op_owneq (F : FnOk X.prog X.w X.K X.mg X.base CXg n f fd ps sp) (hr : Room n X.A) (hb : Binds X.K fd ps []) (hx : Passes CXg X E)
    (hs : PySem.W.findIn X.K (.ref C) "__eq__" = some (some (.ref f))) (hf : PySem.W.isFn X.K (.ref f) = true) : OpR X (compareOp .Eq) (rOwnEq X.K C sp E) := by
  intro pins s σ H x y v u Q I rx ry h
  obtain ⟨a, dx, fs, rfl, ha, hy, hsp⟩ := h
  cases rx
  obtain ⟨tb, hb1, hb2⟩ := hy.looks I ry
  obtain ⟨mA, J, _⟩ := ins_get I.hok ha
  obtain ⟨od, J, _⟩ := J.look
  obtain ⟨m, hF⟩ := I.fr
  show wpAny (model X.prog X.w) X.A (richCompare .Eq (.ref a) u) (EP X pins σ Q) X.xe s
  refine PySem.W.cmp_K (op := .Eq) hr.units0 hF I.ok.mod.kin J hb1 hb2 hs hf (run_at F hr rfl hb hx I (show Vals [V.ref a, y] [Value.ref a, u] from .cons rfl (.cons ry .nil)) hsp fun v s' hv => ?_)
  obtain ⟨z, H', I', rz, i, rfl, q⟩ := hv
  cases rz
  exact ⟨.bl i, H', I', rfl, q⟩
theorem op_ownne (F : FnOk X.prog X.w X.K X.mg X.base CXg n f fd ps sp) (hr : Room (n + 1) X.A) (hb : Binds X.K fd ps []) (hx : Passes CXg X E)
    (hs : PySem.W.findIn X.K (.ref C) "__eq__" = some (some (.ref f))) (hf : PySem.W.isFn X.K (.ref f) = true) (hne : PySem.W.findIn X.K (.ref C) "__ne__" = some (some (.builtin "object.__ne__"))) (hm : PySem.W.mroIn X.K C (.type "object") = some true) : OpR X (compareOp .NotEq) (rOwnNe X.K C sp E) := by
  intro pins s σ H x y v u Q I rx ry h
  obtain ⟨a, dx, fs, rfl, ha, hy, hsp⟩ := h
  cases rx
  obtain ⟨tb, hb1, hb2⟩ := hy.looks I ry
  obtain ⟨mA, J, _⟩ := ins_get I.hok ha
  obtain ⟨od, J, _⟩ := J.look
  obtain ⟨m, hF⟩ := I.fr
  show wpAny (model X.prog X.w) X.A (richCompare .NotEq (.ref a) u) (EP X pins σ Q) X.xe s
  refine PySem.W.zz_ne hr.units0 hr.in1.units0 hF I.ok.mod.kin J hb1 hb2 hne hm hs hf (run_at F hr.in1 frames_in1 hb hx I (show Vals [V.ref a, y] [Value.ref a, u] from .cons rfl (.cons ry .nil)) hsp fun v s' hv => ?_)
  obtain ⟨z, H', I', rz, i, rfl, q⟩ := hv
  cases rz
  exact ⟨i, rfl, .bl (!i), H', I', rfl, q⟩
end
end Z
set_option Elab.async false
set_option linter.all false
set_option maxRecDepth 100000
set_option maxHeartbeats 2000000
/-! Z8: short names of readings, defs of the text with what they promise, fields stored, two lists joined, texts, own ==. -/
namespace Z
open PySem PySem.Spec PyProof.Rows L2
/-! ### readings by short names -/
abbrev rAddI : R2 := rI0 fun i j => .int (i + j)
abbrev rSubI : R2 := rI0 fun i j => .int (i - j)
abbrev rMulI : R2 := rI CMul fun i j => .int (i * j)
abbrev rModI : R2 := rI (fun _ j => 0 < j) fun i j => .int (i % j)
abbrev rDivI : R2 := rI CDivW fun i j => .int (i / j)
abbrev rPowI : R2 := rI CPow fun i j => .int (i ^ j.toNat)
abbrev rLtI : R2 := rI0 fun i j => .bl (decide (i < j))
abbrev rLeI : R2 := rI0 fun i j => .bl (decide (i ≤ j))
abbrev rGtI : R2 := rI0 fun i j => .bl (decide (j < i))
abbrev rGeI : R2 := rI0 fun i j => .bl (decide (j ≤ i))
abbrev rNegI : V → Hp → VK → Prop := rU fun i => .int (-i)
abbrev rIsN : R2 := fun x y H Q => y = .non ∧ Q (.bl (decide (x = .non))) H
abbrev rNotN : R2 := fun x y H Q => y = .non ∧ Q (.bl (!decide (x = .non))) H
abbrev rAddS : R2 := fun x y H Q => ∃ i j, x = .str i ∧ y = .str j ∧ i.length + j.length ≤ sizeLine ∧ Q (.str (i ++ j)) H
abbrev rLenS : List V → Hp → VK → Prop := fun xs H Q => ∃ z, xs = [.str z] ∧ z.length ≤ sizeLine ∧ Q (.int z.length) H
abbrev rStrI : List V → Hp → VK → Prop := fun xs H Q => ∃ i, xs = [.int i] ∧ i.natAbs.log2 < 1920 ∧ Q (.str (toString i)) H
abbrev rIntB : List V → Hp → VK → Prop := fun xs H Q => (∃ i, xs = [.int i] ∧ Q (.int i) H) ∨ ∃ k, xs = [.bl k] ∧ Q (.int (if k then 1 else 0)) H
abbrev rMin2 : List V → Hp → VK → Prop := fun xs H Q => ∃ i j, xs = [.int i, .int j] ∧ Q (.int (if j < i then j else i)) H
abbrev rMax2 : List V → Hp → VK → Prop := fun xs H Q => ∃ i j, xs = [.int i, .int j] ∧ Q (.int (if j > i then j else i)) H
abbrev rJoin (K : PySem.W.Frag) : V → List V → Hp → VK → Prop := fun x xs H Q => ∃ a p, ∃ ys : List Str, x = .str a ∧ xs = [.ref p] ∧ (SqL K H p (ys.map V.str) ∨ SqT K H p (ys.map V.str)) ∧
    (ys.map (·.length)).sum + ys.length * a.length ≤ 16777216 ∧ Q (.str (Txt.join a ys)) H
/-! ### what a def may let out; defs of the text -/
abbrev CXZ (P : Program) (w : World) : CXT := L2N.CX P w
theorem passL0 {X : Cx} : Passes (CXZ X.prog X.w) X E0 := fun _ _ _ _ _ _ _ h => by
  obtain ⟨_, _, _, _, _, _, _, _, _, _, _, _, z⟩ := h
  exact z.elim
theorem passD {X : Cx} {E : XK} (tk : L2N.Takes X fun cls d _ H => E cls d H) : Passes (CXZ X.prog X.w) X E := L2N.passes_call tk fun _ _ _ _ h => h
/-- a def at its place: it keeps what S says -/
structure FO (P : Program) (w : World) (K : PySem.W.Frag) (mg : Str → Option Value) (k : Nat) (p : Str × Option Str) (ps : List Str) (S : Spec) : Prop where
  ex : ∃ fd, PySem.W.keepIn K (.ref (He.fAd K p)) = true ∧ Binds K fd ps [] ∧ ∀ base, FnOk P w K mg base (CXZ P w) k (He.fAd K p) fd ps (FP S)
abbrev FnP (K : PySem.W.Frag) (x qual : Str) (st : Stmt) (f : Addr) (fd : FuncData) : Prop := FunD K x qual (defArgs st) (defBody st) (defScope st) [] [] f fd
theorem un65 {k : Nat} {A : Around} (r : Room k A) : A.units + 65 < cLine := by
  have := r.un
  omega
/-- a def's arguments: as many as its parameters, what is to be changed as such -/
def Good (S : Spec) (n : Nat) : Prop := ∀ as Ψ Ξ, S as Ψ Ξ → as.length = n ∧ Plain as
/-! ### fields of an instance that is one's own -/
section
variable {c : Cfg} {τ : Lc} {Φ : Tg → Lc → Bool → Prop} {te ta tb : TE} {t : TA} {K : PySem.W.Frag} {D : AE} {i : Nat}
theorem Ok.mutI {σ : L2.St} {G H : Hp} {F : Nat → Addr → Prop} {l : Bool} {C : Addr} {ns ms : List Str} {xs ys : List DD} (o : Ok c τ σ G H F) (hi : τ[i]? = some (some (.res l (ownI C ns xs)))) :
    ∃ p dx vs, σ[i]? = some (some (.ref p)) ∧ H p = some (.ins C dx (ns.zip vs)) ∧ ns.length = vs.length ∧ RepL G xs vs ∧
      ∀ ws, ms.length = ws.length → RepL G ys ws → Go false c (τ.set i (some (.res l (ownI C ms ys)))) σ G H F G (upd H p (.ins C dx (ms.zip ws))) F := by
  obtain ⟨u, hu, p, dx, vs, rfl, h2, h5, h3, h4⟩ := o.rs i l _ hi
  have fp : F i p := by rw [h4]
  have m3 := (o.own i p fp).2.1
  have hil : i < τ.length := (List.getElem?_eq_some_iff.mp hi).1
  refine ⟨p, dx, vs, hu, h2, h5, h3, fun ws hl r => ?_⟩
  have gt : ∀ j : Nat, j ≠ i → (τ.set i (some (.res l (ownI C ms ys))))[j]? = τ[j]? := fun j h => List.getElem?_set_ne (fun z => h z.symm)
  have gti : (τ.set i (some (.res l (ownI C ms ys))))[i]? = some (some (.res l (ownI C ms ys))) := List.getElem?_set_self hil
  refine ⟨?_, ⟨Same.refl G, fun a u z w => ?_, fun a z _ _ => z, fun a z => ?_⟩, fun j a z => .inl z⟩
  · exact {
      ex := same_own o.ex m3
      tu := o.tu.new fun z => z
      fr := ⟨o.fr.g, fun a u z w => by
        rw [upd_ne (fun e => by
          subst e
          obtain ⟨_, _, _, _, _, y4⟩ := o.own i a fp
          rcases y4 with y4 | y4
          · rw [z] at y4; cases y4
          · exact w y4.2)]
        exact o.fr.h a u z w, o.fr.n, fun a z => by
        by_cases e : a = p
        · rw [e, upd_same]; exact (fun y => by cases y)
        · rw [upd_ne e]; exact o.fr.t a z⟩
      len := by rw [List.length_set]; exact o.len
      sl := fun j t h => by
        by_cases e : j = i
        · subst e
          rw [gti] at h
          cases h
          exact ⟨_, hu, True.intro⟩
        · rw [gt j e] at h
          exact o.sl j t h
      rs := fun j l' R h => by
        by_cases e : j = i
        · subst e
          rw [gti] at h
          cases h
          exact ⟨_, hu, p, dx, ws, rfl, upd_same, hl, r, h4⟩
        · rw [gt j e] at h
          obtain ⟨v, k1, k2⟩ := o.rs j l' R h
          exact ⟨v, k1, R.mono v _ _ _ _ _ k2 (Same.refl G) fun a ha => upd_ne fun ea => o.dj j i a e ha (by rw [ea]; exact fp)⟩
      own := fun j a z => by
        obtain ⟨y1, y2, l', R, y3, y4⟩ := o.own j a z
        refine ⟨?_, y2, ?_⟩
        · by_cases e : a = p
          · rw [e, upd_same]; exact (fun y => by cases y)
          · rw [upd_ne e]; exact y1
        · by_cases e : j = i
          · subst e
            rw [hi] at y3
            cases y3
            exact ⟨l, _, gti, y4⟩
          · exact ⟨l', R, by rw [gt j e]; exact y3, y4⟩
      dj := o.dj
      pn := fun q hq => by
        obtain ⟨k1, R, k2⟩ := o.pn q hq
        by_cases e : q.1 = i
        · rw [e, hi] at k2
          cases k2
          exact ⟨k1, _, by rw [e]; exact gti⟩
        · exact ⟨k1, R, by rw [gt _ e]; exact k2⟩ }
  · rw [upd_ne (fun e => by subst e; exact w ⟨rfl, i, fp⟩)]
    exact z
  · by_cases e : a = p
    · rw [e, upd_same]; exact (fun y => by cases y)
    · rw [upd_ne e]; exact z
/-- the names and the data behind a store to a field -/
def putN (f : Str) : List Str → List Str
  | [] => [f]
  | g :: r => if g = f then g :: r else g :: putN f r
def putX (f : Str) (d : DD) : List Str → List DD → List DD
  | g :: r, x :: xs => if g = f then d :: xs else x :: putX f d r xs
  | _, _ => [d]
def putV (f : Str) (d : V) : List Str → List V → List V
  | g :: r, x :: xs => if g = f then d :: xs else x :: putV f d r xs
  | _, _ => [d]
theorem put_zip {f : Str} {y : V} : ∀ {ns : List Str} {vs : List V}, ns.length = vs.length → putF f y (ns.zip vs) = (putN f ns).zip (putV f y ns vs) ∧ (putN f ns).length = (putV f y ns vs).length
  | [], [], _ => ⟨rfl, rfl⟩
  | [], _ :: _, h => by cases h
  | _ :: _, [], h => by cases h
  | g :: ns, v :: vs, h => by
    obtain ⟨h1, h2⟩ := put_zip (f := f) (y := y) (ns := ns) (vs := vs) (by simpa using h)
    have hl : ns.length = vs.length := by simpa using h
    show (if g = f then (g, y) :: ns.zip vs else (g, v) :: putF f y (ns.zip vs)) = (if g = f then g :: ns else g :: putN f ns).zip (if g = f then y :: vs else v :: putV f y ns vs) ∧
      (if g = f then g :: ns else g :: putN f ns).length = (if g = f then y :: vs else v :: putV f y ns vs).length
    by_cases e : g = f
    · rw [if_pos e, if_pos e, if_pos e]
      exact ⟨rfl, by rw [List.length_cons, List.length_cons, hl]⟩
    · rw [if_neg e, if_neg e, if_neg e, h1]
      exact ⟨rfl, by rw [List.length_cons, List.length_cons, h2]⟩
theorem putX_rep {G : Hp} {f : Str} {d : DD} {y : V} (hd : Rep G d y) : ∀ {ns : List Str} {xs : List DD} {vs : List V}, ns.length = vs.length → RepL G xs vs → RepL G (putX f d ns xs) (putV f y ns vs)
  | [], [], _, _, h => by
    have e : _ = [] := h
    subst e
    exact RepL.cons hd rfl
  | [], _ :: _, vs, hl, h => by
    have := h.length
    cases vs with
    | nil => cases this
    | cons a b => cases hl
  | _ :: _, [], vs, hl, h => by
    have e : vs = [] := h
    subst e
    cases hl
  | g :: ns, x :: xs, vs, hl, h => by
    obtain ⟨v, r, rfl, h2, h3⟩ := h
    show RepL G (if g = f then d :: xs else x :: putX f d ns xs) (if g = f then y :: r else v :: putV f y ns r)
    by_cases e : g = f
    · rw [if_pos e, if_pos e]
      exact RepL.cons hd h3
    · rw [if_neg e, if_neg e]
      exact RepL.cons h2 (putX_rep hd (by simpa using hl) h3)
/-- x.f = e -/
theorem ws_fldI {f : Str} (h : W c te τ fun r τ1 _ => ∃ d l C ns xs, r = .dat d ∧ τ1[i]? = some (some (.res l (ownI C ns xs))) ∧ Cls K C ∧ NoAttr K C f ∧ ns.length < 900 ∧ D.nx (τ1.set i (some (.res l (ownI C (putN f ns) (putX f d ns xs)))))) :
    WS c (sFld K (tVar i) te f) τ D := fun σ G H F o De lk =>
  h σ G H F o _ fun y G1 H1 F1 r τ1 b1 p1 g1 s1 => by
    obtain ⟨d, l, C, ns, xs, rfl, hi, hc, hn, hz, k⟩ := p1
    obtain ⟨p, dx, vs, hu, h2, h5, h3, gm⟩ := g1.ok.mutI (ms := putN f ns) (ys := putX f d ns xs) hi
    obtain ⟨e1, e2⟩ := put_zip (f := f) (y := y) h5
    have g2 := gm (putV f y ns vs) e2 (putX_rep s1 h5 h3)
    refine ⟨_, hu, p, C, dx, _, rfl, h2, hc, hn, ?_, ?_⟩
    · rw [List.length_zip, ← h5, Nat.min_self]
      exact Nat.lt_trans hz (by decide)
    · rw [e1]
      exact lk.nx _ σ G1 _ F1 k g2.ok g1.fr.g
/-! ### a new list of two -/
/-- the datum at a value: a list in the heap at hand, its items persistent -/
def AtD (G H : Hp) (v : V) : DD → Prop
  | .lst ds => ∃ p vs, v = .ref p ∧ H p = some (.lst vs) ∧ RepL G ds vs
  | d => Rep G d v
def MkL2 (r : R2) (x y : DD) (es : List DD) : Prop := ∀ (G H : Hp) (u v : V), Same G H → ∀ Q : VK, AtD G H u x → AtD G H v y → (∀ p ws, H p = none → RepL G es ws → Q (.ref p) (upd H p (.lst ws))) → r u v H Q
theorem Dl.at {c : Cfg} {σ : L2.St} {H0 G H : Hp} {F : Nat → Addr → Prop} {r : Tg} {d : DD} {v : V} (h : Dl τ r d) (o : Ok c τ σ G H F) (q : Rs c σ H0 G H F r v) : AtD G H v d := by
  cases h with
  | dat =>
    cases d with
    | lst ds => exact (Dl.dat (τ := τ)).lst o q
    | _ => exact q
  | fre => exact Dl.fre.lst o q
  | ali h => exact (Dl.ali h).lst o q
theorem w_mkL2 {r : R2} (h : W c ta τ fun x τ1 b1 => W c tb τ1 fun y τ2 b2 => stb x b2 = true ∧ ∃ d e es, Dl τ2 x d ∧ Dl τ2 y e ∧ MkL2 r d e es ∧ Φ (.res true (ownL es)) τ2 (b1 && b2)) : W c (tOp r ta tb) τ Φ := fun σ G H F o Q q =>
  h σ G H F o _ fun x G1 H1 F1 rx τ1 b1 p1 g1 s1 => p1 σ G1 H1 F1 g1.ok _ fun y G2 H2 F2 ry τ2 b2 p2 g2 s2 => by
    obtain ⟨hs, d, e, es, hd, he, hop, k⟩ := p2
    refine hop G2 H2 x y g2.ok.ex Q (hd.at g2.ok (s1.keep g2 hs)) (he.at g2.ok s2) fun p ws hp rr => ?_
    obtain ⟨a, b⟩ := new_own (g1.trans g2) hp rr
    exact q _ _ _ F2 _ τ2 _ k a b
theorem mk_cat {xs ys : List DD} (hz : xs.length + ys.length ≤ 100000) : MkL2 rCat (.lst xs) (.lst ys) (xs ++ ys) := fun G H u v e Q h1 h2 k => by
  obtain ⟨p, vs, rfl, a1, a2⟩ := h1
  obtain ⟨q, ws, rfl, b1, b2⟩ := h2
  exact ⟨p, q, vs, ws, rfl, rfl, a1, b1, by rw [a2.length, b2.length]; exact sz_le hz, fun l hl => k l _ hl (a2.append b2)⟩
theorem repl_rep {G : Hp} {ds : List DD} {vs : List V} (h : RepL G ds vs) : ∀ n : Nat, RepL G (List.replicate n ds).flatten (List.replicate n vs).flatten
  | 0 => rfl
  | n + 1 => by
    rw [List.replicate_succ, List.replicate_succ, List.flatten_cons, List.flatten_cons]
    exact h.append (repl_rep h n)
theorem mk_rep {xs : List DD} {n : Int} (h0 : -100000 ≤ n) (h1 : n ≤ 100000) (hz : xs.length * n.toNat ≤ 100000) : MkL2 rRep (.lst xs) (.int n) (List.replicate n.toNat xs).flatten := fun G H u v e Q h2 h3 k => by
  obtain ⟨p, vs, rfl, a1, a2⟩ := h2
  exact ⟨p, n, vs, rfl, h3, a1, by omega, by omega, by rw [a2.length]; exact sz_le hz, fun l hl => k l _ hl (repl_rep a2 _)⟩
/-! ### slices -/
def cutD (xs : List DD) (lo hi : Option Int) : List DD := (xs.drop (HT.sIx xs.length 0 lo)).take (HT.sIx xs.length xs.length hi - HT.sIx xs.length 0 lo)
theorem RepL.cut {G : Hp} {ds : List DD} {vs : List V} (h : RepL G ds vs) (lo hi : Option Int) : RepL G (cutD ds lo hi) (cutV vs lo hi) := by
  unfold cutD cutV
  rw [h.length]
  exact (h.drop _).take _
def WO (c : Cfg) (to : TO) (τ : Lc) (Φ : Option Int → Lc → Bool → Prop) : Prop := ∀ (σ : L2.St) (G H : Hp) (F : Nat → Addr → Prop), Ok c τ σ G H F → ∀ Q : Option Int → Hp → Prop,
  (∀ k G' H' F' τ' b, Φ k τ' b → Go b c τ' σ G H F G' H' F' → Q k H') → to σ H Q
theorem wo_none {Φ : Option Int → Lc → Bool → Prop} (k : Φ none τ true) : WO c tNoPart τ Φ := fun σ G H F o Q q => q none G H F τ true k (Go.refl o)
theorem wo_some {Φ : Option Int → Lc → Bool → Prop} (h : W c te τ fun r τ1 b1 => ∃ n, r = .dat (.int n) ∧ Φ (some n) τ1 b1) : WO c (tPart te) τ Φ := fun σ G H F o Q q =>
  h σ G H F o _ fun x G1 H1 F1 r τ1 b1 p1 g1 s1 => by
    obtain ⟨n, rfl, k⟩ := p1
    exact ⟨n, s1, q (some n) G1 H1 F1 τ1 b1 k g1⟩
/-- xs[lo:hi], a list: a new one -/
theorem w_slL {tl th : TO} (h : W c te τ fun x τ1 b1 => WO c tl τ1 fun lo τ2 b2 => WO c th τ2 fun hi τ3 b3 => stb x b2 = true ∧ stb x b3 = true ∧ ∃ ds, Dl τ3 x (.lst ds) ∧ Φ (.res true (ownL (cutD ds lo hi))) τ3 (b1 && b2 && b3)) :
    W c (tSl (rSlL K) te tl th) τ Φ := fun σ G H F o Q q =>
  h σ G H F o _ fun x G1 H1 F1 rx τ1 b1 p1 g1 s1 => p1 σ G1 H1 F1 g1.ok _ fun lo G2 H2 F2 τ2 b2 p2 g2 => p2 σ G2 H2 F2 g2.ok _ fun hi G3 H3 F3 τ3 b3 p3 g3 => by
    obtain ⟨e2, e3, ds, hd, k⟩ := p3
    obtain ⟨p, vs, rfl, h2, h3⟩ := hd.lst g3.ok ((s1.keep g2 e2).keep g3 e3)
    refine ⟨p, vs, rfl, SqL.of h2, fun l hl => ?_⟩
    obtain ⟨a, b⟩ := new_own ((g1.trans g2).trans g3) hl (h3.cut lo hi)
    exact q _ _ _ F3 _ τ3 _ k a b
/-- of a list that is only seen, of scalars -/
theorem w_slLV {tl th : TO} (h : W c te τ fun x τ1 b1 => WO c tl τ1 fun lo τ2 b2 => WO c th τ2 fun hi τ3 b3 => stb x b2 = true ∧ stb x b3 = true ∧ ∃ ds, Dv τ3 x (.lst ds) ∧ hardL ds = true ∧ Φ (.res true (ownL (cutD ds lo hi))) τ3 (b1 && b2 && b3)) :
    W c (tSl (rSlL K) te tl th) τ Φ := fun σ G H F o Q q =>
  h σ G H F o _ fun x G1 H1 F1 rx τ1 b1 p1 g1 s1 => p1 σ G1 H1 F1 g1.ok _ fun lo G2 H2 F2 τ2 b2 p2 g2 => p2 σ G2 H2 F2 g2.ok _ fun hi G3 H3 F3 τ3 b3 p3 g3 => by
    obtain ⟨e2, e3, ds, hd, hh, k⟩ := p3
    obtain ⟨p, vs, rfl, h2, h3⟩ := hd.rep g3.ok ((s1.keep g2 e2).keep g3 e3)
    refine ⟨p, vs, rfl, SqL.of h2, fun l hl => ?_⟩
    obtain ⟨a, b⟩ := new_own ((g1.trans g2).trans g3) hl ((hardL_any (G' := G3) hh h3).cut lo hi)
    exact q _ _ _ F3 _ τ3 _ k a b
/-- t[lo:hi], a tuple -/
theorem w_slT {tl th : TO} (h : W c te τ fun x τ1 b1 => WO c tl τ1 fun lo τ2 b2 => WO c th τ2 fun hi τ3 b3 => ∃ ds, x = .dat (.tup ds) ∧ Φ (.dat (.tup (cutD ds lo hi))) τ3 (b1 && b2 && b3)) :
    W c (tSl (rSlA K) te tl th) τ Φ := fun σ G H F o Q q =>
  h σ G H F o _ fun x G1 H1 F1 rx τ1 b1 p1 g1 s1 => p1 σ G1 H1 F1 g1.ok _ fun lo G2 H2 F2 τ2 b2 p2 g2 => p2 σ G2 H2 F2 g2.ok _ fun hi G3 H3 F3 τ3 b3 p3 g3 => by
    obtain ⟨ds, rfl, k⟩ := p3
    have s3 : Rs c σ H G3 H3 F3 (.dat (.tup ds)) x := (s1.keep g2 rfl).keep g3 rfl
    obtain ⟨p, vs, rfl, h2, h3⟩ := s3
    refine ⟨p, vs, rfl, .inl (rd_mono g3.ok.ex h2), fun hw => ?_, fun _ l hl => ?_⟩
    · refine q _ G3 H3 F3 _ τ3 _ k ((g1.trans g2).trans g3) ⟨p, vs, rfl, h2, ?_⟩
      have e : cutV vs lo hi = vs := by
        unfold cutV
        rw [hw.1, hw.2]
        simp
      have := h3.cut lo hi
      rw [e] at this
      exact this
    · have g4 := Go.grow g3.ok (Fr.both (o := .tup (cutV vs lo hi)) g3.ok.ex hl) (same_both g3.ok.ex) g3.ok.tu.both
      have gg := ((g1.trans g2).trans g3).trans g4
      rw [Bool.and_true] at gg
      exact q _ _ _ F3 _ τ3 _ k gg ⟨l, _, rfl, .inl upd_same, (h3.cut lo hi).mono g4.fr.g _ _⟩
/-- t + u, tuples -/
theorem w_catT (h : W c ta τ fun x τ1 b1 => W c tb τ1 fun y τ2 b2 => ∃ ds es, x = .dat (.tup ds) ∧ y = .dat (.tup es) ∧ ds.length + es.length ≤ 100000 ∧ Φ (.dat (.tup (ds ++ es))) τ2 (b1 && b2)) : W c (tOp (rCatA K) ta tb) τ Φ := fun σ G H F o Q q =>
  h σ G H F o _ fun x G1 H1 F1 rx τ1 b1 p1 g1 s1 => p1 σ G1 H1 F1 g1.ok _ fun y G2 H2 F2 ry τ2 b2 p2 g2 s2 => by
    obtain ⟨ds, es, rfl, rfl, hz, k⟩ := p2
    have s1' : Rs c σ H G2 H2 F2 (.dat (.tup ds)) x := s1.keep g2 rfl
    obtain ⟨p, vs, rfl, h2, h3⟩ := s1'
    obtain ⟨p', ws, rfl, h4, h5⟩ := s2
    have l1 := h3.length
    have l2 := h5.length
    refine ⟨p, p', vs, ws, rfl, rfl, .inl (rd_mono g2.ok.ex h2), .inl (rd_mono g2.ok.ex h4), by rw [l1, l2]; exact sz_le hz, fun e => ?_, fun _ e => ?_, fun _ _ l hl => ?_⟩
    · subst e
      have ed : ds = [] := List.length_eq_zero_iff.mp (by simpa using l1.symm)
      subst ed
      exact q _ G2 H2 F2 _ τ2 _ k (g1.trans g2) ⟨p', ws, rfl, h4, h5⟩
    · subst e
      have ed : es = [] := List.length_eq_zero_iff.mp (by simpa using l2.symm)
      subst ed
      rw [List.append_nil] at k
      exact q _ G2 H2 F2 _ τ2 _ k (g1.trans g2) ⟨p, vs, rfl, h2, h3⟩
    · have g4 := Go.grow g2.ok (Fr.both (o := .tup (vs ++ ws)) g2.ok.ex hl) (same_both g2.ok.ex) g2.ok.tu.both
      have gg := (g1.trans g2).trans g4
      rw [Bool.and_true] at gg
      exact q _ _ _ F2 _ τ2 _ k gg ⟨l, _, rfl, .inl upd_same, (h3.append h5).mono g4.fr.g _ _⟩
/-! ### texts -/
theorem o2_adds {a b : Str} (hz : a.length + b.length ≤ 100000) : Op2 rAddS (.str a) (.str b) (.str (a ++ b)) := fun G H x y e t hx hy Q q => ⟨a, b, hx, hy, sz_le hz, q _ G H Fr.refl e t rfl⟩
theorem o2_isN {d : DD} {k : Bool} (hk : ∀ G v, Rep G d v → decide (v = V.non) = k) : Op2 rIsN d .non (.bl k) := fun G H x y e t hx hy Q q => ⟨hy, q _ G H Fr.refl e t (show _ = V.bl k by rw [hk H x hx])⟩
theorem o2_notN {d : DD} {k : Bool} (hk : ∀ G v, Rep G d v → decide (v = V.non) = k) : Op2 rNotN d .non (.bl (!k)) := fun G H x y e t hx hy Q q => ⟨hy, q _ G H Fr.refl e t (show _ = V.bl (!k) by rw [hk H x hx])⟩
theorem oa_str {i : Int} (hz : i.natAbs.log2 < 1920) : OpA rStrI [.int i] (.str (toString i)) := fun G H xs e t h Q q => by
  obtain ⟨v, r, rfl, h2, h4⟩ := h
  have e4 : r = [] := h4
  subst e4
  exact ⟨i, by rw [show v = V.int i from h2], hz, q _ G H Fr.refl e t rfl⟩
theorem oa_lenS {z : Str} (hz : z.length ≤ 100000) : OpA rLenS [.str z] (.int z.length) := fun G H xs e t h Q q => by
  obtain ⟨v, r, rfl, h2, h4⟩ := h
  have e4 : r = [] := h4
  subst e4
  exact ⟨z, by rw [show v = V.str z from h2], sz_le hz, q _ G H Fr.refl e t rfl⟩
theorem oa_intB {k : Bool} : OpA rIntB [.bl k] (.int (if k then 1 else 0)) := fun G H xs e t h Q q => by
  obtain ⟨v, r, rfl, h2, h4⟩ := h
  have e4 : r = [] := h4
  subst e4
  exact .inr ⟨k, by rw [show v = V.bl k from h2], q _ G H Fr.refl e t rfl⟩
theorem oa_min2 {i j : Int} : OpA rMin2 [.int i, .int j] (.int (if j < i then j else i)) := fun G H xs e t h Q q => by
  obtain ⟨v, r, rfl, h2, v2, r2, rfl, h3, h4⟩ := h
  have e4 : r2 = [] := h4
  subst e4
  exact ⟨i, j, by rw [show v = V.int i from h2, show v2 = V.int j from h3], q _ G H Fr.refl e t rfl⟩
theorem oa_max2 {i j : Int} : OpA rMax2 [.int i, .int j] (.int (if j > i then j else i)) := fun G H xs e t h Q q => by
  obtain ⟨v, r, rfl, h2, v2, r2, rfl, h3, h4⟩ := h
  have e4 : r2 = [] := h4
  subst e4
  exact ⟨i, j, by rw [show v = V.int i from h2, show v2 = V.int j from h3], q _ G H Fr.refl e t rfl⟩
/-! ### own ==, !=, len, repr -/
theorem tyr_obj {H : Hp} {C : Addr} {ns : List Str} {xs : List DD} {v : V} (h : Rep H (.obj C ns xs) v) : TyR K C H v := by
  obtain ⟨a, dx, vs, rfl, h2, _⟩ := h
  exact .same h2
theorem w_ownEq {C : Addr} {S : Spec} {E : XK} (h : W c ta τ fun x τ1 b1 => W c tb τ1 fun y τ2 b2 => ∃ ns xs e, x = .dat (.obj C ns xs) ∧ y = .dat e ∧ ((∃ ms ys, e = .obj C ms ys) ∨ (∃ ys, e = .tup ys) ∧ PySem.W.subIn K (.type "tuple") (.ref C) = some false) ∧
    CallOk c S E τ2 [x, y] (fun r τ3 b3 => ∃ k, r = .dat (.bl k) ∧ Φ (.dat (.bl k)) τ3 b3) (b1 && b2)) : W c (tOp (rOwnEq K C (FP S) E) ta tb) τ Φ := fun σ G H F o Q q =>
  h σ G H F o _ fun x G1 H1 F1 rx τ1 b1 p1 g1 s1 => p1 σ G1 H1 F1 g1.ok _ fun y G2 H2 F2 ry τ2 b2 p2 g2 s2 => by
    obtain ⟨ns, xs, e, rfl, rfl, he, hc⟩ := p2
    have s1' : Rs c σ H G2 H2 F2 (.dat (.obj C ns xs)) x := s1.keep g2 rfl
    obtain ⟨a, dx, vs, rfl, h2, h3, h4⟩ := id s1'
    refine ⟨a, dx, _, rfl, g2.ok.ex _ _ h2, ?_, call_run hc (g1.trans g2) (.cons s1' (.cons (Rs.from s2 g1.fr.t) .nil)) fun v G' H' F' r τ' b' hr g' rs => ?_⟩
    · rcases he with ⟨ms, ys, rfl⟩ | ⟨⟨ys, rfl⟩, hn⟩
      · exact tyr_obj (Rep.mono g2.ok.ex _ _ s2)
      · obtain ⟨b, ws, rfl, h5, _⟩ := s2
        exact .tup (rd_mono g2.ok.ex h5) hn
    · obtain ⟨k, rfl, hk⟩ := hr
      exact ⟨k, rs, q _ G' H' F' _ τ' b' hk g' rfl⟩
theorem w_ownNe {C : Addr} {S : Spec} {E : XK} (h : W c ta τ fun x τ1 b1 => W c tb τ1 fun y τ2 b2 => ∃ ns xs e, x = .dat (.obj C ns xs) ∧ y = .dat e ∧ ((∃ ms ys, e = .obj C ms ys) ∨ (∃ ys, e = .tup ys) ∧ PySem.W.subIn K (.type "tuple") (.ref C) = some false) ∧
    CallOk c S E τ2 [x, y] (fun r τ3 b3 => ∃ k, r = .dat (.bl k) ∧ Φ (.dat (.bl (!k))) τ3 b3) (b1 && b2)) : W c (tOp (rOwnNe K C (FP S) E) ta tb) τ Φ := fun σ G H F o Q q =>
  h σ G H F o _ fun x G1 H1 F1 rx τ1 b1 p1 g1 s1 => p1 σ G1 H1 F1 g1.ok _ fun y G2 H2 F2 ry τ2 b2 p2 g2 s2 => by
    obtain ⟨ns, xs, e, rfl, rfl, he, hc⟩ := p2
    have s1' : Rs c σ H G2 H2 F2 (.dat (.obj C ns xs)) x := s1.keep g2 rfl
    obtain ⟨a, dx, vs, rfl, h2, h3, h4⟩ := id s1'
    refine ⟨a, dx, _, rfl, g2.ok.ex _ _ h2, ?_, call_run hc (g1.trans g2) (.cons s1' (.cons (Rs.from s2 g1.fr.t) .nil)) fun v G' H' F' r τ' b' hr g' rs => ?_⟩
    · rcases he with ⟨ms, ys, rfl⟩ | ⟨⟨ys, rfl⟩, hn⟩
      · exact tyr_obj (Rep.mono g2.ok.ex _ _ s2)
      · obtain ⟨b, ws, rfl, h5, _⟩ := s2
        exact .tup (rd_mono g2.ok.ex h5) hn
    · obtain ⟨k, rfl, hk⟩ := hr
      exact ⟨k, rs, q _ G' H' F' _ τ' b' hk g' rfl⟩
theorem w_ownLen {C : Addr} {S : Spec} {E : XK} (h : W c ta τ fun x τ1 b1 => ∃ ns xs, x = .dat (.obj C ns xs) ∧ CallOk c S E τ1 [x] (fun r τ3 b3 => ∃ k : Int, r = .dat (.int k) ∧ 0 ≤ k ∧ k ≤ 1000000 ∧ Φ (.dat (.int k)) τ3 b3) b1) :
    W c (tCB (rOwnLen C (FP S) E) (tCons ta tNil)) τ Φ := fun σ G H F o Q q =>
  h σ G H F o _ fun x G1 H1 F1 rx τ1 b1 p1 g1 s1 => by
    obtain ⟨ns, xs, rfl, hc⟩ := p1
    obtain ⟨a, dx, vs, rfl, h2, h3, h4⟩ := id s1
    refine ⟨a, dx, _, rfl, g1.ok.ex _ _ h2, call_run hc g1 (.cons s1 .nil) fun v G' H' F' r τ' b' hr g' rs => ?_⟩
    obtain ⟨k, rfl, k1, k2, hk⟩ := hr
    exact ⟨k, rs, ⟨k1, by omega⟩, q _ G' H' F' _ τ' b' hk g' rfl⟩
theorem w_ownRepr {C : Addr} {S : Spec} {E : XK} (h : W c ta τ fun x τ1 b1 => ∃ ns xs, x = .dat (.obj C ns xs) ∧ CallOk c S E τ1 [x] (fun r τ3 b3 => ∃ k : Str, r = .dat (.str k) ∧ Φ (.dat (.str k)) τ3 b3) b1) :
    W c (tCB (rOwnRepr C (FP S) E) (tCons ta tNil)) τ Φ := fun σ G H F o Q q =>
  h σ G H F o _ fun x G1 H1 F1 rx τ1 b1 p1 g1 s1 => by
    obtain ⟨ns, xs, rfl, hc⟩ := p1
    obtain ⟨a, dx, vs, rfl, h2, h3, h4⟩ := id s1
    refine ⟨a, dx, _, rfl, g1.ok.ex _ _ h2, call_run hc g1 (.cons s1 .nil) fun v G' H' F' r τ' b' hr g' rs => ?_⟩
    obtain ⟨k, rfl, hk⟩ := hr
    exact ⟨k, rs, q _ G' H' F' _ τ' b' hk g' rfl⟩
/-- isinstance(x, C), C a class of one's own -/
theorem clsV_ref {C : Addr} : True := True.intro
end
end Z
set_option Elab.async false
set_option linter.all false
set_option maxRecDepth 100000
set_option maxHeartbeats 2000000
/-! Z9: targets with a star, targets that are fields, f-strings, joined texts. -/
namespace Z
open PySem PySem.Spec PyProof.Rows L2
/-! ### a, *b, c = a list -/
section
variable {X : Cx} {pos : Pos}
/-- n targets, the i-th with a star: a new list in its place -/
def gStar (K : PySem.W.Frag) (n i : Nat) (t : TGs) : TG := fun v σ H Q => ∃ a xs, v = .ref a ∧ SqL K H a xs ∧ n ≤ xs.length + 1 ∧ xs.length ≤ 1000000 ∧
  ∀ D, H D = none → t (xs.take i ++ V.ref D :: (xs.drop i).drop (xs.length + 1 - n)) σ (upd H D (.lst ((xs.drop i).take (xs.length + 1 - n)))) Q
theorem Vals.toDrop {xs : List V} {us : List Value} (r : Vals xs us) (n : Nat) : Vals (xs.drop n) (us.drop n) := Vals.drop n r
theorem pg_star {es : List Expr} {k : Nat} {t : TGs} {n i : Nat} (hc : X.calm = true) (h : PGs X es t)
    (hn : (assignEach es X.env).length = n := by rfl) (hst : (assignEach es X.env).findIdx? (·.1) = some i := by rfl) (hi : i < n := by decide) : PG X (.Tuple es k pos) (gStar X.K n i t) := by
  refine ⟨fun pins s σ H v u Q I r hw => ?_⟩
  obtain ⟨a, xs, e1, hq, hl, hz, hw⟩ := hw
  subst e1
  cases r
  obtain ⟨its, rv, pl, hz2⟩ := I.list hq
  have ll := rv.length
  have hla : s.heap.IsList a its.toArray := pl.isList
  have hlt : a ≠ s.heap.objs.size := by obtain ⟨o, ho, _⟩ := hla; exact Nat.ne_of_lt (Heap.lt_size ho)
  rw [PyProof.Rows.assign_Tuple]
  refine wpAny_bind (wpAny_standAt ?_)
  unfold unpack
  rw [hn, hst]
  refine wpAny_bind (wpAny_holding ?_)
  unfold unpackItems
  refine wpAny_bind ?_
  unfold notIterableAtAll
  refine wpAny_bind (wpAny_specialOf hla.typeIs slot_list_iter.lookup (wpAny_pure ?_))
  simp only [Bool.false_eq_true, if_false]
  refine wpAny_bind (wpAny_holding (wpAny_pyIter_list hla ?_))
  have hsz : its.toArray.size = its.length := by simp
  refine wpAny_bind (wpAny_holding (PySem.W.kun_draw hlt i 0 _ _ ⟨_, Heap.get?_push_size _ rfl, rfl, rfl⟩ (hla.push _) (by omega) fun h1 hit hs1 => ?_))
  have hl1 : h1.IsList a its.toArray := (hla.push _).extBut hs1.extBut hlt
  rw [Nat.zero_add] at hit
  obtain ⟨oi, hoi, _⟩ := id hit
  obtain ⟨ol, hol, _⟩ := id hl1
  have e0 : its.toArray.toList.drop 0 = its := by simp
  rw [e0]
  have hfl : (its.take i).length = i := by rw [List.length_take]; omega
  rw [if_neg (by rw [hfl]; omega)]
  refine wpAny_bind (wpAny_holding (PySem.W.kun_collect (s := { s with heap := h1 }) (T := "list_iterator") (.inr (.inr (.inl rfl))) (Walks.list (A := X.A.in1) (I.ok.hd hc) s.heap.objs.size a hlt its.toArray) (fun j u st => st.1.typeIs) (k := i) (by omega) ⟨hit, hl1⟩ (Heap.lt_size hoi) (Heap.lt_size hol) (fun h2 tk hk => ?_) (by rw [sizeLine_eq]; omega)))
  have e1 : its.toArray.toList.drop i = its.drop i := by simp
  rw [e1]
  have hrl : (its.drop i).length = its.length - i := List.length_drop
  rw [if_neg (by rw [hrl]; omega)]
  have hmid : (its.drop i).length - (n - 1 - i) = its.length + 1 - n := by rw [hrl]; omega
  rw [hmid]
  refine wpAny_bind (wpAny_newObj_type ?_ (by show (List.toArray _).size ≤ sizeLine; rw [List.size_toArray, List.length_take, hrl, sizeLine_eq]; omega))
  refine wpAny_pure ?_
  have kp : ∀ b o, s.heap.get? b = some o → h2.get? b = some o := fun b o e => hk b o (Nat.ne_of_lt (Heap.lt_size e)) (hs1.extBut b o (Nat.ne_of_lt (Heap.lt_size e)) (Heap.get?_push_of_some _ e))
  have I1 : Inv X pins σ H { s with heap := h2, toks := tk } := I.kept (t' := tk) kp
  have rm : Vals ((xs.drop i).take (xs.length + 1 - n)) ((its.drop i).take (its.length + 1 - n)) := by
    rw [← ll]
    exact Vals.take _ (Vals.drop _ rv)
  have I2 := I1.lnew (t' := tk) rm (by rw [List.length_take, List.length_drop, sizeLine_eq]; omega)
  refine h.run pins _ σ _ _ _ Q I2 ?_ (hw _ I1.fresh)
  have rl : Vals ((xs.drop i).drop (xs.length + 1 - n)) ((its.drop i).drop (its.length + 1 - n)) := by
    rw [← ll]
    exact Vals.drop _ (Vals.drop _ rv)
  have : its.take i ++ [Value.ref h2.objs.size] ++ (its.drop i).drop (its.length + 1 - n) = its.take i ++ Value.ref h2.objs.size :: (its.drop i).drop (its.length + 1 - n) := by simp
  rw [this]
  exact (Vals.take i rv).append (.cons rfl rl)
theorem pgs_starred {e : Expr} {es : List Expr} {t : TG} {u : TGs} {p : Pos} (h1 : PG X e t) (h2 : PGs X es u)
    (hs : (assignEach (.Starred e p :: es) X.env).map (·.2) = assign e X.env :: (assignEach es X.env).map (·.2) := by rfl) : PGs X (.Starred e p :: es) (gCons t u) := by
  refine ⟨fun pins s σ H vs us Q I r h => ?_⟩
  obtain ⟨v, vr, e1, h⟩ := h
  subst e1
  cases r with
  | cons r rr =>
    rw [hs]
    refine assignInOrder_cons (thn (h1.run pins s σ H _ _ _ I r h) fun _ s1 ⟨σ1, H1, I1, q1⟩ => ?_)
    exact h2.run pins s1 σ1 H1 _ _ Q I1 rr q1
/-! ### a target that is a field -/
def gFld (K : PySem.W.Frag) (to : TE) (f : Str) : TG := fun v σ H Q => to σ H fun x H2 => ∃ a C dx fs, x = .ref a ∧ H2 a = some (.ins C dx fs) ∧ Cls K C ∧ NoAttr K C f ∧ fs.length < 1000 ∧ Q σ (upd H2 a (.ins C dx (putF f v fs)))
theorem pg_fld {o : Expr} {to : TE} {f : Str} (ho : PE X o to)
    (ha : ∀ v, assign (.Attribute o f pos) X.env v = (do
      let ov ← holding [v] (eval o X.env)
      standAt pos.atName
      holding [v, ov] (setAttr ov f v)
      release [v, ov] []) := by intro _; rfl) : PG X (.Attribute o f pos) (gFld X.K to f) := by
  refine ⟨fun pins s σ H v u Q I r h => ?_⟩
  rw [ha]
  refine wpAny_bind (wpAny_holding (thn (ho.run pins s σ H _ I h) fun ov s1 ⟨x, H1, I1, r1, a, C, dx, fs, e, hp, c, n, l, q1⟩ => ?_))
  subst e
  cases r1
  refine wpAny_bind (wpAny_standAt (wpAny_bind (wpAny_holding (setattr_ok I1 hp c n l r fun s3 I3 => ?_))))
  exact wpAny_release ⟨σ, _, I3, q1⟩
end
/-! ### targets that may change what is owned -/
def WX (c : Cfg) (g : TG) (r : Tg) (τ : Lc) (N : Lc → Prop) : Prop := ∀ (σ : L2.St) (G H : Hp) (F : Nat → Addr → Prop) (v : V), Ok c τ σ G H F → Rs c σ c.H0 G H F r v → ∀ Q : L2.St → Hp → Prop, (∀ τ' σ' G' H' F', N τ' → Ok c τ' σ' G' H' F' → Same G G' → Q σ' H') → g v σ H Q
section
variable {c : Cfg} {τ : Lc} {Φ : Tg → Lc → Bool → Prop} {te ta tb : TE} {t : TA} {K : PySem.W.Frag} {D : AE} {i : Nat} {g g1 g2 g3 : TG} {N : Lc → Prop} {r : Tg}
theorem wx_of (h : WG c g r τ N) : WX c g r τ N := fun σ G H F v o s Q q => h σ G H F v o s Q fun τ' σ' G' H' F' n o' f _ => q τ' σ' G' H' F' n o' f.g
theorem ws_asgX (h : W c te τ fun r τ1 _ => WX c g r τ1 D.nx) : WS c (tAsg te g) τ D := fun σ G H F o De l =>
  h σ G H F o _ fun v G1 H1 F1 r τ1 b1 p1 g1 s1 => p1 σ G1 H1 F1 v g1.ok (Rs.from s1 o.fr.t) De.nx fun τ' σ' G' H' F' n o' s => l.nx τ' σ' G' H' F' n o' (g1.fr.g.trans s)
theorem wx_fldI {f : Str} {d : DD} {l : Bool} {C : Addr} {ns : List Str} {xs : List DD} (hi : τ[i]? = some (some (.res l (ownI C ns xs)))) (hc : Cls K C) (hn : NoAttr K C f) (hz : ns.length < 900) (k : N (τ.set i (some (.res l (ownI C (putN f ns) (putX f d ns xs)))))) :
    WX c (gFld K (tVar i) f) (.dat d) τ N := fun σ G H F v o s Q q => by
  obtain ⟨p, dx, vs, hu, h2, h5, h3, gm⟩ := o.mutI (ms := putN f ns) (ys := putX f d ns xs) hi
  obtain ⟨e1, e2⟩ := put_zip (f := f) (y := v) h5
  have g2 := gm (putV f v ns vs) e2 (putX_rep s h5 h3)
  refine ⟨_, hu, p, C, dx, _, rfl, h2, hc, hn, ?_, ?_⟩
  · rw [List.length_zip, ← h5, Nat.min_self]
    exact Nat.lt_trans hz (by decide)
  · rw [e1]
    exact q _ σ G _ F k g2.ok (Same.refl G)
theorem wx_tup2 {d e : DD} (h : WX c g1 (.dat d) τ fun τ1 => WX c g2 (.dat e) τ1 N) : WX c (gTup K 2 (gCons g1 (gCons g2 gNil))) (.dat (.tup [d, e])) τ N := fun σ G H F x o s Q q => by
  obtain ⟨a, vs, rfl, h2, y, r, rfl, h3, z, r2, rfl, h4, h5⟩ := s
  have e5 : r2 = [] := h5
  subst e5
  refine ⟨a, [y, z], rfl, .inl (rd_mono o.ex h2), rfl, y, [z], rfl, h σ G H F y o h3 _ fun τ1 σ1 G1 H1 F1 n1 o1 e1 => ?_⟩
  exact ⟨z, [], rfl, n1 σ1 G1 H1 F1 z o1 (Rep.mono e1 _ _ h4) _ fun τ2 σ2 G2 H2 F2 n2 o2 e2 => ⟨rfl, q τ2 σ2 G2 H2 F2 n2 o2 (e1.trans e2)⟩⟩
/-- *a, b = a list of data: a is one's own -/
theorem wx_star1 {ds : List DD} {d : DD} (hx : Dl τ r (.lst ds)) (hr : Pl r ∨ ∃ j, r = .ali j) (hd : ds.getLast? = some d) (hz : ds.length ≤ 100000) (h : WX c g1 (.res true (ownL ds.dropLast)) τ fun τ1 => WX c g2 (.dat d) τ1 N) :
    WX c (gStar K 2 0 (gCons g1 (gCons g2 gNil))) r τ N := fun σ G H F x o s Q q => by
  obtain ⟨p, vs, rfl, h2, h3⟩ := hx.lst o s
  have hl := h3.length
  have hne : ds ≠ [] := by
    intro e
    rw [e] at hd
    cases hd
  have hpos : 0 < ds.length := List.length_pos_iff.mpr hne
  have elast : ds[ds.length - 1]? = some d := by rw [← List.getLast?_eq_getElem?]; exact hd
  obtain ⟨v, h4, h5⟩ := h3.get elast
  have ed : vs.drop (vs.length + 1 - 2) = [v] := by
    rw [hl]
    have hlt : ds.length - 1 < vs.length := by omega
    have e1 : ds.length + 1 - 2 = ds.length - 1 := by omega
    rw [e1, List.drop_eq_getElem_cons hlt]
    have e2 : vs.drop (ds.length - 1 + 1) = [] := List.drop_eq_nil_of_le (by omega)
    rw [e2]
    rw [List.getElem?_eq_getElem hlt] at h4
    rw [Option.some.inj h4]
  refine ⟨p, vs, rfl, SqL.of h2, by omega, by omega, fun D hD => ?_⟩
  rw [List.take_zero, List.nil_append, List.drop_zero, ed]
  have et : vs.take (vs.length + 1 - 2) = vs.dropLast := by rw [List.dropLast_eq_take]; congr 1
  rw [et]
  have f := Fr.new (G := G) (o := .lst vs.dropLast) hD
  have o' := o.grow f (same_new o.ex hD) (o.tu.new fun z => z)
  have gD : G D = none := by
    cases z : G D with
    | none => rfl
    | some w => have := o.ex _ _ z; rw [hD] at this; cases this
  have h0D : c.H0 D = none := by
    cases z : c.H0 D with
    | none => rfl
    | some w => exact absurd hD (o.fr.t D (ne_none z))
  have s1 : Rs c σ c.H0 G (upd H D (.lst vs.dropLast)) F (.res true (ownL ds.dropLast)) (.ref D) := ⟨rfl, _, ⟨D, _, rfl, upd_same, h3.dropLast, rfl⟩, fun a ha => by
    subst ha
    exact ⟨h0D, (by rw [upd_same]; exact (fun z => by cases z)), gD, fun j z => (o.own j a z).1 hD⟩⟩
  refine ⟨.ref D, [v], rfl, h σ G _ F _ o' s1 _ fun τ1 σ1 G1 H1 F1 n1 o1 e1 => ?_⟩
  exact ⟨v, [], rfl, n1 σ1 G1 H1 F1 v o1 (Rep.mono e1 _ _ h5) _ fun τ2 σ2 G2 H2 F2 n2 o2 e2 => ⟨rfl, q τ2 σ2 G2 H2 F2 n2 o2 (e1.trans e2)⟩⟩
/-! ### texts joined -/
def tJoined (ts : List TE) : TE := fun σ H Q => tJs ts Str.empty σ H fun out H1 => Q (.str out) H1
/-- the parts of an f-string -/
def WJ (c : Cfg) (ts : List TE) (acc : Str) (τ : Lc) (Φ : Str → Lc → Bool → Prop) : Prop := ∀ (σ : L2.St) (G H : Hp) (F : Nat → Addr → Prop), Ok c τ σ G H F → ∀ Q : Str → Hp → Prop,
  (∀ v G' H' F' τ' b, Φ v τ' b → Go b c τ' σ G H F G' H' F' → Q v H') → tJs ts acc σ H Q
theorem wj_nil {acc : Str} {Φ : Str → Lc → Bool → Prop} (k : Φ acc τ true) : WJ c [] acc τ Φ := fun σ G H F o Q q => q acc G H F τ true k (Go.refl o)
theorem wj_cons {acc : Str} {Φ : Str → Lc → Bool → Prop} {ts : List TE} (h : W c te τ fun r τ1 b1 => ∃ y, r = .dat (.str y) ∧ (acc ++ y).length ≤ 100000 ∧ WJ c ts (acc ++ y) τ1 fun v τ2 b2 => Φ v τ2 (b1 && b2)) : WJ c (te :: ts) acc τ Φ := fun σ G H F o Q q =>
  h σ G H F o _ fun x G1 H1 F1 r τ1 b1 p1 g1 s1 => by
    obtain ⟨y, rfl, hz, k⟩ := p1
    exact ⟨y, s1, sz_le hz, k σ G1 H1 F1 g1.ok _ fun v G2 H2 F2 τ2 b2 p2 g2 => q v G2 H2 F2 τ2 _ p2 (g1.trans g2)⟩
theorem w_joined {ts : List TE} (h : WJ c ts Str.empty τ fun v τ1 b1 => Φ (.dat (.str v)) τ1 b1) : W c (tJoined ts) τ Φ := fun σ G H F o Q q =>
  h σ G H F o _ fun v G1 H1 F1 τ1 b1 p1 g1 => q _ G1 H1 F1 _ τ1 b1 p1 g1 rfl
theorem w_fmtI (h : W c te τ fun r τ1 b1 => ∃ (i : Int), r = .dat (.int i) ∧ i.natAbs.log2 < 1920 ∧ Φ (.dat (.str (toString i))) τ1 b1) : W c (tFmt te) τ Φ := fun σ G H F o Q q =>
  h σ G H F o _ fun x G1 H1 F1 r τ1 b1 p1 g1 s1 => by
    obtain ⟨i, rfl, hz, k⟩ := p1
    exact .inr ⟨i, s1, hz, q _ G1 H1 F1 _ τ1 b1 k g1 rfl⟩
theorem w_fmtS (h : W c te τ fun r τ1 b1 => ∃ y : Str, r = .dat (.str y) ∧ y.length ≤ 100000 ∧ Φ (.dat (.str y)) τ1 b1) : W c (tFmt te) τ Φ := fun σ G H F o Q q =>
  h σ G H F o _ fun x G1 H1 F1 r τ1 b1 p1 g1 s1 => by
    obtain ⟨i, rfl, hz, k⟩ := p1
    exact .inl ⟨i, s1, sz_le hz, q _ G1 H1 F1 _ τ1 b1 k g1 rfl⟩
/-- sep.join(list of texts) -/
theorem w_join (h : W c ta τ fun x τ1 b1 => ∃ a : Str, x = .dat (.str a) ∧ WA c t τ1 fun rs τ2 b2 => ∃ (r : Tg) (ys : List Str), rs = [r] ∧ Dl τ2 r (.lst (ys.map .str)) ∧ (ys.map (·.length)).sum + ys.length * a.length ≤ 1000000 ∧ Φ (.dat (.str (Txt.join a ys))) τ2 (b1 && b2)) :
    W c (tBM K "str" (rJoin K) ta t) τ Φ := fun σ G H F o Q q =>
  h σ G H F o _ fun x G1 H1 F1 rx τ1 b1 p1 g1 s1 => by
    obtain ⟨a, rfl, p2⟩ := p1
    have ex : x = V.str a := s1
    subst ex
    refine ⟨?_, p2 σ G1 H1 F1 g1.ok _ fun vs G2 H2 F2 rs τ2 b2 p3 g2 s2 => ?_⟩
    · exact rfl
    · obtain ⟨r, ys, rfl, hd, hz, k⟩ := p3
      cases s2 with
      | cons s2 sn =>
        cases sn
        obtain ⟨p, ws, rfl, h4, h5⟩ := hd.lst g2.ok s2
        refine ⟨a, p, ys, rfl, rfl, .inl (SqL.of ?_), by omega, q _ G2 H2 F2 _ τ2 _ k (g1.trans g2) rfl⟩
        rw [h4, h5.strs]
end
end Z
set_option Elab.async false
set_option linter.all false
set_option maxRecDepth 100000
set_option maxHeartbeats 2000000
/-! Z10: lists or tuples walked; comprehensions that change nothing; slots frozen, weakened; own classes; what is read off any seen thing. -/
namespace Z
open PySem PySem.Spec PyProof.Rows L2
/-! ### a list or a tuple is walked -/
def iSeq (K : PySem.W.Frag) (tl : TE) : TI := fun σ H R => tl σ H fun x H1 => ∃ a, x = .ref a ∧ (((∃ xs, SqL K H1 a xs) ∧ R (Itl K a) H1) ∨ ((∃ xs, SqT K H1 a xs) ∧ R (Itt K a) H1))
theorem pi_seq {X : Cx} {tg : Expr} {l : Expr} {tl : TE} (hl : PE X l tl) : PI X tg l (iSeq X.K tl) := by
  refine ⟨fun pins s σ H R I h => ?_⟩
  refine thn (hl.run pins s σ H _ I h) fun v s1 ⟨x, H1, I1, r1, q1⟩ => ?_
  obtain ⟨a, e, q⟩ := q1
  subst e
  cases r1
  have fin : ∀ b ∈ [s1.heap.objs.size], FpOk X pins H1 b := fun b hb => by
    have e : b = s1.heap.objs.size := by simpa using hb
    subst e
    exact I1.fpOk (Nat.le_refl _) (I1.hok.fresh (Nat.le_refl _))
  rcases q with ⟨⟨xs, hq⟩, q⟩ | ⟨⟨xs, hq⟩, q⟩
  · obtain ⟨its, rv, p, hz⟩ := I1.list hq
    refine wpAny_pyIter_list p.isList ?_
    exact ⟨s1.heap.objs.size, [s1.heap.objs.size], _, _, H1, rfl, I1.kept (t' := s1.toks) fun b o e => Heap.get?_push_of_some _ e, turn_list a _, ⟨_, Heap.get?_push_size _ rfl, rfl, rfl⟩, fin, q⟩
  · obtain ⟨its, rv, p, hz⟩ := I1.tuple hq
    refine wpAny_pyIter_tuple (show s1.heap.IsTuple a its.toArray from p) ?_
    exact ⟨s1.heap.objs.size, [s1.heap.objs.size], _, _, H1, rfl, I1.kept (t' := s1.toks) fun b o e => Heap.get?_push_of_some _ e, turn_tuple a _, ⟨_, Heap.get?_push_size _ rfl, rfl, rfl⟩, fin, q⟩
section
variable {c : Cfg} {τ : Lc} {Φ : Tg → Lc → Bool → Prop} {te ta tb : TE} {t : TA} {K : PySem.W.Frag} {D : AE} {i : Nat} {g g1 g2 g3 : TG} {N : Lc → Prop} {r : Tg} {ΦI : List Itm → Lc → Bool → Prop} {ts : TS}
/-! ### what a list holds, by its items -/
theorem wk_listD {a : Addr} {vs : List V} {ds : List DD} {G1 : Hp} (h2 : G1 a = some (.lst vs)) (h3 : RepL G1 ds vs) : Wk c (Itl K a) (itsD ds) G1 := ⟨fun i G H hi e1 e2 _ => by
    rw [itsD_len] at hi
    exact ⟨vs, vs[i]'(by rw [h3.length]; exact hi), SqL.of (e2 _ _ (e1 _ _ h2)), by simp⟩, fun G H e1 e2 _ => ⟨vs, SqL.of (e2 _ _ (e1 _ _ h2)), by rw [itsD_len, h3.length]; exact Nat.le_refl _⟩, fun i t G H y H' ht e1 e2 _ yy => by
    obtain ⟨d, hd, rfl⟩ := itsD_get ht
    obtain ⟨w, h4, h5⟩ := h3.get hd
    have e := yy.2 vs (SqL.of (e2 _ _ (e1 _ _ h2)))
    rw [h4] at e
    cases e
    exact ⟨yy.1, Rep.mono e1 _ _ h5⟩⟩
theorem wk_tupD {a : Addr} {vs : List V} {ds : List DD} {G1 : Hp} (h2 : Rd G1 a (.tup vs)) (h3 : RepL G1 ds vs) : Wk c (Itt K a) (itsD ds) G1 := ⟨fun i G H hi e1 e2 _ => by
    rw [itsD_len] at hi
    exact ⟨vs, vs[i]'(by rw [h3.length]; exact hi), .inl (rd_mono (e1.trans e2) h2), by simp⟩, fun G H e1 e2 _ => ⟨vs, .inl (rd_mono (e1.trans e2) h2), by rw [itsD_len, h3.length]; exact Nat.le_refl _⟩, fun i t G H y H' ht e1 e2 _ yy => by
    obtain ⟨d, hd, rfl⟩ := itsD_get ht
    obtain ⟨w, h4, h5⟩ := h3.get hd
    have e := yy.2 vs (.inl (rd_mono (e1.trans e2) h2))
    rw [h4] at e
    cases e
    exact ⟨yy.1, Rep.mono e1 _ _ h5⟩⟩
theorem wk_listV {a : Addr} {vs : List V} {ds : List DD} {G1 Gv : Hp} (hv : ∀ a o, Gv a = some o → c.H0 a = some o ∧ ¬ c.X a) (h2 : Gv a = some (.lst vs)) (h3 : RepL Gv ds vs) : Wk c (Itl K a) (itsV ds) G1 := by
  have at_ : ∀ {G H : Hp}, Fr c.X c.G0 c.H0 G H → H a = some (.lst vs) := fun f => f.h a _ (hv a _ h2).1 (hv a _ h2).2
  refine ⟨fun i G H hi e1 e2 f => ?_, fun G H e1 e2 f => ?_, fun i t G H y H' ht e1 e2 f yy => ?_⟩
  · rw [itsV_len] at hi
    exact ⟨vs, vs[i]'(by rw [h3.length]; exact hi), SqL.of (at_ f), by simp⟩
  · exact ⟨vs, SqL.of (at_ f), by rw [itsV_len, h3.length]; exact Nat.le_refl _⟩
  · obtain ⟨d, hd, rfl⟩ := itsV_get ht
    obtain ⟨w, h4, h5⟩ := h3.get hd
    have e := yy.2 vs (SqL.of (at_ f))
    rw [h4] at e
    cases e
    exact ⟨yy.1, Gv, hv, h5⟩
theorem wk_tupV {a : Addr} {vs : List V} {ds : List DD} {G1 Gv : Hp} (hv : ∀ a o, Gv a = some o → c.H0 a = some o ∧ ¬ c.X a) (h2 : Rd Gv a (.tup vs)) (h3 : RepL Gv ds vs) : Wk c (Itt K a) (itsV ds) G1 := by
  have at_ : ∀ {G H : Hp}, Fr c.X c.G0 c.H0 G H → Rd H a (.tup vs) := fun f => rd_mono (fun b o z => f.h b o (hv b o z).1 (hv b o z).2) h2
  refine ⟨fun i G H hi e1 e2 f => ?_, fun G H e1 e2 f => ?_, fun i t G H y H' ht e1 e2 f yy => ?_⟩
  · rw [itsV_len] at hi
    exact ⟨vs, vs[i]'(by rw [h3.length]; exact hi), .inl (at_ f), by simp⟩
  · exact ⟨vs, .inl (at_ f), by rw [itsV_len, h3.length]; exact Nat.le_refl _⟩
  · obtain ⟨d, hd, rfl⟩ := itsV_get ht
    obtain ⟨w, h4, h5⟩ := h3.get hd
    have e := yy.2 vs (.inl (at_ f))
    rw [h4] at e
    cases e
    exact ⟨yy.1, Gv, hv, h5⟩
theorem wi_seq (h : W c ta τ fun r τ1 b1 => ∃ ds, ((r = .dat (.lst ds) ∨ r = .dat (.tup ds) ∨ r = .dat (.tpl ds)) ∧ ΦI (itsD ds) τ1 b1) ∨ ((r = .vol (.lst ds) ∨ r = .vol (.tup ds) ∨ r = .vol (.tpl ds)) ∧ ΦI (itsV ds) τ1 b1)) : WI c (iSeq K ta) τ ΦI := fun σ G H F o R q =>
  h σ G H F o _ fun x G1 H1 F1 rx τ1 b1 p1 g1 s1 => by
    have up : ∀ {Gv : Hp}, (∀ a o, Gv a = some o → c.H0 a = some o ∧ ¬ c.X a) → Same Gv H1 := fun hv b o z => g1.ok.fr.h b o (hv b o z).1 (hv b o z).2
    obtain ⟨ds, ⟨rfl | rfl | rfl, k⟩ | ⟨rfl | rfl | rfl, k⟩⟩ := p1
    · obtain ⟨a, vs, rfl, h2, h3⟩ := s1
      exact ⟨a, rfl, .inl ⟨⟨vs, SqL.of (g1.ok.ex _ _ h2)⟩, q _ _ G1 H1 F1 τ1 b1 k g1 (wk_listD h2 h3)⟩⟩
    · obtain ⟨a, vs, rfl, h2, h3⟩ := s1
      exact ⟨a, rfl, .inr ⟨⟨vs, .inl (rd_mono g1.ok.ex h2)⟩, q _ _ G1 H1 F1 τ1 b1 k g1 (wk_tupD h2 h3)⟩⟩
    · obtain ⟨a, vs, rfl, h2, h3⟩ := tpl_tup s1
      exact ⟨a, rfl, .inr ⟨⟨vs, .inl (rd_mono g1.ok.ex h2)⟩, q _ _ G1 H1 F1 τ1 b1 k g1 (wk_tupD h2 h3)⟩⟩
    · obtain ⟨Gv, hv, a, vs, rfl, h2, h3⟩ := s1
      exact ⟨a, rfl, .inl ⟨⟨vs, SqL.of (up hv _ _ h2)⟩, q _ _ G1 H1 F1 τ1 b1 k g1 (wk_listV hv h2 h3)⟩⟩
    · obtain ⟨Gv, hv, a, vs, rfl, h2, h3⟩ := s1
      exact ⟨a, rfl, .inr ⟨⟨vs, .inl (rd_mono (up hv) h2)⟩, q _ _ G1 H1 F1 τ1 b1 k g1 (wk_tupV hv h2 h3)⟩⟩
    · obtain ⟨Gv, hv, z⟩ := s1
      obtain ⟨a, vs, rfl, h2, h3⟩ := tpl_tup z
      exact ⟨a, rfl, .inr ⟨⟨vs, .inl (rd_mono (up hv) h2)⟩, q _ _ G1 H1 F1 τ1 b1 k g1 (wk_tupV hv h2 h3)⟩⟩
/-- a seen number is a number -/
theorem wgi_volS {d : DD} (hs : scal d = true) (h : WG c g (.dat d) τ N) : WGI c g (.one (.vol d)) τ N := fun σ G H F x H' o y Q q => by
  obtain ⟨rfl, Gv, hv, s⟩ := y
  exact h σ G H' F x o (show Rep G d x from scal_any hs s) Q fun τ' σ' G' H2 F' n o' f p => q τ' σ' G' H2 F' n o' f (p .dat)
/-! ### slots frozen, weakened -/
/-- the state with one slot's own list frozen -/
theorem Ok.frz {σ : L2.St} {G H : Hp} {F : Nat → Addr → Prop} {ds : List DD} (o : Ok c τ σ G H F) (hi : τ[i]? = some (some (.res true (ownL ds)))) :
    ∃ G' F', Go false c (τ.set i (some (.dat (.lst ds)))) σ G H F G' H F' := by
  obtain ⟨u, hu, p, vs, rfl, h2, h3, h4⟩ := o.rs i _ _ hi
  have fp : F i p := by rw [h4]
  obtain ⟨m1, m3, l', R', m4, m5⟩ := o.own i p fp
  rw [hi] at m4
  cases m4
  have h0 : c.H0 p = none := m5.elim id fun z => by cases z.1
  have hil : i < τ.length := (List.getElem?_eq_some_iff.mp hi).1
  have gt : ∀ j : Nat, j ≠ i → (τ.set i (some (.dat (.lst ds))))[j]? = τ[j]? := fun j h => List.getElem?_set_ne (fun z => h z.symm)
  have gti : (τ.set i (some (.dat (.lst ds))))[i]? = some (some (.dat (.lst ds))) := List.getElem?_set_self hil
  have eg : Same G (upd G p (.lst vs)) := fun a u z => by
    rw [upd_ne (ne_of_none z m3)]
    exact z
  have nn : ∀ a, G a = none → a ≠ p → upd G p (.lst vs) a = none := fun a z e => by
    rw [upd_ne e]
    exact z
  refine ⟨upd G p (.lst vs), fun j a => F j a ∧ j ≠ i, ?_, ⟨eg, fun a u z _ => z, fun a z w nx => nn a z fun e => nx (by subst e; exact ⟨rfl, i, fp⟩), fun a z => z⟩, fun j a z => .inl z.1⟩
  exact {
    ex := fun a u z => by
      by_cases e : a = p
      · subst e
        rw [upd_same] at z
        rw [← z]
        exact h2
      · rw [upd_ne e] at z
        exact o.ex a u z
    tu := fun a u t z => eg a _ (o.tu a u t z)
    fr := ⟨o.fr.g.trans eg, o.fr.h, fun a z w nx => nn a (o.fr.n a z w nx) (fun e => by subst e; exact w h0), o.fr.t⟩
    len := by rw [List.length_set]; exact o.len
    sl := fun j t h => by
      by_cases e : j = i
      · subst e
        rw [gti] at h
        cases h
        exact ⟨_, hu, p, vs, rfl, upd_same, h3.mono eg _ _⟩
      · rw [gt j e] at h
        obtain ⟨v, z1, z2⟩ := o.sl j t h
        refine ⟨v, z1, ?_⟩
        cases t with
        | dat d => exact Rep.mono eg d v z2
        | vol d => exact z2
        | tmp d => exact z2
        | res l R => exact z2
        | ali i => exact z2
    rs := fun j l R h => by
      by_cases e : j = i
      · subst e
        rw [gti] at h
        cases h
      · rw [gt j e] at h
        obtain ⟨v, z1, z2⟩ := o.rs j l R h
        refine ⟨v, z1, ?_⟩
        have ef : (fun a => F j a ∧ j ≠ i) = F j := by
          funext a
          exact propext ⟨fun z => z.1, fun z => ⟨z, e⟩⟩
        rw [ef]
        exact R.mono v _ _ _ _ _ z2 eg fun _ _ => rfl
    own := fun j a z => by
      obtain ⟨y1, y2, l, R, y3, y4⟩ := o.own j a z.1
      exact ⟨y1, nn a y2 (fun e => by subst e; exact o.dj j i a z.2 z.1 fp), l, R, by rw [gt j z.2]; exact y3, y4⟩
    dj := fun j k a hjk z1 z2 => o.dj j k a hjk z1.1 z2.1
    pn := fun q hq => by
      obtain ⟨k1, R, k2⟩ := o.pn q hq
      have e : q.1 ≠ i := fun e => by rw [e, hi] at k2; cases k2
      exact ⟨k1, R, by rw [gt _ e]; exact k2⟩ }
theorem ws_frz (i : Nat) {ds : List DD} (hi : τ[i]? = some (some (.res true (ownL ds)))) (h : WS c ts (τ.set i (some (.dat (.lst ds)))) D) : WS c ts τ D := fun σ G H F o De l => by
  obtain ⟨G', F', g⟩ := o.frz hi
  exact h σ G' H F' g.ok De (l.from g.fr.g)
theorem w_frzS (i : Nat) {ds : List DD} (hi : τ[i]? = some (some (.res true (ownL ds)))) (h : W c te (τ.set i (some (.dat (.lst ds)))) fun r τ' _ => Φ r τ' false) : W c te τ Φ := fun σ G H F o Q q => by
  obtain ⟨G', F', g⟩ := o.frz hi
  refine h σ G' H F' g.ok Q fun v G2 H2 F2 r τ' b k g2 s => ?_
  have gg := g.trans g2
  rw [Bool.false_and] at gg
  exact q v G2 H2 F2 r τ' false k gg s
/-- a slot's resource as another description of the same thing -/
theorem Ok.chg {σ : L2.St} {G H : Hp} {F : Nat → Addr → Prop} {l : Bool} {R R' : Rsc} (o : Ok c τ σ G H F) (hi : τ[i]? = some (some (.res l R))) (hR : ∀ v G H A, R.φ v G H A → R'.φ v G H A) : Ok c (τ.set i (some (.res l R'))) σ G H F := by
  have hil : i < τ.length := (List.getElem?_eq_some_iff.mp hi).1
  have gt : ∀ j : Nat, j ≠ i → (τ.set i (some (.res l R')))[j]? = τ[j]? := fun j h => List.getElem?_set_ne (fun z => h z.symm)
  have gti : (τ.set i (some (.res l R')))[i]? = some (some (.res l R')) := List.getElem?_set_self hil
  exact {
    ex := o.ex
    tu := o.tu
    fr := o.fr
    len := by rw [List.length_set]; exact o.len
    sl := fun j t h => by
      by_cases e : j = i
      · subst e
        rw [gti] at h
        cases h
        obtain ⟨v, z1, _⟩ := o.sl j _ hi
        exact ⟨v, z1, True.intro⟩
      · rw [gt j e] at h
        exact o.sl j t h
    rs := fun j l2 R2 h => by
      by_cases e : j = i
      · subst e
        rw [gti] at h
        cases h
        obtain ⟨v, z1, z2⟩ := o.rs j _ _ hi
        exact ⟨v, z1, hR _ _ _ _ z2⟩
      · rw [gt j e] at h
        exact o.rs j l2 R2 h
    own := fun j a z => by
      obtain ⟨y1, y2, l2, R2, y3, y4⟩ := o.own j a z
      refine ⟨y1, y2, ?_⟩
      by_cases e : j = i
      · subst e
        rw [hi] at y3
        cases y3
        exact ⟨l, _, gti, y4⟩
      · exact ⟨l2, R2, by rw [gt j e]; exact y3, y4⟩
    dj := o.dj
    pn := fun q hq => by
      obtain ⟨k1, R2, k2⟩ := o.pn q hq
      by_cases e : q.1 = i
      · rw [e, hi] at k2
        cases k2
        exact ⟨k1, R', by rw [e]; exact gti⟩
      · exact ⟨k1, R2, by rw [gt _ e]; exact k2⟩ }
theorem ws_chg (i : Nat) {l : Bool} {R R' : Rsc} (hi : τ[i]? = some (some (.res l R))) (hR : ∀ v G H A, R.φ v G H A → R'.φ v G H A) (h : WS c ts (τ.set i (some (.res l R'))) D) : WS c ts τ D := fun σ G H F o De lk => h σ G H F (o.chg hi hR) De lk
/-- one of several -/
def exR {α : Type} (R : α → Rsc) : Rsc where
  φ := fun v G H A => ∃ x, (R x).φ v G H A
  mono := fun v G H A G' H' h e k => by
    obtain ⟨x, h⟩ := h
    exact ⟨x, (R x).mono v G H A G' H' h e k⟩
theorem ws_open {α : Type} {R : α → Rsc} (i : Nat) {l : Bool} (hi : τ[i]? = some (some (.res l (exR R)))) (h : ∀ x, WS c ts (τ.set i (some (.res l (R x)))) D) : WS c ts τ D := fun σ G H F o De lk => by
  obtain ⟨v, hv, x, hx⟩ := o.rs i _ _ hi
  have hil : i < τ.length := (List.getElem?_eq_some_iff.mp hi).1
  have gt : ∀ j : Nat, j ≠ i → (τ.set i (some (.res l (R x))))[j]? = τ[j]? := fun j h => List.getElem?_set_ne (fun z => h z.symm)
  have gti : (τ.set i (some (.res l (R x))))[i]? = some (some (.res l (R x))) := List.getElem?_set_self hil
  refine h x σ G H F ?_ De lk
  exact {
    ex := o.ex
    tu := o.tu
    fr := o.fr
    len := by rw [List.length_set]; exact o.len
    sl := fun j t h => by
      by_cases e : j = i
      · subst e
        rw [gti] at h
        cases h
        exact ⟨v, hv, True.intro⟩
      · rw [gt j e] at h
        exact o.sl j t h
    rs := fun j l2 R2 h => by
      by_cases e : j = i
      · subst e
        rw [gti] at h
        cases h
        exact ⟨v, hv, hx⟩
      · rw [gt j e] at h
        exact o.rs j l2 R2 h
    own := fun j a z => by
      obtain ⟨y1, y2, l2, R2, y3, y4⟩ := o.own j a z
      refine ⟨y1, y2, ?_⟩
      by_cases e : j = i
      · subst e
        rw [hi] at y3
        cases y3
        exact ⟨l, _, gti, y4⟩
      · exact ⟨l2, R2, by rw [gt j e]; exact y3, y4⟩
    dj := o.dj
    pn := fun q hq => by
      obtain ⟨k1, R2, k2⟩ := o.pn q hq
      by_cases e : q.1 = i
      · rw [e, hi] at k2
        cases k2
        exact ⟨k1, R x, by rw [e]; exact gti⟩
      · exact ⟨k1, R2, by rw [gt _ e]; exact k2⟩ }
theorem ws_close {α : Type} {R : α → Rsc} (i : Nat) {l : Bool} {x : α} (hi : τ[i]? = some (some (.res l (R x)))) (h : WS c ts (τ.set i (some (.res l (exR R)))) D) : WS c ts τ D := ws_chg (R := R x) (R' := exR R) i hi (fun v G H A z => ⟨x, z⟩) h
/-- statements behind another state's -/
theorem ws_nextC {α : Type} {R : α → Rsc} (i : Nat) {l : Bool} {x : α} (hi : τ[i]? = some (some (.res l (R x)))) (h : D.nx (τ.set i (some (.res l (exR R))))) : WS c tNext τ D := ws_close i hi (ws_next h)
/-! ### comprehensions that leave the slots as they are -/
theorem unwipe_same {τ : Lc} : ∀ {vs : List Nat}, unwipe τ (wipeT τ vs) vs = τ := by
  intro vs
  apply List.ext_getElem?
  intro i
  by_cases m : i ∈ vs
  · by_cases hl : i < τ.length
    · rw [unwipe_in (by rw [wipeT_length]; exact hl) m, List.getElem?_eq_getElem hl]
      rfl
    · rw [List.getElem?_eq_none (by rw [unwipe_length, wipeT_length]; omega), List.getElem?_eq_none (by omega)]
  · rw [unwipe_out m, wipeT_get m]
theorem wipeT_not {τ : Lc} {vs : List Nat} : ∀ i ∈ vs, ∀ t, (wipeT τ vs)[i]? ≠ some (some t) := fun i m t h => (wipeT_some h).2 m
/-- [f x for x in .. if keep x]: f and keep by the turn -/
theorem w_lcF {wi : TI} {tt : TT} {vs : List Nat} (keep : List Itm → Nat → Bool) (f : List Itm → Nat → DD) (hg : GW g vs) (h : WI c wi τ fun its τ1 b1 => still τ1 vs ∧ its.length ≤ 100000 ∧
    (∀ k it, its[k]? = some it → WGI c g it (wipeT τ1 vs) fun τ3 => WT c tt τ3 fun kp τ4 _ => kp = keep its k ∧ if kp = true then W c te τ4 fun r τ5 _ => r = .dat (f its k) ∧ wipeT τ5 vs = wipeT τ1 vs ∧ (∀ i ∈ vs, free τ5 i) else wipeT τ4 vs = wipeT τ1 vs ∧ ∀ i ∈ vs, free τ4 i) ∧
    Φ (.res true (ownL (((List.range its.length).filter (keep its)).map (f its)))) τ1 false) : W c (tLc wi g tt te vs) τ Φ := by
  refine w_lcM hg fun σ G H F o R q => h σ G H F o R fun J its G' H' F' τ' b p go wk => q J its G' H' F' τ' b ?_ go wk
  obtain ⟨h1, h2, h3, h4⟩ := p
  refine ⟨h1, fun k acc τ2 => τ2 = wipeT τ' vs ∧ acc = ((List.range k).filter (keep its)).map (f its), ⟨rfl, rfl⟩, fun k it acc τ2 hit _ ⟨e1, e2⟩ => ?_, h2, fun acc τ2 _ ⟨e1, e2⟩ => ?_⟩
  · subst e1 e2
    have h5 := h3 k it hit
    intro σ G H F x H' o y Q q2
    refine h5 σ G H F x H' o y Q fun τ3 σ3 G3 H3 F3 n3 o3 f3 k3 => q2 τ3 σ3 G3 H3 F3 (WT.imp n3 fun kp τ4 b4 z => ?_) o3 f3 k3
    obtain ⟨e, z⟩ := z
    have er : (List.range (k + 1)).filter (keep its) = (List.range k).filter (keep its) ++ if keep its k = true then [k] else [] := by
      rw [List.range_succ, List.filter_append]
      congr 1
      by_cases w : keep its k = true
      · rw [if_pos w, List.filter_cons_of_pos w, List.filter_nil]
      · rw [if_neg w, List.filter_cons_of_neg w, List.filter_nil]
    by_cases w : kp = true
    · rw [if_pos w] at z ⊢
      refine W.imp z fun r τ5 b5 z5 => ⟨z5.2.2, _, z5.1, z5.2.1, ?_⟩
      rw [er, if_pos (by rw [← e]; exact w), List.map_append]
      rfl
    · rw [if_neg w] at z ⊢
      refine ⟨z.2, z.1, ?_⟩
      rw [er, if_neg (by rw [← e]; exact w), List.append_nil]
  · subst e1 e2
    exact ⟨wipeT_not, by rw [unwipe_same]; exact h4⟩
/-! ### stores by what is stored -/
theorem wg_dat {d : DD} (hf : free τ i) (hi : i < τ.length) (h : N (τ.set i (some (.dat d)))) : WG c (gName i) (.dat d) τ N := wg_name .dat hf hi h
theorem wg_vol {d : DD} (hf : free τ i) (hi : i < τ.length) (h : N (τ.set i (some (.vol d)))) : WG c (gName i) (.vol d) τ N := wg_name .vol hf hi h
theorem wg_res {R : Rsc} (hf : free τ i) (hi : i < τ.length) (h : N (τ.set i (some (.res true R)))) : WG c (gName i) (.res true R) τ N := wg_name .res hf hi h
/-- a state between two pieces -/
theorem ws_cut (I : Lc → Prop) {tu : TS} (h : WS c ts τ { D with nx := I }) (k : ∀ τ', I τ' → WS c tu τ' D) : WS c (tSeq ts tu) τ D := ws_seq (WS.imp h (fun τ' h => k τ' h) (fun _ _ h => h) (fun _ h => h) fun _ h => h)
/-- what the arguments of a call are, given -/
theorem wa_args {ΦA : List Tg → Lc → Bool → Prop} (h : WA c t τ ΦA) : WA c t τ ΦA := h
theorem w_close {α : Type} {R : α → Rsc} (h : W c te τ fun x τ1 b1 => ∃ y, x = .res true (R y) ∧ Φ (.res true (exR R)) τ1 b1) : W c te τ Φ := fun σ G H F o Q q =>
  h σ G H F o _ fun x G1 H1 F1 rx τ1 b1 p1 g1 s1 => by
    obtain ⟨y, rfl, k⟩ := p1
    obtain ⟨e, A, h2, h3⟩ := s1
    exact q x G1 H1 F1 _ τ1 b1 k g1 ⟨rfl, A, ⟨y, h2⟩, h3⟩
def cutG {α : Type} (xs : List α) (lo hi : Option Int) : List α := (xs.drop (HT.sIx xs.length 0 lo)).take (HT.sIx xs.length xs.length hi - HT.sIx xs.length 0 lo)
theorem cutD_map {α : Type} {f : α → DD} {xs : List α} {lo hi : Option Int} : cutD (xs.map f) lo hi = (cutG xs lo hi).map f := by
  unfold cutD cutG
  rw [List.length_map, List.map_take, List.map_drop]
/-! ### operators by kind -/
theorem w_opI0 {f : Int → Int → V} (h : W c ta τ fun x τ1 b1 => W c tb τ1 fun y τ2 b2 => stb x b2 = true ∧ ∃ d e f', Dv τ2 x d ∧ Dv τ2 y e ∧ Op2 (rI0 f) d e f' ∧ Φ (.dat f') τ2 (b1 && b2)) : W c (tOp (rI0 f) ta tb) τ Φ := w_op h
theorem w_opI {C : Int → Int → Prop} {f : Int → Int → V} (h : W c ta τ fun x τ1 b1 => W c tb τ1 fun y τ2 b2 => stb x b2 = true ∧ ∃ d e f', Dv τ2 x d ∧ Dv τ2 y e ∧ Op2 (rI C f) d e f' ∧ Φ (.dat f') τ2 (b1 && b2)) : W c (tOp (rI C f) ta tb) τ Φ := w_op h
theorem w_eqD (h : W c ta τ fun x τ1 b1 => W c tb τ1 fun y τ2 b2 => stb x b2 = true ∧ ∃ d e, Dv τ2 x d ∧ Dv τ2 y e ∧ Nice 60 d ∧ Nice 60 e ∧ Φ (.dat (.bl (deqv d e))) τ2 (b1 && b2)) : W c (tOp (rEqD K) ta tb) τ Φ := w_op (W.imp h fun x τ1 b1 p => W.imp p fun y τ2 b2 q => by
  obtain ⟨h0, d, e, h1, h2, h3, h4, h5⟩ := q
  exact ⟨h0, d, e, _, h1, h2, o2_eq h3 h4 (by decide) (by decide), h5⟩)
theorem w_neD (h : W c ta τ fun x τ1 b1 => W c tb τ1 fun y τ2 b2 => stb x b2 = true ∧ ∃ d e, Dv τ2 x d ∧ Dv τ2 y e ∧ Nice 60 d ∧ Nice 60 e ∧ Φ (.dat (.bl (!deqv d e))) τ2 (b1 && b2)) : W c (tOp (rNeD K) ta tb) τ Φ := w_op (W.imp h fun x τ1 b1 p => W.imp p fun y τ2 b2 q => by
  obtain ⟨h0, d, e, h1, h2, h3, h4, h5⟩ := q
  exact ⟨h0, d, e, _, h1, h2, o2_ne h3 h4 (by decide) (by decide), h5⟩)
/-- of numbers -/
theorem w_eqI (h : W c ta τ fun x τ1 b1 => W c tb τ1 fun y τ2 b2 => stb x b2 = true ∧ ∃ a b : Int, Dv τ2 x (.int a) ∧ Dv τ2 y (.int b) ∧ Φ (.dat (.bl (decide (a = b)))) τ2 (b1 && b2)) : W c (tOp (rEqD K) ta tb) τ Φ := w_eqD (W.imp h fun x τ1 b1 p => W.imp p fun y τ2 b2 q => by
  obtain ⟨h0, a, b, h1, h2, h5⟩ := q
  refine ⟨h0, _, _, h1, h2, nice_int, nice_int, ?_⟩
  rw [deqv_int]
  exact h5)
theorem w_neI (h : W c ta τ fun x τ1 b1 => W c tb τ1 fun y τ2 b2 => stb x b2 = true ∧ ∃ a b : Int, Dv τ2 x (.int a) ∧ Dv τ2 y (.int b) ∧ Φ (.dat (.bl (!decide (a = b)))) τ2 (b1 && b2)) : W c (tOp (rNeD K) ta tb) τ Φ := w_neD (W.imp h fun x τ1 b1 p => W.imp p fun y τ2 b2 q => by
  obtain ⟨h0, a, b, h1, h2, h5⟩ := q
  refine ⟨h0, _, _, h1, h2, nice_int, nice_int, ?_⟩
  rw [deqv_int]
  exact h5)
theorem w_inD (h : W c ta τ fun x τ1 b1 => W c tb τ1 fun y τ2 b2 => stb x b2 = true ∧ ∃ d es, Dv τ2 x d ∧ Dv τ2 y (.lst es) ∧ Nice 60 d ∧ Nice 60 (.lst es) ∧ Φ (.dat (.bl (es.any fun z => deqv z d))) τ2 (b1 && b2)) : W c (tOp (rInD K) ta tb) τ Φ := w_op (W.imp h fun x τ1 b1 p => W.imp p fun y τ2 b2 q => by
  obtain ⟨h0, d, e, h1, h2, h3, h4, h5⟩ := q
  exact ⟨h0, d, _, _, h1, h2, o2_inD h3 h4 (by decide) (by decide), h5⟩)
theorem o2_notInD {d : DD} {es : List DD} {n m : Nat} (h1 : Nice n d) (h2 : Nice m (.lst es)) (hn : n ≤ 64) (hm : m ≤ 64) : Op2 (rNotInD K) d (.lst es) (.bl (!es.any fun z => deqv z d)) := fun G H x y ex t hx hy Q q => by
  have e : ∀ es : List DD, (pyL es).any (fun z => PyData.eqv z (py d)) = es.any fun z => deqv z d := fun es => by
    induction es with
    | nil => rfl
    | cons a r ih =>
      show (PyData.eqv (py a) (py d) || (pyL r).any fun z => PyData.eqv z (py d)) = (deqv a d || r.any fun z => deqv z d)
      rw [ih]
      rfl
  refine ⟨py d, pyL es, Nice.dp n d x h1 hx, Nice.dp m _ y h2 hy, h1.shaped hn, h2.shaped hm, ?_⟩
  rw [e es]
  exact q _ G H Fr.refl ex t rfl
theorem w_notInD (h : W c ta τ fun x τ1 b1 => W c tb τ1 fun y τ2 b2 => stb x b2 = true ∧ ∃ d es, Dv τ2 x d ∧ Dv τ2 y (.lst es) ∧ Nice 60 d ∧ Nice 60 (.lst es) ∧ Φ (.dat (.bl (!es.any fun z => deqv z d))) τ2 (b1 && b2)) : W c (tOp (rNotInD K) ta tb) τ Φ := w_op (W.imp h fun x τ1 b1 p => W.imp p fun y τ2 b2 q => by
  obtain ⟨h0, d, e, h1, h2, h3, h4, h5⟩ := q
  exact ⟨h0, d, _, _, h1, h2, o2_notInD h3 h4 (by decide) (by decide), h5⟩)
/-! ### own classes -/
/-- what isinstance asks of a class of the program -/
structure KCls (K : PySem.W.Frag) (C : Addr) : Prop where
  c : Cls K C
  ic : PySem.W.findIn K (.ref C) "__class__" = some (some (.builtin "object.__class__"))
  is : PySem.W.specialIn K (.builtin "object.__class__") "__get__" = some (some (.builtin "getset_descriptor.__get__"))
  it : PySem.W.takesIn K (.builtin "object.__class__") = some true
  mo : PySem.W.mroIn K C (.type "object") = some true
  tup : PySem.W.kitOne K (.type "tuple") (.ref C) = some false
  sub : PySem.W.subIn K (.type "tuple") (.ref C) = some false
theorem tyx_obj {H : Hp} {C : Addr} {ns : List Str} {xs : List DD} {v : V} (kc : KCls K C) (h : Rep H (.obj C ns xs) v) : TyX K H v (.ref C) := by
  obtain ⟨a, dx, vs, rfl, h2, _⟩ := h
  exact .base (.ins h2 kc.c kc.ic kc.is kc.it kc.mo)
theorem kitOne_self {C : Addr} : PySem.W.kitOne K (.ref C) (.ref C) = some true := by
  unfold PySem.W.kitOne
  rw [if_pos (by simp)]
/-- isinstance(x, C) -/
theorem w_isiO {C : Addr} (kc : KCls K C) (h : W c ta τ fun x τ1 b1 => (∃ ns xs, x = .dat (.obj C ns xs) ∧ Φ (.dat (.bl true)) τ1 b1) ∨ ∃ xs, x = .dat (.tup xs) ∧ Φ (.dat (.bl false)) τ1 b1) :
    W c (tCB (rIsi K) (tCons ta (tCons (tC (.ref C)) tNil))) τ Φ := fun σ G H F o Q q =>
  h σ G H F o _ fun x G1 H1 F1 r τ1 b1 p1 g1 s1 => by
    rcases p1 with ⟨ns, xs, rfl, k⟩ | ⟨xs, rfl, k⟩
    · exact ⟨x, .ref C, .ref C, .ref C, true, rfl, .own C, tyx_obj kc (Rep.mono g1.ok.ex _ _ s1), kitOne_self, q _ G1 H1 F1 _ τ1 b1 k g1 rfl⟩
    · exact ⟨x, .ref C, .type "tuple", .ref C, false, rfl, .own C, tyx_of (d := .tup xs) rfl (Rep.mono g1.ok.ex _ _ s1), kc.tup, q _ G1 H1 F1 _ τ1 b1 k g1 rfl⟩
/-! ### weaker descriptions -/
theorem w_tupN' (h : W c ta τ fun x τ1 b1 => ∃ ds, (Dl τ1 x (.lst ds) ∨ (Dv τ1 x (.lst ds) ∧ hardL ds = true)) ∧ Φ (.dat (.tup ds)) τ1 b1) : W c (tCB (rTupN K) (tCons ta tNil)) τ Φ :=
  w_tpl (w_tupN (W.imp h fun x τ1 b1 p => by
    obtain ⟨ds, h1, h2⟩ := p
    exact ⟨ds, h1, ds, rfl, h2⟩))
/-- data as data of another description -/
theorem w_as {d e : DD} (he : ∀ G v, Rep G d v → Rep G e v) (h : W c te τ fun x τ1 b1 => x = .dat d ∧ Φ (.dat e) τ1 b1) : W c te τ Φ := fun σ G H F o Q q =>
  h σ G H F o _ fun x G1 H1 F1 rx τ1 b1 p1 g1 s1 => by
    obtain ⟨rfl, k⟩ := p1
    exact q x G1 H1 F1 _ τ1 b1 k g1 (he _ _ s1)
/-- a new list in flight, frozen where it is wanted as data -/
theorem wa_frz {ΦA : List Tg → Lc → Bool → Prop} (h : W c ta τ fun x τ1 b1 => ∃ ds, x = .res true (ownL ds) ∧ WA c t τ1 fun xs τ2 b2 => ΦA (.dat (.lst ds) :: xs) τ2 (b1 && b2)) : WA c (tCons ta t) τ ΦA :=
  wa_cons (w_frz (W.imp h fun x τ1 b1 p => by
    obtain ⟨ds, e, h2⟩ := p
    exact ⟨ds, e, WA.imp h2 fun xs τ2 b2 k => ⟨rfl, k⟩⟩))
end
end Z
set_option Elab.async false
set_option linter.all false
set_option maxRecDepth 100000
set_option maxHeartbeats 2000000
/-! Z11: two things walked at once; list(x) of what is only seen; items by a place that is a natural number. -/
namespace Z
open PySem PySem.Spec PyProof.Rows L2
/-- what may be walked: a list (true) or a tuple, by its items -/
inductive Src : Tg → Bool → List Tg → Prop
  | datL {ds : List DD} : Src (.dat (.lst ds)) true (ds.map .dat)
  | datT {ds : List DD} : Src (.dat (.tup ds)) false (ds.map .dat)
  | datP {ds : List DD} : Src (.dat (.tpl ds)) false (ds.map .dat)
  | volL {ds : List DD} : Src (.vol (.lst ds)) true (ds.map .vol)
  | volT {ds : List DD} : Src (.vol (.tup ds)) false (ds.map .vol)
  | volP {ds : List DD} : Src (.vol (.tpl ds)) false (ds.map .vol)
section
variable {c : Cfg} {τ : Lc} {Φ : Tg → Lc → Bool → Prop} {te ta tb : TE} {t : TA} {K : PySem.W.Frag} {D : AE} {i : Nat} {g g1 g2 g3 : TG} {N : Lc → Prop} {r : Tg} {ΦI : List Itm → Lc → Bool → Prop} {ts : TS}
def stands (c : Cfg) (G1 : Hp) (k : Bool) (a : Addr) (vs : List V) : Prop := ∀ G H : Hp, Same G1 G → Same G H → Fr c.X c.G0 c.H0 G H → if k = true then H a = some (.lst vs) else Rd H a (.tup vs)
theorem src_rep {G1 : Hp} {ds : List DD} {vs : List V} (h : RepL G1 ds vs) : vs.length = (ds.map Tg.dat).length ∧ ∀ (i : Nat) (t : Tg), (ds.map Tg.dat)[i]? = some t → ∃ v, vs[i]? = some v ∧ ∀ G, Same G1 G → Sl c G t v := by
  refine ⟨by rw [h.length, List.length_map], fun i t ht => ?_⟩
  rw [List.getElem?_map] at ht
  cases z : ds[i]? with
  | none => rw [z] at ht; cases ht
  | some d =>
    rw [z] at ht
    cases ht
    obtain ⟨v, h1, h2⟩ := h.get z
    exact ⟨v, h1, fun G e => Rep.mono e _ _ h2⟩
theorem src_repV {Gv : Hp} {ds : List DD} {vs : List V} (hv : ∀ a o, Gv a = some o → c.H0 a = some o ∧ ¬ c.X a) (h : RepL Gv ds vs) : vs.length = (ds.map Tg.vol).length ∧ ∀ (i : Nat) (t : Tg), (ds.map Tg.vol)[i]? = some t → ∃ v, vs[i]? = some v ∧ ∀ G : Hp, Sl c G t v := by
  refine ⟨by rw [h.length, List.length_map], fun i t ht => ?_⟩
  rw [List.getElem?_map] at ht
  cases z : ds[i]? with
  | none => rw [z] at ht; cases ht
  | some d =>
    rw [z] at ht
    cases ht
    obtain ⟨v, h1, h2⟩ := h.get z
    exact ⟨v, h1, fun G => ⟨Gv, hv, h2⟩⟩
theorem Src.at {σ : L2.St} {H0 G1 H1 : Hp} {F : Nat → Addr → Prop} {k : Bool} {ts : List Tg} {x : V} (h : Src r k ts) (s : Rs c σ H0 G1 H1 F r x) :
    ∃ a vs, x = V.ref a ∧ vs.length = ts.length ∧ stands c G1 k a vs ∧ ∀ (i : Nat) (t : Tg), ts[i]? = some t → ∃ v, vs[i]? = some v ∧ ∀ G, Same G1 G → Sl c G t v := by
  have up : ∀ {Gv : Hp}, (∀ a o, Gv a = some o → c.H0 a = some o ∧ ¬ c.X a) → ∀ {G H : Hp}, Fr c.X c.G0 c.H0 G H → Same Gv H := fun hv _ _ f b o z => f.h b o (hv b o z).1 (hv b o z).2
  cases h with
  | datL =>
    obtain ⟨a, vs, rfl, h2, h3⟩ := s
    exact ⟨a, vs, rfl, (src_rep (c := c) h3).1, fun G H e1 e2 _ => e2 _ _ (e1 _ _ h2), (src_rep h3).2⟩
  | datT =>
    obtain ⟨a, vs, rfl, h2, h3⟩ := s
    exact ⟨a, vs, rfl, (src_rep (c := c) h3).1, fun G H e1 e2 _ => rd_mono (e1.trans e2) h2, (src_rep h3).2⟩
  | datP =>
    obtain ⟨a, vs, rfl, h2, h3⟩ := tpl_tup s
    exact ⟨a, vs, rfl, (src_rep (c := c) h3).1, fun G H e1 e2 _ => rd_mono (e1.trans e2) h2, (src_rep h3).2⟩
  | volL =>
    obtain ⟨Gv, hv, a, vs, rfl, h2, h3⟩ := s
    exact ⟨a, vs, rfl, (src_repV hv h3).1, fun G H _ _ f => up hv f _ _ h2, fun i t ht => ((src_repV hv h3).2 i t ht).imp fun v z => ⟨z.1, fun G _ => z.2 G⟩⟩
  | volT =>
    obtain ⟨Gv, hv, a, vs, rfl, h2, h3⟩ := s
    exact ⟨a, vs, rfl, (src_repV hv h3).1, fun G H _ _ f => rd_mono (up hv f) h2, fun i t ht => ((src_repV hv h3).2 i t ht).imp fun v z => ⟨z.1, fun G _ => z.2 G⟩⟩
  | volP =>
    obtain ⟨Gv, hv, z⟩ := s
    obtain ⟨a, vs, rfl, h2, h3⟩ := tpl_tup z
    exact ⟨a, vs, rfl, (src_repV hv h3).1, fun G H _ _ f => rd_mono (up hv f) h2, fun i t ht => ((src_repV hv h3).2 i t ht).imp fun v z => ⟨z.1, fun G _ => z.2 G⟩⟩
theorem wi_zip (h : WA c t τ fun rs τ1 b1 => ∃ r r2 k ts us, rs = [r, r2] ∧ Src r k ts ∧ Src r2 k us ∧ ΦI (List.zipWith .two ts us) τ1 b1) : WI c (RZ.iZipA K t) τ ΦI := fun σ G H F o R q =>
  h σ G H F o _ fun xs G1 H1 F1 rs τ1 b1 p1 g1 s1 => by
    obtain ⟨r, r2, k, ts, us, rfl, h1, h2, kk⟩ := p1
    cases s1 with
    | @cons _ x _ _ sx s' =>
      cases s' with
      | @cons _ y _ _ sy s'' =>
        cases s''
        obtain ⟨a, vs, rfl, l1, t1, i1⟩ := h1.at sx
        obtain ⟨b, ws, rfl, l2, t2, i2⟩ := h2.at sy
        have n1 := t1 G1 H1 (Same.refl _) g1.ok.ex g1.ok.fr
        have n2 := t2 G1 H1 (Same.refl _) g1.ok.ex g1.ok.fr
        have ln : (List.zipWith Itm.two ts us).length = min ts.length us.length := List.length_zipWith
        have it : ∀ (i : Nat) (t : Itm), (List.zipWith Itm.two ts us)[i]? = some t → ∃ t' u', ts[i]? = some t' ∧ us[i]? = some u' ∧ t = .two t' u' := fun i t ht => by
          rw [List.getElem?_zipWith] at ht
          cases z : ts[i]? with
          | none => rw [z] at ht; cases us[i]? <;> cases ht
          | some t' =>
            cases z2 : us[i]? with
            | none => rw [z, z2] at ht; cases ht
            | some u' =>
              rw [z, z2] at ht
              exact ⟨t', u', rfl, rfl, (Option.some.inj ht).symm⟩
        cases k with
        | true =>
          have n1 : H1 a = some (.lst vs) := n1
          have n2 : H1 b = some (.lst ws) := n2
          have t1' : ∀ G H : Hp, Same G1 G → Same G H → Fr c.X c.G0 c.H0 G H → H a = some (.lst vs) := t1
          have t2' : ∀ G H : Hp, Same G1 G → Same G H → Fr c.X c.G0 c.H0 G H → H b = some (.lst ws) := t2
          refine ⟨a, b, vs, ws, rfl, .inl ⟨SqL.of n1, SqL.of n2, q _ _ G1 H1 F1 τ1 b1 kk g1 ⟨fun i G H hi e1 e2 f => ?_, fun G H e1 e2 f => ?_, fun i t G H y H' ht e1 e2 f yy => ?_⟩⟩⟩
          · rw [ln] at hi
            exact ⟨vs, ws, vs[i]'(by omega), ws[i]'(by omega), SqL.of (t1' G H e1 e2 f), SqL.of (t2' G H e1 e2 f), by simp, by simp⟩
          · refine ⟨vs, ws, SqL.of (t1' G H e1 e2 f), SqL.of (t2' G H e1 e2 f), ?_⟩
            rw [ln]
            omega
          · obtain ⟨t', u', h3, h4, rfl⟩ := it i t ht
            obtain ⟨v, h5, h6⟩ := i1 i t' h3
            obtain ⟨w, h7, h8⟩ := i2 i u' h4
            obtain ⟨T, x, z, y1, y2, y3, y4, y5⟩ := yy
            have e := y4 vs (SqL.of (t1' G H e1 e2 f))
            rw [h5] at e
            cases e
            have e := y5 ws (SqL.of (t2' G H e1 e2 f))
            rw [h7] at e
            cases e
            exact ⟨T, _, _, y1, y2, y3, h6 G e1, h8 G e1⟩
        | false =>
          have n1 : Rd H1 a (.tup vs) := n1
          have n2 : Rd H1 b (.tup ws) := n2
          have t1' : ∀ G H : Hp, Same G1 G → Same G H → Fr c.X c.G0 c.H0 G H → Rd H a (.tup vs) := t1
          have t2' : ∀ G H : Hp, Same G1 G → Same G H → Fr c.X c.G0 c.H0 G H → Rd H b (.tup ws) := t2
          refine ⟨a, b, vs, ws, rfl, .inr ⟨.inl n1, .inl n2, q _ _ G1 H1 F1 τ1 b1 kk g1 ⟨fun i G H hi e1 e2 f => ?_, fun G H e1 e2 f => ?_, fun i t G H y H' ht e1 e2 f yy => ?_⟩⟩⟩
          · rw [ln] at hi
            exact ⟨vs, ws, vs[i]'(by omega), ws[i]'(by omega), .inl (t1' G H e1 e2 f), .inl (t2' G H e1 e2 f), by simp, by simp⟩
          · refine ⟨vs, ws, .inl (t1' G H e1 e2 f), .inl (t2' G H e1 e2 f), ?_⟩
            rw [ln]
            omega
          · obtain ⟨t', u', h3, h4, rfl⟩ := it i t ht
            obtain ⟨v, h5, h6⟩ := i1 i t' h3
            obtain ⟨w, h7, h8⟩ := i2 i u' h4
            obtain ⟨T, x, z, y1, y2, y3, y4, y5⟩ := yy
            have e := y4 vs (.inl (t1' G H e1 e2 f))
            rw [h5] at e
            cases e
            have e := y5 ws (.inl (t2' G H e1 e2 f))
            rw [h7] at e
            cases e
            exact ⟨T, _, _, y1, y2, y3, h6 G e1, h8 G e1⟩
/-- list(x) of anything seen: of scalars -/
theorem w_listV (h : W c ta τ fun x τ1 b1 => ∃ ds, (Dv τ1 x (.lst ds) ∨ Dv τ1 x (.tup ds) ∨ Dv τ1 x (.tpl ds)) ∧ hardL ds = true ∧ Φ (.res true (ownL ds)) τ1 b1) : W c (tCB (rListOf K) (tCons ta tNil)) τ Φ := fun σ G H F o Q q =>
  h σ G H F o _ fun x G1 H1 F1 rx τ1 b1 p1 g1 s1 => by
    obtain ⟨ds, hd, hh, k⟩ := p1
    rcases hd with hd | hd | hd
    · obtain ⟨p, vs, rfl, h2, h3⟩ := hd.rep g1.ok s1
      refine ⟨p, vs, rfl, .inl (SqL.of h2), fun l hl => ?_⟩
      obtain ⟨a, b⟩ := new_own g1 hl (hardL_any (G' := G1) hh h3)
      exact q _ _ _ F1 _ τ1 b1 k a b
    · obtain ⟨p, vs, rfl, h2, h3⟩ := hd.rep g1.ok s1
      refine ⟨p, vs, rfl, .inr (.inl h2), fun l hl => ?_⟩
      obtain ⟨a, b⟩ := new_own g1 hl (hardL_any (G' := G1) hh h3)
      exact q _ _ _ F1 _ τ1 b1 k a b
    · obtain ⟨p, vs, rfl, h2, h3⟩ := tpl_tup (hd.rep g1.ok s1)
      refine ⟨p, vs, rfl, .inr (.inl h2), fun l hl => ?_⟩
      obtain ⟨a, b⟩ := new_own g1 hl (hardL_any (G' := G1) hh h3)
      exact q _ _ _ F1 _ τ1 b1 k a b
/-- list(x) of persistent data -/
theorem w_listD (h : W c ta τ fun x τ1 b1 => ∃ ds, (x = .dat (.lst ds) ∨ x = .dat (.tup ds) ∨ x = .dat (.tpl ds)) ∧ Φ (.res true (ownL ds)) τ1 b1) : W c (tCB (rListOf K) (tCons ta tNil)) τ Φ := fun σ G H F o Q q =>
  h σ G H F o _ fun x G1 H1 F1 rx τ1 b1 p1 g1 s1 => by
    obtain ⟨ds, rfl | rfl | rfl, k⟩ := p1
    · obtain ⟨p, vs, rfl, h2, h3⟩ := s1
      refine ⟨p, vs, rfl, .inl (SqL.of (g1.ok.ex _ _ h2)), fun l hl => ?_⟩
      obtain ⟨a, b⟩ := new_own g1 hl h3
      exact q _ _ _ F1 _ τ1 b1 k a b
    · obtain ⟨p, vs, rfl, h2, h3⟩ := s1
      refine ⟨p, vs, rfl, .inr (.inl (rd_mono g1.ok.ex h2)), fun l hl => ?_⟩
      obtain ⟨a, b⟩ := new_own g1 hl h3
      exact q _ _ _ F1 _ τ1 b1 k a b
    · obtain ⟨p, vs, rfl, h2, h3⟩ := tpl_tup s1
      refine ⟨p, vs, rfl, .inr (.inl (rd_mono g1.ok.ex h2)), fun l hl => ?_⟩
      obtain ⟨a, b⟩ := new_own g1 hl h3
      exact q _ _ _ F1 _ τ1 b1 k a b
theorem atI_nat' {α : Type} {xs : List α} {k : Nat} {x : α} (h : xs[k]? = some x) : atI xs (k : Int) = some x := by
  have hk : k < xs.length := (List.getElem?_eq_some_iff.mp h).1
  unfold atI
  rw [ixN_nat hk]
  exact h
theorem atI_neg1 {α : Type} {xs : List α} {x : α} (h : xs.getLast? = some x) : atI xs (-1) = some x := by
  have hne : xs ≠ [] := fun e => by rw [e] at h; cases h
  have hp : 0 < xs.length := List.length_pos_iff.mpr hne
  have e : ixN xs.length (-1) = some (xs.length - 1) := by
    unfold ixN
    rw [if_neg (by omega), if_pos (by omega)]
    congr 1
    omega
  unfold atI
  rw [e]
  show xs[xs.length - 1]? = some x
  rw [← List.getLast?_eq_getElem?]
  exact h
/-- an item of persistent data: a list, a tuple -/
theorem w_ixD (h : W c ta τ fun x τ1 b1 => W c tb τ1 fun y τ2 b2 => ∃ n ds d, y = .dat (.int n) ∧ (x = .dat (.lst ds) ∨ x = .dat (.tup ds) ∨ x = .dat (.tpl ds)) ∧ atI ds n = some d ∧ Φ (.dat d) τ2 (b1 && b2)) :
    W c (tOp (rIx K) ta tb) τ Φ := fun σ G H F o Q q =>
  h σ G H F o _ fun x G1 H1 F1 rx τ1 b1 p1 g1 s1 => p1 σ G1 H1 F1 g1.ok _ fun y G2 H2 F2 ry τ2 b2 p2 g2 s2 => by
    obtain ⟨n, ds, d, rfl, hd, ha, k⟩ := p2
    have e2 : y = .int n := s2
    subst e2
    rcases hd with rfl | rfl | rfl
    · obtain ⟨p, vs, rfl, h2, h3⟩ := (s1.keep g2 rfl : Rs c σ H G2 H2 F2 (.dat (.lst ds)) x)
      obtain ⟨v, h4, h5⟩ := atI_rep h3 ha
      exact .inl ⟨p, vs, n, v, rfl, rfl, SqL.of (g2.ok.ex _ _ h2), h4, q v G2 H2 F2 _ τ2 _ k (g1.trans g2) h5⟩
    · obtain ⟨p, vs, rfl, h2, h3⟩ := (s1.keep g2 rfl : Rs c σ H G2 H2 F2 (.dat (.tup ds)) x)
      obtain ⟨v, h4, h5⟩ := atI_rep h3 ha
      exact .inr (.inl ⟨p, vs, n, v, rfl, rfl, .inl (rd_mono g2.ok.ex h2), h4, q v G2 H2 F2 _ τ2 _ k (g1.trans g2) h5⟩)
    · obtain ⟨p, vs, rfl, h2, h3⟩ := tpl_tup (s1.keep g2 rfl : Rs c σ H G2 H2 F2 (.dat (.tpl ds)) x)
      obtain ⟨v, h4, h5⟩ := atI_rep h3 ha
      exact .inr (.inl ⟨p, vs, n, v, rfl, rfl, .inl (rd_mono g2.ok.ex h2), h4, q v G2 H2 F2 _ τ2 _ k (g1.trans g2) h5⟩)
/-- of what is only seen, a scalar -/
theorem w_ixS (h : W c ta τ fun x τ1 b1 => W c tb τ1 fun y τ2 b2 => stb x b2 = true ∧ ∃ n ds d, y = .dat (.int n) ∧ (Dv τ2 x (.lst ds) ∨ Dv τ2 x (.tup ds) ∨ Dv τ2 x (.tpl ds)) ∧ atI ds n = some d ∧ scal d = true ∧ Φ (.dat d) τ2 (b1 && b2)) :
    W c (tOp (rIx K) ta tb) τ Φ := fun σ G H F o Q q =>
  h σ G H F o _ fun x G1 H1 F1 rx τ1 b1 p1 g1 s1 => p1 σ G1 H1 F1 g1.ok _ fun y G2 H2 F2 ry τ2 b2 p2 g2 s2 => by
    obtain ⟨hs, n, ds, d, rfl, hd, ha, hsc, k⟩ := p2
    have s1' := s1.keep g2 hs
    have e2 : y = .int n := s2
    subst e2
    rcases hd with hd | hd | hd
    · obtain ⟨p, vs, rfl, h2, h3⟩ := hd.rep g2.ok s1'
      obtain ⟨v, h4, h5⟩ := atI_rep h3 ha
      exact .inl ⟨p, vs, n, v, rfl, rfl, SqL.of h2, h4, q v G2 H2 F2 _ τ2 _ k (g1.trans g2) (scal_any hsc h5)⟩
    · obtain ⟨p, vs, rfl, h2, h3⟩ := hd.rep g2.ok s1'
      obtain ⟨v, h4, h5⟩ := atI_rep h3 ha
      exact .inr (.inl ⟨p, vs, n, v, rfl, rfl, .inl h2, h4, q v G2 H2 F2 _ τ2 _ k (g1.trans g2) (scal_any hsc h5)⟩)
    · obtain ⟨p, vs, rfl, h2, h3⟩ := tpl_tup (hd.rep g2.ok s1')
      obtain ⟨v, h4, h5⟩ := atI_rep h3 ha
      exact .inr (.inl ⟨p, vs, n, v, rfl, rfl, .inl h2, h4, q v G2 H2 F2 _ τ2 _ k (g1.trans g2) (scal_any hsc h5)⟩)
/-- len of anything seen -/
theorem w_lenV (h : W c ta τ fun x τ1 b1 => ∃ ds, (Dv τ1 x (.lst ds) ∨ Dv τ1 x (.tup ds) ∨ Dv τ1 x (.tpl ds)) ∧ Φ (.dat (.int (ds.length : Nat))) τ1 b1) : W c (tCB (rLen K) (tCons ta tNil)) τ Φ := fun σ G H F o Q q =>
  h σ G H F o _ fun x G1 H1 F1 rx τ1 b1 p1 g1 s1 => by
    obtain ⟨ds, hd, k⟩ := p1
    rcases hd with hd | hd | hd
    · obtain ⟨p, vs, rfl, h2, h3⟩ := hd.rep g1.ok s1
      refine ⟨p, vs, rfl, .inl (SqL.of h2), ?_⟩
      rw [h3.length]
      exact q _ G1 H1 F1 _ τ1 b1 k g1 rfl
    · obtain ⟨p, vs, rfl, h2, h3⟩ := hd.rep g1.ok s1
      refine ⟨p, vs, rfl, .inr (.inl h2), ?_⟩
      rw [h3.length]
      exact q _ G1 H1 F1 _ τ1 b1 k g1 rfl
    · obtain ⟨p, vs, rfl, h2, h3⟩ := tpl_tup (hd.rep g1.ok s1)
      refine ⟨p, vs, rfl, .inr (.inl h2), ?_⟩
      rw [h3.length]
      exact q _ G1 H1 F1 _ τ1 b1 k g1 rfl
end
end Z
set_option Elab.async false
set_option linter.all false
set_option maxRecDepth 100000
set_option maxHeartbeats 2000000
/-! Z12: isinstance by kinds, calls by their promises, items by what they are. -/
namespace Z
open PySem PySem.Spec PyProof.Rows L2
def itemsD : DD → List DD
  | .lst xs => xs
  | .tup xs => xs
  | .tpl xs => xs
  | _ => []
def isNonD : DD → Bool
  | .non => true
  | _ => false
def isListed : DD → Bool
  | .lst _ => true
  | .tup _ => true
  | .tpl _ => true
  | _ => false
/-- what isinstance says of a datum -/
def kindD (d : DD) (n : String) : Bool := (kitB (tyN d) n).getD false
def kinds : List String := ["int", "bool", "list", "tuple", "str"]
theorem kind_ok {d : DD} {n : String} (hd : isPl d = true) (hn : n ∈ kinds) : kitB (tyN d) n = some (kindD d n) := by
  have q : ∀ a ∈ ["NoneType", "bool", "int", "str", "tuple", "list"], ∀ n ∈ kinds, (kitB a n).isSome = true := by decide +kernel
  have m : tyN d ∈ ["NoneType", "bool", "int", "str", "tuple", "list"] := by
    cases d <;> first | (cases hd; done) | simp [tyN]
  have := q _ m n hn
  unfold kindD
  cases z : kitB (tyN d) n with
  | none => rw [z] at this; cases this
  | some b => rfl
theorem listed_ok {d : DD} (hd : isPl d = true) : isiAny (tyN d) ["list", "tuple"] = some (isListed d) := by
  cases d <;> first | (cases hd; done) | (simp only [tyN, isListed]; decide +kernel)
theorem rs_non {d : DD} {G : Hp} {v : V} (hd : isPl d = true) (h : Rep G d v) : decide (v = V.non) = isNonD d := by
  cases d with
  | non => cases (show v = V.non from h); rfl
  | bl b => cases (show v = V.bl b from h); rfl
  | int b => cases (show v = V.int b from h); rfl
  | str b => cases (show v = V.str b from h); rfl
  | ty b => cases hd
  | tup xs => obtain ⟨a, vs, rfl, _⟩ := h; rfl
  | tpl xs => obtain ⟨a, vs, o, rfl, _⟩ := h; rfl
  | lst xs => obtain ⟨a, vs, rfl, _⟩ := h; rfl
  | obj C ns xs => cases hd
  | abs φ m => cases hd
theorem isPl_of {n : Nat} {d : DD} (h : Nice n d) : isPl d = true := by
  cases d with
  | ty m => cases n <;> (unfold Nice at h; exact h.elim)
  | obj C ns xs => cases n <;> (unfold Nice at h; exact h.elim)
  | abs φ m => cases n <;> (unfold Nice at h; exact h.elim)
  | _ => rfl
section
variable {c : Cfg} {τ τ1 : Lc} {Φ : Tg → Lc → Bool → Prop} {te ta tb : TE} {t : TA} {K : PySem.W.Frag} {D : AE} {i : Nat} {ts : TS} {S : Spec} {E : XK} {rs as : List Tg} {b : Bool}
theorem w_isiB {n : String} (h : W c ta τ fun x τ1 b1 => ∃ d, Dv τ1 x d ∧ isPl d = true ∧ n ∈ kinds ∧ Φ (.dat (.bl (kindD d n))) τ1 b1) : W c (tCB (rIsi K) (tCons ta (tCons (tC (.ty n)) tNil))) τ Φ := fun σ G H F o Q q =>
  h σ G H F o _ fun x G1 H1 F1 r τ1 b1 p1 g1 s1 => by
    obtain ⟨d, hd, hp, hn, k⟩ := p1
    exact ⟨x, .ty n, .type (tyN d), .type n, _, rfl, .ty n, tyx_of hp (hd.rep g1.ok s1), kit_ty (kind_ok hp hn), q _ G1 H1 F1 _ τ1 b1 k g1 rfl⟩
theorem w_isLT (h : W c ta τ fun x τ1 b1 => ∃ d, Dv τ1 x d ∧ isPl d = true ∧ Φ (.dat (.bl (isListed d))) τ1 b1) : W c (tCB (rIsiT K) (tCons ta (tCons (tTup (tCons (tC (.ty "list")) (tCons (tC (.ty "tuple")) tNil))) tNil))) τ Φ :=
  w_isi2 (W.imp h fun x τ1 b1 p => by
    obtain ⟨d, h1, h2, h3⟩ := p
    exact ⟨d, _, h1, h2, listed_ok h2, h3⟩)
theorem w_isN (h : W c ta τ fun x τ1 b1 => ∃ d, Dv τ1 x d ∧ isPl d = true ∧ Φ (.dat (.bl (isNonD d))) τ1 b1) : W c (tOp rIsN ta (tC .non)) τ Φ := fun σ G H F o Q q =>
  h σ G H F o _ fun x G1 H1 F1 r τ1 b1 p1 g1 s1 => by
    obtain ⟨d, hd, hp, k⟩ := p1
    exact ⟨rfl, q _ G1 H1 F1 _ τ1 b1 k g1 (show _ = V.bl _ by rw [rs_non hp (hd.rep g1.ok s1)])⟩
theorem w_notN (h : W c ta τ fun x τ1 b1 => ∃ d, Dv τ1 x d ∧ isPl d = true ∧ Φ (.dat (.bl (!isNonD d))) τ1 b1) : W c (tOp rNotN ta (tC .non)) τ Φ := fun σ G H F o Q q =>
  h σ G H F o _ fun x G1 H1 F1 r τ1 b1 p1 g1 s1 => by
    obtain ⟨d, hd, hp, k⟩ := p1
    exact ⟨rfl, q _ G1 H1 F1 _ τ1 b1 k g1 (show _ = V.bl _ by rw [rs_non hp (hd.rep g1.ok s1)])⟩
theorem pasX0 : Pas c X0 E := fun _ _ _ _ _ _ _ h => h.elim
/-- a call that lets nothing out -/
theorem cok0 (ha : Args τ1 rs as) (h : S as (fun r _ => Φ (dem r) τ1 b) X0) : CallOk c S E τ1 rs Φ b := ⟨X0, pasX0, .inl ⟨as, ha, h⟩⟩
/-- whose first argument is changed -/
theorem cok1 {j : Nat} {l : Bool} {R : Rsc} (hj : τ1[j]? = some (some (.res l R))) (ha : Args1 τ1 j rs as) (h : S (.res false R :: as) (fun r as2 => ∃ l2 R', as2[0]? = some (.res l2 R') ∧ Φ (dem r) (τ1.set j (some (.res l R'))) false) X0) : CallOk c S E τ1 (.ali j :: rs) Φ b :=
  ⟨X0, pasX0, .inr ⟨j, l, R, rs, as, rfl, hj, ha, h⟩⟩
theorem w_make0 {C : Addr} (h : WA c t τ fun rs τ1 b1 => ∃ as, Args τ1 rs as ∧ S (.res false (ownI C [] []) :: as) (fun r as2 => r = .dat .non ∧ ∃ l2 ns xs, as2[0]? = some (.res l2 (ownI C ns xs)) ∧ Φ (.dat (.obj C ns xs)) τ1 b1) X0) : W c (tMake C (FP S) [] E t) τ Φ :=
  w_make (WA.imp h fun rs τ1 b1 p => by
    obtain ⟨as, h1, h2⟩ := p
    exact ⟨X0, as, pasX0, h1, h2⟩)
/-- a body's ends, by name -/
def bodyD (Ψ : Tg → List Tg → Prop) (as : List Tg) : AE := { nx := fun τ' => Ψ (.dat .non) (backs as τ'), rt := fun r τ' => Ψ r (backs as τ') }
theorem fp_bodyD {S : Spec} {N : List Str} {ps : List Str} {t : XK → TS} (hl : ∀ as Ψ Ξ, S as Ψ Ξ → as.length = ps.length ∧ Plain as) (hN : ps.length ≤ N.length)
    (hb : ∀ (c : Cfg) (E : XK) as Ψ Ξ, S as Ψ Ξ → Pas c Ξ E → WS c (t E) (startT N.length as) (bodyD Ψ as)) :
    ∀ vs H Q E, FP S vs H Q E → t E { nx := fun _ H' => Q .non H', rt := Q } (start N vs) H := fp_body hl hN hb
def nextD (D : AE) (I : Lc → Prop) : AE := { D with nx := I }
theorem ws_seqN {tu : TS} (h : WS c ts τ (nextD D fun τ' => WS c tu τ' D)) : WS c (tSeq ts tu) τ D := ws_seq h
theorem ws_cutN (I : Lc → Prop) {tu : TS} (h : WS c ts τ (nextD D I)) (k : ∀ τ', I τ' → WS c tu τ' D) : WS c (tSeq ts tu) τ D := ws_cut I h k
/-- a branch that the facts shut -/
theorem wt_if {P : Prop} [Decidable P] {A B : Prop} (h1 : P → A) (h2 : ¬ P → B) : if decide P = true then A else B := by
  by_cases h : P
  · rw [decide_eq_true h, if_pos rfl]
    exact h1 h
  · rw [decide_eq_false h, if_neg Bool.false_ne_true]
    exact h2 h
theorem wt_ifB {k : Bool} {A B : Prop} (h1 : k = true → A) (h2 : k = false → B) : if k = true then A else B := by
  cases k with
  | true => rw [if_pos rfl]; exact h1 rfl
  | false => rw [if_neg Bool.false_ne_true]; exact h2 rfl
end
end Z
set_option Elab.async false
set_option linter.all false
set_option maxRecDepth 100000
set_option maxHeartbeats 2000000
/-! Z13: lists of lists that are one's own. -/
namespace Z
open PySem PySem.Spec PyProof.Rows L2
def ownLL (dss : List (List DD)) : Rsc where
  φ := fun v G H A => ∃ (p : Addr) (ps : List Addr), v = V.ref p ∧ H p = some (.lst (ps.map V.ref)) ∧ ps.length = dss.length ∧
    (∀ (k : Nat) (a : Addr) (ds : List DD), ps[k]? = some a → dss[k]? = some ds → ∃ vs, H a = some (.lst vs) ∧ RepL G ds vs) ∧ (p :: ps).Nodup ∧ A = fun a => a ∈ p :: ps
  mono := fun v G H A G' H' h e k => by
    obtain ⟨p, ps, h1, h2, h3, h4, h5, rfl⟩ := h
    refine ⟨p, ps, h1, by rw [k p (List.mem_cons_self ..)]; exact h2, h3, fun j a ds ha hd => ?_, h5, rfl⟩
    obtain ⟨vs, q1, q2⟩ := h4 j a ds ha hd
    exact ⟨vs, by rw [k a (List.mem_cons_of_mem _ (List.mem_of_getElem? ha))]; exact q1, q2.mono e _ _⟩
theorem repL_of {H : Hp} : ∀ {ds : List DD} {vs : List V}, vs.length = ds.length → (∀ (k : Nat) v d, vs[k]? = some v → ds[k]? = some d → Rep H d v) → RepL H ds vs
  | [], [], _, _ => rfl
  | [], _ :: _, h, _ => by simp at h
  | _ :: _, [], h, _ => by simp at h
  | d :: ds, v :: vs, h, k => RepL.cons (k 0 v d rfl rfl) (repL_of (by simpa using h) fun j u e hu he => k (j + 1) u e (by simpa using hu) (by simpa using he))
theorem ownLL_see {dss : List (List DD)} {v : V} {G H : Hp} {A : Addr → Prop} (e : Same G H) (h : (ownLL dss).φ v G H A) : Rep H (.lst (dss.map .lst)) v := by
  obtain ⟨p, ps, h1, h2, h3, h4, h5, rfl⟩ := h
  refine ⟨p, _, h1, h2, repL_of (by simp [h3]) fun k v d hv hd => ?_⟩
  rw [List.getElem?_map] at hv hd
  cases z : ps[k]? with
  | none => rw [z] at hv; cases hv
  | some a =>
    cases y : dss[k]? with
    | none => rw [y] at hd; cases hd
    | some ds =>
      rw [z] at hv
      rw [y] at hd
      cases hv
      cases hd
      obtain ⟨vs, q1, q2⟩ := h4 k a ds z y
      exact ⟨a, vs, rfl, q1, q2.mono e _ _⟩
section
variable {c : Cfg} {τ τ1 : Lc} {Φ : Tg → Lc → Bool → Prop} {te ta tb : TE} {t : TA} {K : PySem.W.Frag} {D : AE} {i : Nat} {ts : TS} {b : Bool}
theorem dv_LL {dss : List (List DD)} {l : Bool} (h : τ[i]? = some (some (.res l (ownLL dss)))) : Dv τ (.ali i) (.lst (dss.map .lst)) := .own h fun _ _ _ _ e k => ownLL_see e k
/-- an owned thing changed at a place of its own -/
theorem Ok.mutR {σ : L2.St} {G H : Hp} {F : Nat → Addr → Prop} {l : Bool} {R R' : Rsc} {p : Addr} {u' : HO} (o : Ok c τ σ G H F) (hi : τ[i]? = some (some (.res l R))) (fp : F i p) (ho : ¬ isTp u')
    (hR : ∀ v, σ[i]? = some (some v) → R.φ v G H (F i) → R'.φ v G (upd H p u') (F i)) : Go false c (τ.set i (some (.res l R'))) σ G H F G (upd H p u') F := by
  obtain ⟨u, hu, hr⟩ := o.rs i l _ hi
  have m3 := (o.own i p fp).2.1
  have hil : i < τ.length := (List.getElem?_eq_some_iff.mp hi).1
  have gt : ∀ j : Nat, j ≠ i → (τ.set i (some (.res l R')))[j]? = τ[j]? := fun j h => List.getElem?_set_ne (fun z => h z.symm)
  have gti : (τ.set i (some (.res l R')))[i]? = some (some (.res l R')) := List.getElem?_set_self hil
  refine ⟨?_, ⟨Same.refl G, fun a u z w => ?_, fun a z _ _ => z, fun a z => ?_⟩, fun j a z => .inl z⟩
  · exact {
      ex := same_own o.ex m3
      tu := o.tu.new ho
      fr := ⟨o.fr.g, fun a u z w => by
        rw [upd_ne (fun e => by
          subst e
          obtain ⟨_, _, _, _, _, y4⟩ := o.own i a fp
          rcases y4 with y4 | y4
          · rw [z] at y4; cases y4
          · exact w y4.2)]
        exact o.fr.h a u z w, o.fr.n, fun a z => by
        by_cases e : a = p
        · rw [e, upd_same]; exact (fun y => by cases y)
        · rw [upd_ne e]; exact o.fr.t a z⟩
      len := by rw [List.length_set]; exact o.len
      sl := fun j t h => by
        by_cases e : j = i
        · subst e
          rw [gti] at h
          cases h
          exact ⟨_, hu, True.intro⟩
        · rw [gt j e] at h
          exact o.sl j t h
      rs := fun j l' R h => by
        by_cases e : j = i
        · subst e
          rw [gti] at h
          cases h
          exact ⟨_, hu, hR _ hu hr⟩
        · rw [gt j e] at h
          obtain ⟨v, k1, k2⟩ := o.rs j l' R h
          exact ⟨v, k1, R.mono v _ _ _ _ _ k2 (Same.refl G) fun a ha => upd_ne fun ea => o.dj j i a e ha (by rw [ea]; exact fp)⟩
      own := fun j a z => by
        obtain ⟨y1, y2, l', R, y3, y4⟩ := o.own j a z
        refine ⟨?_, y2, ?_⟩
        · by_cases e : a = p
          · rw [e, upd_same]; exact (fun y => by cases y)
          · rw [upd_ne e]; exact y1
        · by_cases e : j = i
          · subst e
            rw [hi] at y3
            cases y3
            exact ⟨l, _, gti, y4⟩
          · exact ⟨l', R, by rw [gt j e]; exact y3, y4⟩
      dj := o.dj
      pn := fun q hq => by
        obtain ⟨k1, R, k2⟩ := o.pn q hq
        by_cases e : q.1 = i
        · rw [e, hi] at k2
          cases k2
          exact ⟨k1, _, by rw [e]; exact gti⟩
        · exact ⟨k1, R, by rw [gt _ e]; exact k2⟩ }
  · rw [upd_ne (fun e => by
      subst e
      exact w ⟨rfl, i, fp⟩)]
    exact z
  · by_cases e : a = p
    · rw [e, upd_same]; exact (fun y => by cases y)
    · rw [upd_ne e]; exact z
/-- [a, b] of two new lists -/
theorem w_lstLL (h : W c ta τ fun x τ1 b1 => ∃ ds, x = .res true (ownL ds) ∧ W c tb τ1 fun y τ2 b2 => ∃ es, y = .res true (ownL es) ∧ Φ (.res true (ownLL [ds, es])) τ2 (b1 && b2)) : W c (tLst (tCons ta (tCons tb tNil))) τ Φ := fun σ G H F o Q q =>
  h σ G H F o _ fun x G1 H1 F1 rx τ1 b1 p1 g1 s1 => by
    obtain ⟨ds, rfl, p1⟩ := p1
    refine p1 σ G1 H1 F1 g1.ok _ fun y G2 H2 F2 ry τ2 b2 p2 g2 s2 => ?_
    obtain ⟨es, rfl, k⟩ := p2
    have hne : ∀ a, H1 a ≠ none → H2 a ≠ none := g2.fr.t
    obtain ⟨_, A1, ⟨a, vs, rfl, h2, h3, rfl⟩, h4⟩ := s1
    have s1' : Rs c σ H G2 H2 F2 (.res true (ownL ds)) (.ref a) := Rs.keep (r := .res true (ownL ds)) ⟨rfl, _, ⟨a, vs, rfl, h2, h3, rfl⟩, h4⟩ g2 rfl
    obtain ⟨_, A1', ⟨a', vs', ea, h2', h3', rfl⟩, h4'⟩ := s1'
    cases ea
    obtain ⟨_, A2, ⟨e, ws, rfl, k2, k3, rfl⟩, k4⟩ := s2
    have e1 := h4 a rfl
    have e1' := h4' a rfl
    have e2 := k4 e rfl
    have hae : a ≠ e := fun z => e1.2.1 (by rw [z]; exact e2.1)
    refine ⟨(by decide : (2 : Nat) ≤ sizeLine), fun p hp => ?_⟩
    have hpa : p ≠ a := fun z => e1'.2.1 (by rw [← z]; exact hp)
    have hpe : p ≠ e := fun z => e2.2.1 (by rw [← z]; exact hp)
    have g3 := Go.grow g2.ok (Fr.new (G := G2) (o := .lst [V.ref a, V.ref e]) hp) (same_new g2.ok.ex hp) (g2.ok.tu.new fun z => z)
    have gg := (g1.trans g2).trans g3
    rw [Bool.and_true] at gg
    have ne3 : ∀ r, H2 r ≠ none → upd H2 p (.lst [V.ref a, V.ref e]) r ≠ none := g3.fr.t
    refine q _ _ _ F2 _ τ2 _ k gg ⟨rfl, _, ⟨p, [a, e], rfl, upd_same, rfl, fun j r zs hr hz => ?_, ?_, rfl⟩, fun r hr => ?_⟩
    · match j, hr, hz with
      | 0, hr, hz =>
        cases hr
        cases hz
        exact ⟨vs', by rw [upd_ne (Ne.symm hpa)]; exact h2', h3'⟩
      | 1, hr, hz =>
        cases hr
        cases hz
        exact ⟨ws, by rw [upd_ne (Ne.symm hpe)]; exact k2, k3⟩
      | j + 2, hr, hz => simp at hr
    · simp [hpa, hpe, hae]
    · simp only [List.mem_cons, List.not_mem_nil, or_false] at hr
      rcases hr with rfl | rfl | rfl
      · refine ⟨?_, (by rw [upd_same]; exact (fun z => by cases z)), ?_, fun j z => (g2.ok.own j r z).1 hp⟩
        · cases z : H r with
          | none => rfl
          | some w => exact absurd hp ((g1.trans g2).fr.t r (ne_none z))
        · cases z : G2 r with
          | none => rfl
          | some w => have := g2.ok.ex r w z; rw [hp] at this; cases this
      · exact ⟨e1.1, ne3 r e1'.2.1, e1'.2.2.1, e1'.2.2.2⟩
      · refine ⟨?_, ne3 r e2.2.1, e2.2.2.1, e2.2.2.2⟩
        cases z : H r with
        | none => rfl
        | some w => exact absurd e2.1 (g1.fr.t r (ne_none z))
theorem nodup_at {α : Type} : ∀ {xs : List α} {i j : Nat} {x : α}, xs.Nodup → xs[i]? = some x → xs[j]? = some x → i = j
  | [], _, _, _, _, h, _ => by simp at h
  | y :: ys, 0, 0, _, _, _, _ => rfl
  | y :: ys, 0, j + 1, x, n, h, k => by
    have e : y = x := by simpa using h
    subst e
    exact absurd (List.mem_of_getElem? (by simpa using k)) (List.nodup_cons.mp n).1
  | y :: ys, i + 1, 0, x, n, h, k => by
    have e : y = x := by simpa using k
    subst e
    exact absurd (List.mem_of_getElem? (by simpa using h)) (List.nodup_cons.mp n).1
  | y :: ys, i + 1, j + 1, x, n, h, k => congrArg (· + 1) (nodup_at (List.nodup_cons.mp n).2 (by simpa using h) (by simpa using k))
theorem mapref_get {ps : List Addr} {n : Int} {k : Nat} {a : Addr} (hn : n = (k : Int)) (h : ps[k]? = some a) : atI (ps.map V.ref) n = some (.ref a) := by
  rw [hn]
  exact atI_nat' (by rw [List.getElem?_map, h]; rfl)
/-- what a change of one of the lists leaves -/
theorem ownLL_set {dss : List (List DD)} {G H : Hp} {v : V} {A : Addr → Prop} {k : Nat} {es : List DD} {ws : List V} {p : Addr} {ps : List Addr} {a : Addr} (hv : v = V.ref p) (h2 : H p = some (.lst (ps.map V.ref))) (h3 : ps.length = dss.length)
    (h4 : ∀ (k : Nat) (a : Addr) (ds : List DD), ps[k]? = some a → dss[k]? = some ds → ∃ vs, H a = some (.lst vs) ∧ RepL G ds vs) (h5 : (p :: ps).Nodup) (hA : A = fun a => a ∈ p :: ps) (ha : ps[k]? = some a) (hr : RepL G es ws) :
    (ownLL (dss.set k es)).φ v G (upd H a (.lst ws)) A := by
  have hk : k < ps.length := (List.getElem?_eq_some_iff.mp ha).1
  have hpa : p ≠ a := fun z => (List.nodup_cons.mp h5).1 (by rw [z]; exact List.mem_of_getElem? ha)
  refine ⟨p, ps, hv, by rw [upd_ne hpa]; exact h2, by rw [List.length_set]; exact h3, fun j r ds hj hd => ?_, h5, hA⟩
  by_cases e : j = k
  · subst e
    rw [ha] at hj
    cases hj
    rw [List.getElem?_set_self (by omega)] at hd
    cases hd
    exact ⟨ws, upd_same, hr⟩
  · rw [List.getElem?_set_ne (Ne.symm e)] at hd
    obtain ⟨vs, q1, q2⟩ := h4 j r ds hj hd
    refine ⟨vs, ?_, q2⟩
    rw [upd_ne]
    · exact q1
    · intro z
      subst z
      obtain ⟨hj', ej⟩ := List.getElem?_eq_some_iff.mp hj
      obtain ⟨_, ek⟩ := List.getElem?_eq_some_iff.mp ha
      exact e (nodup_at (List.nodup_cons.mp h5).2 hj ha)
/-- x[k].append(number) -/
theorem ws_appLL {dss : List (List DD)} {l : Bool} {n m : Int} {k : Nat} {ds : List DD} (hi : τ[i]? = some (some (.res l (ownLL dss)))) (hn : n = (k : Int)) (hd : dss[k]? = some ds) (hz : ds.length < 100000) (h : D.nx (τ.set i (some (.res l (ownLL (dss.set k (ds ++ [.int m]))))))) :
    WS c (tDrop (tBM K "list" rAppend (tOp (rIx K) (tVar i) (tC (.int n))) (tCons (tC (.int m)) tNil))) τ D := fun σ G H F o De lk => by
  obtain ⟨u, hu, p, ps, rfl, h2, h3, h4, h5, h6⟩ := o.rs i l _ hi
  have hk : k < ps.length := by rw [h3]; exact (List.getElem?_eq_some_iff.mp hd).1
  obtain ⟨a, ha⟩ : ∃ a, ps[k]? = some a := ⟨_, List.getElem?_eq_getElem hk⟩
  obtain ⟨vs, q1, q2⟩ := h4 k a ds ha hd
  have gm := o.mutR (p := a) (u' := .lst (vs ++ [V.int m])) (R' := ownLL (dss.set k (ds ++ [.int m]))) hi (by rw [h6]; exact List.mem_cons_of_mem _ (List.mem_of_getElem? ha)) (fun z => z) (fun v hv _ => by
    rw [hu] at hv
    cases hv
    exact ownLL_set rfl h2 h3 h4 h5 h6 ha (q2.append (RepL.cons rfl rfl)))
  exact ⟨_, hu, .inl ⟨p, _, n, .ref a, rfl, rfl, SqL.of h2, mapref_get hn ha, tyV_list q1, a, vs, _, rfl, rfl, q1, by rw [q2.length]; exact sz_lt hz, lk.nx _ σ G _ F h gm.ok (Same.refl G)⟩⟩
/-- x[k].clear() -/
theorem ws_clrLL {dss : List (List DD)} {l : Bool} {n : Int} {k : Nat} {ds : List DD} (hi : τ[i]? = some (some (.res l (ownLL dss)))) (hn : n = (k : Int)) (hd : dss[k]? = some ds) (h : D.nx (τ.set i (some (.res l (ownLL (dss.set k [])))))) :
    WS c (tDrop (tBM0 K "list" rClear (tOp (rIx K) (tVar i) (tC (.int n))))) τ D := fun σ G H F o De lk => by
  obtain ⟨u, hu, p, ps, rfl, h2, h3, h4, h5, h6⟩ := o.rs i l _ hi
  have hk : k < ps.length := by rw [h3]; exact (List.getElem?_eq_some_iff.mp hd).1
  obtain ⟨a, ha⟩ : ∃ a, ps[k]? = some a := ⟨_, List.getElem?_eq_getElem hk⟩
  obtain ⟨vs, q1, q2⟩ := h4 k a ds ha hd
  have gm := o.mutR (p := a) (u' := .lst []) (R' := ownLL (dss.set k [])) hi (by rw [h6]; exact List.mem_cons_of_mem _ (List.mem_of_getElem? ha)) (fun z => z) (fun v hv _ => by
    rw [hu] at hv
    cases hv
    exact ownLL_set rfl h2 h3 h4 h5 h6 ha rfl)
  exact ⟨_, hu, .inl ⟨p, _, n, .ref a, rfl, rfl, SqL.of h2, mapref_get hn ha, tyV_list q1, a, vs, rfl, rfl, q1, lk.nx _ σ G _ F h gm.ok (Same.refl G)⟩⟩
/-- what is walked, counted -/
inductive EnQ : Tg → (DD → Tg) → List DD → Prop
  | lst {ds : List DD} : EnQ (.dat (.lst ds)) .dat ds
  | tup {ds : List DD} : EnQ (.dat (.tup ds)) .dat ds
  | tpl {ds : List DD} : EnQ (.dat (.tpl ds)) .dat ds
  | vlst {ds : List DD} : EnQ (.vol (.lst ds)) .vol ds
theorem wi_enumQ {ΦI : List Itm → Lc → Bool → Prop} (h : WA c t τ fun rs τ1 b1 => ∃ r f ds, rs = [r] ∧ EnQ r f ds ∧ ΦI (itsE f ds) τ1 b1) : WI c (iEnumA K t) τ ΦI :=
  wi_enumA (WA.imp h fun rs τ1 b1 p => by
    obtain ⟨r, f, ds, rfl, hq, k⟩ := p
    refine ⟨ds, ?_⟩
    cases hq with
    | lst => exact .inl ⟨rfl, k⟩
    | tup => exact .inr (.inl ⟨rfl, k⟩)
    | tpl => exact .inr (.inr (.inl ⟨rfl, k⟩))
    | vlst => exact .inr (.inr (.inr ⟨rfl, k⟩)))
/-- what is walked -/
inductive SqQ : Tg → (DD → Tg) → List DD → Prop
  | lst {ds : List DD} : SqQ (.dat (.lst ds)) .dat ds
  | tup {ds : List DD} : SqQ (.dat (.tup ds)) .dat ds
  | tpl {ds : List DD} : SqQ (.dat (.tpl ds)) .dat ds
  | vlst {ds : List DD} : SqQ (.vol (.lst ds)) .vol ds
  | vtup {ds : List DD} : SqQ (.vol (.tup ds)) .vol ds
  | vtpl {ds : List DD} : SqQ (.vol (.tpl ds)) .vol ds
def itsS (f : DD → Tg) (ds : List DD) : List Itm := ds.map fun d => .one (f d)
theorem itsS_get {f : DD → Tg} {ds : List DD} {i : Nat} {t : Itm} (h : (itsS f ds)[i]? = some t) : ∃ d, ds[i]? = some d ∧ t = .one (f d) := by
  unfold itsS at h
  rw [List.getElem?_map] at h
  cases z : ds[i]? with
  | none => rw [z] at h; cases h
  | some d => rw [z] at h; exact ⟨d, rfl, (Option.some.inj h).symm⟩
theorem itsS_len {f : DD → Tg} {ds : List DD} : (itsS f ds).length = ds.length := List.length_map _
theorem wi_seqQ {ΦI : List Itm → Lc → Bool → Prop} (h : W c ta τ fun r τ1 b1 => ∃ f ds, SqQ r f ds ∧ ΦI (itsS f ds) τ1 b1) : WI c (iSeq K ta) τ ΦI :=
  wi_seq (W.imp h fun r τ1 b1 p => by
    obtain ⟨f, ds, hq, k⟩ := p
    refine ⟨ds, ?_⟩
    cases hq with
    | lst => exact .inl ⟨.inl rfl, k⟩
    | tup => exact .inl ⟨.inr (.inl rfl), k⟩
    | tpl => exact .inl ⟨.inr (.inr rfl), k⟩
    | vlst => exact .inr ⟨.inl rfl, k⟩
    | vtup => exact .inr ⟨.inr (.inl rfl), k⟩
    | vtpl => exact .inr ⟨.inr (.inr rfl), k⟩)
/-- no resource that the caller waits for -/
def nr : Option Tg → Bool
  | some (.res false _) => false
  | _ => true
theorem free_of {x : Option Tg} (h : τ[i]? = some x) (n : nr x = true) : free τ i := fun R z => by
  rw [h] at z
  cases z
  cases n
theorem nx_next {I : Lc → Prop} (h : I τ) : (nextD D I).nx τ := h
theorem nx_body {Ψ : Tg → List Tg → Prop} {as : List Tg} (h : Ψ (.dat .non) (backs as τ)) : (bodyD Ψ as).nx τ := h
theorem rt_next {I : Lc → Prop} {r : Tg} (h : D.rt r τ) : (nextD D I).rt r τ := h
end
end Z
set_option Elab.async false
set_option linter.all false
set_option maxRecDepth 100000
set_option maxHeartbeats 2000000
/-! Z14: one rule for each way to read an item, to compare. -/
namespace Z
open PySem PySem.Spec PyProof.Rows L2
/-- what stands at a place -/
inductive IxQ (τ : Lc) : Tg → Int → Tg → Prop
  | lst {ds : List DD} {n : Int} {d : DD} (h : atI ds n = some d) : IxQ τ (.dat (.lst ds)) n (.dat d)
  | tup {ds : List DD} {n : Int} {d : DD} (h : atI ds n = some d) : IxQ τ (.dat (.tup ds)) n (.dat d)
  | tpl {ds : List DD} {n : Int} {d : DD} (h : atI ds n = some d) : IxQ τ (.dat (.tpl ds)) n (.dat d)
  | ali {i : Nat} {l : Bool} {ds : List DD} {n : Int} {d : DD} (k : τ[i]? = some (some (.res l (ownL ds)))) (h : atI ds n = some d) : IxQ τ (.ali i) n (.dat d)
  | new {ds : List DD} {n : Int} {d : DD} (h : atI ds n = some d) : IxQ τ (.res true (ownL ds)) n (.dat d)
  | vlst {ds : List DD} {n : Int} {d : DD} (h : atI ds n = some d) (hs : scal d = true) : IxQ τ (.vol (.lst ds)) n (.dat d)
  | vtup {ds : List DD} {n : Int} {d : DD} (h : atI ds n = some d) (hs : scal d = true) : IxQ τ (.vol (.tup ds)) n (.dat d)
  | vtpl {ds : List DD} {n : Int} {d : DD} (h : atI ds n = some d) (hs : scal d = true) : IxQ τ (.vol (.tpl ds)) n (.dat d)
  | elst {ds : List DD} {n : Int} {d : DD} (h : atI ds n = some d) (hs : scal d = false) : IxQ τ (.vol (.lst ds)) n (.vol d)
  | etup {ds : List DD} {n : Int} {d : DD} (h : atI ds n = some d) (hs : scal d = false) : IxQ τ (.vol (.tup ds)) n (.vol d)
section
variable {c : Cfg} {τ τ1 : Lc} {Φ : Tg → Lc → Bool → Prop} {te ta tb : TE} {t : TA} {K : PySem.W.Frag} {D : AE} {i : Nat} {ts : TS} {b : Bool}
theorem w_ixQ (h : W c ta τ fun x τ1 b1 => W c tb τ1 fun y τ2 b2 => stb x b2 = true ∧ ∃ n r, y = .dat (.int n) ∧ IxQ τ2 x n r ∧ Φ r τ2 (b1 && b2)) : W c (tOp (rIx K) ta tb) τ Φ := fun σ G H F o Q q =>
  h σ G H F o _ fun x G1 H1 F1 rx τ1 b1 p1 g1 s1 => p1 σ G1 H1 F1 g1.ok _ fun y G2 H2 F2 ry τ2 b2 p2 g2 s2 => by
    obtain ⟨hs, n, r, rfl, hd, k⟩ := p2
    have s1' := s1.keep g2 hs
    have e2 : y = .int n := s2
    subst e2
    have fin : ∀ (d : DD) (ds : List DD) (vs : List V) (G' : Hp), RepL G' ds vs → atI ds n = some d → scal d = true → ∃ v, atI vs n = some v ∧ Rep G2 d v := fun d ds vs G' h3 ha hh => by
      obtain ⟨v, h4, h5⟩ := atI_rep h3 ha
      exact ⟨v, h4, scal_any hh h5⟩
    cases hd with
    | lst ha =>
      obtain ⟨p, vs, rfl, h2, h3⟩ := s1'
      obtain ⟨v, h4, h5⟩ := atI_rep h3 ha
      exact .inl ⟨p, vs, n, v, rfl, rfl, SqL.of (g2.ok.ex _ _ h2), h4, q v G2 H2 F2 _ τ2 _ k (g1.trans g2) h5⟩
    | tup ha =>
      obtain ⟨p, vs, rfl, h2, h3⟩ := s1'
      obtain ⟨v, h4, h5⟩ := atI_rep h3 ha
      exact .inr (.inl ⟨p, vs, n, v, rfl, rfl, .inl (rd_mono g2.ok.ex h2), h4, q v G2 H2 F2 _ τ2 _ k (g1.trans g2) h5⟩)
    | tpl ha =>
      obtain ⟨p, vs, rfl, h2, h3⟩ := tpl_tup s1'
      obtain ⟨v, h4, h5⟩ := atI_rep h3 ha
      exact .inr (.inl ⟨p, vs, n, v, rfl, rfl, .inl (rd_mono g2.ok.ex h2), h4, q v G2 H2 F2 _ τ2 _ k (g1.trans g2) h5⟩)
    | ali hk ha =>
      obtain ⟨p, vs, rfl, h2, h3⟩ := (Dl.ali hk).lst g2.ok s1'
      obtain ⟨v, h4, h5⟩ := atI_rep h3 ha
      exact .inl ⟨p, vs, n, v, rfl, rfl, SqL.of h2, h4, q v G2 H2 F2 _ τ2 _ k (g1.trans g2) h5⟩
    | new ha =>
      obtain ⟨p, vs, rfl, h2, h3⟩ := (Dl.fre (τ := τ2)).lst g2.ok s1'
      obtain ⟨v, h4, h5⟩ := atI_rep h3 ha
      exact .inl ⟨p, vs, n, v, rfl, rfl, SqL.of h2, h4, q v G2 H2 F2 _ τ2 _ k (g1.trans g2) h5⟩
    | vlst ha hh =>
      obtain ⟨p, vs, rfl, h2, h3⟩ := Dv.rep (τ := τ2) .vol g2.ok s1'
      obtain ⟨v, h4, h5⟩ := fin _ _ vs _ h3 ha hh
      exact .inl ⟨p, vs, n, v, rfl, rfl, SqL.of h2, h4, q v G2 H2 F2 _ τ2 _ k (g1.trans g2) h5⟩
    | vtup ha hh =>
      obtain ⟨p, vs, rfl, h2, h3⟩ := Dv.rep (τ := τ2) .vol g2.ok s1'
      obtain ⟨v, h4, h5⟩ := fin _ _ vs _ h3 ha hh
      exact .inr (.inl ⟨p, vs, n, v, rfl, rfl, .inl h2, h4, q v G2 H2 F2 _ τ2 _ k (g1.trans g2) h5⟩)
    | vtpl ha hh =>
      obtain ⟨p, vs, rfl, h2, h3⟩ := tpl_tup (Dv.rep (τ := τ2) .vol g2.ok s1')
      obtain ⟨v, h4, h5⟩ := fin _ _ vs _ h3 ha hh
      exact .inr (.inl ⟨p, vs, n, v, rfl, rfl, .inl h2, h4, q v G2 H2 F2 _ τ2 _ k (g1.trans g2) h5⟩)
    | elst ha hh =>
      have s2 := s1'
      obtain ⟨Gv, hv, p, vs, rfl, h2, h3⟩ := s2
      obtain ⟨v, h4, h5⟩ := atI_rep h3 ha
      exact .inl ⟨p, vs, n, v, rfl, rfl, SqL.of (g2.ok.fr.h _ _ (hv _ _ h2).1 (hv _ _ h2).2), h4, q v G2 H2 F2 _ τ2 _ k (g1.trans g2) ⟨Gv, hv, h5⟩⟩
    | etup ha hh =>
      have s2 := s1'
      obtain ⟨Gv, hv, p, vs, rfl, h2, h3⟩ := s2
      obtain ⟨v, h4, h5⟩ := atI_rep h3 ha
      exact .inr (.inl ⟨p, vs, n, v, rfl, rfl, .inl (rd_mono (fun a u z => g2.ok.fr.h a u (hv a u z).1 (hv a u z).2) h2), h4, q v G2 H2 F2 _ τ2 _ k (g1.trans g2) ⟨Gv, hv, h5⟩⟩)
/-- what two things' comparison says -/
def EqQ (τ : Lc) (x y : Tg) (r : Bool) : Prop := ∃ d e, Dv τ x d ∧ Dv τ y e ∧ Nice 60 d ∧ Nice 60 e ∧ deqv d e = r
theorem eq_int {x y : Tg} {i j : Int} (h : Dv τ x (.int i)) (k : Dv τ y (.int j)) : EqQ τ x y (decide (i = j)) := ⟨_, _, h, k, nice_int, nice_int, deqv_int⟩
theorem eq_bl {x y : Tg} {i j : Bool} (h : Dv τ x (.bl i)) (k : Dv τ y (.bl j)) : EqQ τ x y (i == j) := ⟨_, _, h, k, nice_bl, nice_bl, deqv_bl⟩
theorem w_eqQ (h : W c ta τ fun x τ1 b1 => W c tb τ1 fun y τ2 b2 => stb x b2 = true ∧ ∃ r, EqQ τ2 x y r ∧ Φ (.dat (.bl r)) τ2 (b1 && b2)) : W c (tOp (rEqD K) ta tb) τ Φ :=
  w_eqD (W.imp h fun x τ1 b1 p => W.imp p fun y τ2 b2 p => by
    obtain ⟨h0, r, ⟨d, e, h1, h2, h3, h4, rfl⟩, k⟩ := p
    exact ⟨h0, d, e, h1, h2, h3, h4, k⟩)
theorem w_neQ (h : W c ta τ fun x τ1 b1 => W c tb τ1 fun y τ2 b2 => stb x b2 = true ∧ ∃ r, EqQ τ2 x y r ∧ Φ (.dat (.bl (!r))) τ2 (b1 && b2)) : W c (tOp (rNeD K) ta tb) τ Φ :=
  w_neD (W.imp h fun x τ1 b1 p => W.imp p fun y τ2 b2 p => by
    obtain ⟨h0, r, ⟨d, e, h1, h2, h3, h4, rfl⟩, k⟩ := p
    exact ⟨h0, d, e, h1, h2, h3, h4, k⟩)
/-! a test that is known -/
theorem wt_t {A B : Prop} (h : A) : if true = true then A else B := by rw [if_pos rfl]; exact h
theorem wt_f {A B : Prop} (h : B) : if false = true then A else B := by rw [if_neg (by decide)]; exact h
theorem wt_nt {A B : Prop} (h : B) : if (!true) = true then A else B := by rw [if_neg (by decide)]; exact h
theorem wt_nf {A B : Prop} (h : A) : if (!false) = true then A else B := by rw [if_pos (show (!false) = true from rfl)]; exact h
theorem wt_n {k : Bool} {A B : Prop} (h : if k = true then B else A) : if (!k) = true then A else B := by cases k <;> exact h
theorem ps_one {α : Type} {f : α → DD} {xs : List α} {k : Nat} {d : DD} (h : (xs.map f)[k]? = some d) : ∃ x, xs[k]? = some x ∧ d = f x := by
  rw [List.getElem?_map] at h
  cases z : xs[k]? with
  | none => rw [z] at h; cases h
  | some r => rw [z] at h; exact ⟨r, rfl, (Option.some.inj h).symm⟩
/-- a promise that is to be met: opened by hand -/
@[irreducible] def Hold (P : Prop) : Prop := P
theorem hold {P : Prop} (h : P) : Hold P := by unfold Hold; exact h
theorem unhold {P : Prop} (h : Hold P) : P := by unfold Hold at h; exact h
variable {S : Spec} {E : XK} {rs as : List Tg}
theorem cok0h (ha : Args τ1 rs as) (h : Hold (S as (fun r _ => Φ (dem r) τ1 b) X0)) : CallOk c S E τ1 rs Φ b := cok0 ha (unhold h)
theorem cok1h {j : Nat} {l : Bool} {R : Rsc} (hj : τ1[j]? = some (some (.res l R))) (ha : Args1 τ1 j rs as) (h : Hold (S (.res false R :: as) (fun r as2 => ∃ l2 R', as2[0]? = some (.res l2 R') ∧ Φ (dem r) (τ1.set j (some (.res l R'))) false) X0)) : CallOk c S E τ1 (.ali j :: rs) Φ b := cok1 hj ha (unhold h)
theorem w_makeh {C : Addr} (h : WA c t τ fun rs τ1 b1 => ∃ as, Args τ1 rs as ∧ Hold (S (.res false (ownI C [] []) :: as) (fun r as2 => r = .dat .non ∧ ∃ l2 ns xs, as2[0]? = some (.res l2 (ownI C ns xs)) ∧ Φ (.dat (.obj C ns xs)) τ1 b1) X0)) : W c (tMake C (FP S) [] E t) τ Φ :=
  w_make0 (WA.imp h fun rs τ1 b1 p => by
    obtain ⟨as, h1, h2⟩ := p
    exact ⟨as, h1, unhold h2⟩)
theorem ws_mid (I : Lc → Prop) (h : WS c ts τ (nextD D I)) (k : ∀ τ', I τ' → D.nx τ') : WS c ts τ D := WS.imp (D := nextD D I) h k (fun _ _ z => z) (fun _ z => z) fun _ z => z
section
variable {u : Tg} {d : DD} {N : Lc → Prop} {g1 g2 : TG}
theorem sl_scal {G : Hp} {x : V} (hs : scal d = true) (h : Sl c G (.vol d) x) : Sl c G (.dat d) x := by
  obtain ⟨Gv, _, h2⟩ := h
  exact scal_any hs h2
theorem wgi_twoS (p1 : Pl u) (hs : scal d = true) (h : WGI c (gTup K 2 (gCons g1 (gCons g2 gNil))) (.two u (.dat d)) τ N) : WGI c (gTup K 2 (gCons g1 (gCons g2 gNil))) (.two u (.vol d)) τ N := fun σ G H F x H' o y Q q => by
  obtain ⟨T, y, z, e1, hT, e2, s1, s2⟩ := y
  exact h σ G H F x H' o ⟨T, y, z, e1, hT, e2, s1, sl_scal hs s2⟩ Q q
end
def nres : Option (Option Tg) → Bool
  | some (some (.res _ _)) => false
  | _ => true
theorem still_of {vs : List Nat} (h : (vs.all fun i => nres τ[i]?) = true) : still τ vs := fun i hi l R z => by
  have := List.all_eq_true.mp h i hi
  rw [z] at this
  cases this
theorem frees_of {vs : List Nat} (h : (vs.all fun i => nr (τ[i]?.getD none)) = true) : ∀ i ∈ vs, free τ i := fun i hi R z => by
  have := List.all_eq_true.mp h i hi
  rw [z] at this
  cases this
theorem ws_setQ (h : W c te τ fun r τ1 b1 => ∃ l d ds0, r = .dat d ∧ τ1[i]? = some (some (.res l (ownL ds0))) ∧ W c tb τ1 fun y τ2 _ => ∃ ds n, τ2[i]? = some (some (.res l (ownL ds))) ∧ y = .dat (.int (n : Nat)) ∧ n < ds.length ∧ D.nx (τ2.set i (some (.res l (ownL (ds.set n d)))))) :
    WS c (tAsg te (gSub (tVar i) tb rSetL)) τ D := fun σ G H F o De lk =>
  h σ G H F o _ fun x G1 H1 F1 r τ1 b1 p1 g1 s1 => by
    obtain ⟨l, d, ds0, rfl, hi0, p2⟩ := p1
    obtain ⟨u, hu, p, vs, rfl, h2, h3, h4⟩ := g1.ok.rs i l _ hi0
    refine ⟨_, hu, p2 σ G1 H1 F1 g1.ok _ fun y G2 H2 F2 r2 τ2 b2 p3 g2 s2 => ?_⟩
    obtain ⟨ds, n, hi1, rfl, hn, k⟩ := p3
    obtain ⟨u1, hu1, p1, vs1, e1, k2, k3, k4⟩ := g2.ok.rs i l _ hi1
    rw [hu] at hu1
    cases hu1
    cases e1
    obtain ⟨p', vs', q1, q2, q3, gm⟩ := g2.ok.mutL hi1 (es := ds.set n d) (ws := vs1.set n x) (RepL.set (Rep.mono g2.fr.g _ _ s1) n k3)
    rw [hu] at q1
    cases q1
    exact ⟨p, vs1, (n : Nat), n, rfl, s2, k2, ixN_nat (by rw [k3.length]; exact hn), lk.nx _ σ G2 _ F2 k gm.ok (g1.fr.g.trans g2.fr.g)⟩
theorem ws_setK {m : Int} (h : W c te τ fun r τ1 b1 => ∃ l d ds, r = .dat d ∧ τ1[i]? = some (some (.res l (ownL ds))) ∧ (0 ≤ m ∧ m.toNat < ds.length) ∧ D.nx (τ1.set i (some (.res l (ownL (ds.set m.toNat d)))))) :
    WS c (tAsg te (gSub (tVar i) (tC (.int m)) rSetL)) τ D := ws_setQ (W.imp h fun r τ1 b1 p => by
  obtain ⟨l, d, ds, rfl, h1, h2, h3⟩ := p
  refine ⟨l, d, ds, rfl, h1, w_int ⟨ds, m.toNat, h1, ?_, h2.2, h3⟩⟩
  rw [Int.toNat_of_nonneg h2.1])
/-- what is open is closed when one goes back -/
theorem ws_retC {α : Type} {R : α → Rsc} (i : Nat) (h : WS c ts τ { D with rt := fun r τ' => ∃ l x, τ'[i]? = some (some (.res l (R x))) ∧ D.rt r (τ'.set i (some (.res l (exR R)))) }) : WS c ts τ D := fun σ G H F o De lk =>
  h σ G H F o De ⟨lk.nx, fun r τ' σ' G' H' F' v a o' q => by
    obtain ⟨l, x, h1, h2⟩ := a
    exact lk.rt r _ σ' G' H' F' v h2 (o'.chg (R' := exR R) h1 fun v G H A z => ⟨x, z⟩) q, lk.bk, lk.ct⟩
end
end Z
set_option Elab.async false
set_option linter.all false
set_option maxRecDepth 100000
set_option maxHeartbeats 2000000
/-! Z15: ranges downward, tuples of what is at hand, fields. -/
namespace Z
open PySem PySem.Spec PyProof.Rows L2
def itsC (lo st : Int) (n : Nat) : List Itm := (List.range n).map fun k => .one (.dat (.int (lo + (k : Nat) * st)))
theorem itsC_len {lo st : Int} {n : Nat} : (itsC lo st n).length = n := by rw [itsC, List.length_map, List.length_range]
theorem itsC_get {lo st : Int} {n i : Nat} {t : Itm} (h : (itsC lo st n)[i]? = some t) : i < n ∧ t = .one (.dat (.int (lo + (i : Nat) * st))) := by
  unfold itsC at h
  rw [List.getElem?_map] at h
  by_cases hi : i < n
  · rw [List.getElem?_range hi] at h
    exact ⟨hi, (Option.some.inj h).symm⟩
  · rw [List.getElem?_eq_none (by rw [List.length_range]; omega)] at h
    cases h
/-- what a tuple is made of -/
inductive TuQ (τ : Lc) : Tg → List DD → Prop
  | fre {ds : List DD} : TuQ τ (.res true (ownL ds)) ds
  | ali {i : Nat} {l : Bool} {ds : List DD} (h : τ[i]? = some (some (.res l (ownL ds)))) : TuQ τ (.ali i) ds
  | lst {ds : List DD} : TuQ τ (.dat (.lst ds)) ds
  | tup {ds : List DD} : TuQ τ (.dat (.tup ds)) ds
  | tpl {ds : List DD} : TuQ τ (.dat (.tpl ds)) ds
  | vlst {ds : List DD} (h : hardL ds = true) : TuQ τ (.vol (.lst ds)) ds
  | vtup {ds : List DD} (h : hardL ds = true) : TuQ τ (.vol (.tup ds)) ds
  | vtpl {ds : List DD} (h : hardL ds = true) : TuQ τ (.vol (.tpl ds)) ds
section
variable {c : Cfg} {τ τ1 : Lc} {Φ : Tg → Lc → Bool → Prop} {te ta tb : TE} {t : TA} {K : PySem.W.Frag} {D : AE} {i : Nat} {ts : TS} {b : Bool}
theorem stb1 (x : Tg) : stb x true = true := by cases x <;> rfl
theorem wk_down {lo st : Int} {n : Nat} {G1 : Hp} : Wk c (Itc lo st n) (itsC lo st n) G1 :=
  ⟨fun i G H hi _ _ _ => by rw [itsC_len] at hi; exact hi, fun G H _ _ _ => by rw [itsC_len]; exact Nat.le_refl n, fun i t G H x H' ht _ _ _ y => by
    obtain ⟨q, rfl⟩ := itsC_get ht
    exact ⟨y.1, y.2⟩⟩
theorem wi_down {ΦI : List Itm → Lc → Bool → Prop} (h : WA c t τ fun rs τ1 b1 => ∃ m n : Int, rs = [.dat (.int m), .dat (.int n), .dat (.int (-1))] ∧ -1000000 ≤ m ∧ m ≤ 1000000 ∧ -1000000 ≤ n ∧ n ≤ 1000000 ∧ ΦI (itsC m (-1) (m - n).toNat) τ1 b1) : WI c (iRng3 t) τ ΦI := fun σ G H F o R q =>
  h σ G H F o _ fun x G1 H1 F1 rx τ1 b1 p1 g1 s1 => by
    obtain ⟨m, n, rfl, l1, l2, l3, l4, k⟩ := p1
    cases s1 with
    | cons a b =>
      cases b with
      | cons a2 b2 =>
        cases b2 with
        | cons a3 b3 =>
          cases b3
          cases a
          cases a2
          cases a3
          exact ⟨m, n, -1, _, rfl, RgC.neg (by omega) (by omega) (by omega) (by omega), q _ _ G1 H1 F1 τ1 b1 k g1 wk_down⟩
theorem w_tupQ (h : W c ta τ fun x τ1 b1 => ∃ ds, TuQ τ1 x ds ∧ Φ (.dat (.tup ds)) τ1 b1) : W c (tCB (rTupN K) (tCons ta tNil)) τ Φ := fun σ G H F o Q q =>
  h σ G H F o _ fun x G1 H1 F1 rx τ1 b1 p1 g1 s1 => by
    obtain ⟨ds, hd, k⟩ := p1
    have new : ∀ (vs : List V), RepL G1 ds vs → ∀ (l : Addr) (o : Obj), H1 l = none → o.dict = none → Q (.ref l) (upd H1 l (.frz o (.tup vs))) := fun vs rr l o hl hdn => by
      have g2 := Go.grow g1.ok (Fr.both (o := .frz o (.tup vs)) g1.ok.ex hl) (same_both g1.ok.ex) g1.ok.tu.both
      have gg := g1.trans g2
      rw [Bool.and_true] at gg
      exact q _ _ _ F1 _ τ1 b1 k gg (tpl_tup ⟨l, vs, o, rfl, ⟨upd_same, hdn⟩, rr.mono g2.fr.g _ _⟩)
    have old : ∀ (p : Addr) (vs : List V), Rd G1 p (.tup vs) → RepL G1 ds vs → rTupN K [.ref p] H1 Q := fun p vs h2 h3 =>
      ⟨p, vs, rfl, .inr ⟨.inl (rd_mono g1.ok.ex h2), q _ G1 H1 F1 _ τ1 b1 k g1 ⟨p, vs, rfl, h2, h3⟩⟩⟩
    cases hd with
    | fre =>
      obtain ⟨p, vs, rfl, h2, h3⟩ := (Dl.fre (τ := τ1)).lst g1.ok s1
      exact ⟨p, vs, rfl, .inl ⟨SqL.of h2, new vs h3⟩⟩
    | ali hi =>
      obtain ⟨p, vs, rfl, h2, h3⟩ := (Dl.ali hi).lst g1.ok s1
      exact ⟨p, vs, rfl, .inl ⟨SqL.of h2, new vs h3⟩⟩
    | lst =>
      obtain ⟨p, vs, rfl, h2, h3⟩ := (Dl.dat (τ := τ1)).lst g1.ok s1
      exact ⟨p, vs, rfl, .inl ⟨SqL.of h2, new vs h3⟩⟩
    | tup =>
      obtain ⟨p, vs, rfl, h2, h3⟩ := s1
      exact old p vs h2 h3
    | tpl =>
      obtain ⟨p, vs, rfl, h2, h3⟩ := tpl_tup s1
      exact old p vs h2 h3
    | vlst hh =>
      obtain ⟨p, vs, rfl, h2, h3⟩ := Dv.rep (τ := τ1) .vol g1.ok s1
      exact ⟨p, vs, rfl, .inl ⟨SqL.of h2, new vs (hardL_any hh h3)⟩⟩
    | vtup hh =>
      obtain ⟨p, vs, rfl, h2, h3⟩ := Dv.rep (τ := τ1) .vol g1.ok s1
      exact old p vs (g1.ok.tu.rd h2) (hardL_any hh h3)
    | vtpl hh =>
      obtain ⟨p, vs, rfl, h2, h3⟩ := tpl_tup (Dv.rep (τ := τ1) .vol g1.ok s1)
      exact old p vs (g1.ok.tu.rd h2) (hardL_any hh h3)
/-- what a field holds -/
def FdQ (K : PySem.W.Frag) (f : Str) (τ : Lc) (x : Tg) (d : DD) : Prop :=
  (∃ C ns xs, x = .dat (.obj C ns xs) ∧ Cls K C ∧ NoAttr K C f ∧ lkp ns xs f = some d) ∨ ∃ i l C ns xs, x = .ali i ∧ τ[i]? = some (some (.res l (ownI C ns xs))) ∧ Cls K C ∧ NoAttr K C f ∧ lkp ns xs f = some d
theorem w_fldQ {f : Str} (h : W c ta τ fun x τ1 b1 => ∃ d, FdQ K f τ1 x d ∧ Φ (.dat d) τ1 b1) : W c (tFld K ta f) τ Φ := fun σ G H F o Q q =>
  h σ G H F o _ fun x G1 H1 F1 rx τ1 b1 p1 g1 s1 => by
    obtain ⟨d, ⟨C, ns, xs, rfl, hc, hn, hl⟩ | ⟨i, l, C, ns, xs, rfl, hi, hc, hn, hl⟩, k⟩ := p1
    · obtain ⟨a, dx, vs, rfl, h2, h3, h4⟩ := s1
      obtain ⟨v, h5, h6⟩ := lkp_rep hl h4
      exact ⟨a, C, dx, _, v, rfl, g1.ok.ex _ _ h2, hc, hn, h5, q v G1 H1 F1 _ τ1 b1 k g1 h6⟩
    · obtain ⟨u, h1, a, dx, vs, h2, h3, h7, h4, _⟩ := g1.ok.rs _ _ _ hi
      have e : u = x := by
        have q' : σ[i]? = some (some x) := s1
        rw [h1] at q'
        exact Option.some.inj (Option.some.inj q')
      subst e
      obtain ⟨v, h5, h6⟩ := lkp_rep hl h4
      exact ⟨a, C, dx, _, v, h2, h3, hc, hn, h5, q v G1 H1 F1 _ τ1 b1 k g1 h6⟩
theorem fd_own {f : Str} {l : Bool} {C : Addr} {ns : List Str} {xs : List DD} {d : DD} (hc : Cls K C) (hn : NoAttr K C f) (hi : τ[i]? = some (some (.res l (ownI C ns xs)))) (hl : lkp ns xs f = some d) : FdQ K f τ (.ali i) d := .inr ⟨i, l, C, ns, xs, rfl, hi, hc, hn, hl⟩
theorem fd_obj {f : Str} {C : Addr} {ns : List Str} {xs : List DD} {d : DD} (hc : Cls K C) (hn : NoAttr K C f) (hl : lkp ns xs f = some d) : FdQ K f τ (.dat (.obj C ns xs)) d := .inl ⟨C, ns, xs, rfl, hc, hn, hl⟩
variable {j : Nat} {u : Tg}
section
variable {t : Tg}
theorem Ok.storeX {c : Cfg} {σ : L2.St} {H0 G H : Hp} {F : Nat → Addr → Prop} {r : Tg} {v : V} (o : Ok c τ σ G H F) (hf : free τ i) (hi : i < τ.length) (hr : Stk r t) (s : Rs c σ H0 G H F r v) (t0 : ∀ a, c.H0 a ≠ none → H0 a ≠ none) :
    ∃ F', Ok c (τ.set i (some t)) (σ.set i (some v)) G H F' ∧ ∀ (j : Nat) (a : Addr), F' j a → F j a ∨ j = i := by
  have hσ : i < σ.length := by rw [o.len]; exact hi
  have gt : ∀ j : Nat, j ≠ i → (τ.set i (some t))[j]? = τ[j]? := fun j h => List.getElem?_set_ne (fun z => h z.symm)
  have gs : ∀ j : Nat, j ≠ i → (σ.set i (some v))[j]? = σ[j]? := fun j h => List.getElem?_set_ne (fun z => h z.symm)
  have gti : (τ.set i (some t))[i]? = some (some t) := by rw [List.getElem?_set_self hi]
  have gsi : (σ.set i (some v))[i]? = some (some v) := by rw [List.getElem?_set_self hσ]
  have npin : ∀ p ∈ c.P, p.1 ≠ i := fun p hp e => by
    obtain ⟨R, q⟩ := (o.pn p hp).2
    rw [e] at q
    exact hf R q
  obtain ⟨A, hA, hA2⟩ : ∃ A : Addr → Prop, (∀ l R, t = .res l R → l = true ∧ R.φ v G H A) ∧ (∀ a, A a → c.H0 a = none ∧ H a ≠ none ∧ G a = none ∧ (∀ i, ¬ F i a) ∧ ∃ R, t = .res true R) := by
    cases hr with
    | dat => exact ⟨fun _ => False, (fun _ _ z => nomatch z), fun _ z => z.elim⟩
    | vol => exact ⟨fun _ => False, (fun _ _ z => nomatch z), fun _ z => z.elim⟩
    | @res R =>
      obtain ⟨h1, A, h2, h3⟩ := s
      refine ⟨A, fun l R' z => ?_, fun a ha => ?_⟩
      · cases z
        exact ⟨rfl, h2⟩
      · obtain ⟨q1, q2, q3, q4⟩ := h3 a ha
        refine ⟨?_, q2, q3, q4, R, rfl⟩
        cases z : c.H0 a with
        | none => rfl
        | some w => exact absurd q1 (t0 a (ne_none z))
  refine ⟨fun j => if j = i then A else F j, ?_, fun j a z => ?_⟩
  rotate_left
  · have z : (if j = i then A else F j) a := z
    by_cases e : j = i
    · exact .inr e
    · rw [if_neg e] at z
      exact .inl z
  constructor
  · exact o.ex
  · exact o.tu
  · exact o.fr
  · rw [List.length_set, List.length_set, o.len]
  · intro j u h
    by_cases e : j = i
    · subst e
      rw [gti] at h
      cases h
      refine ⟨v, gsi, ?_⟩
      cases hr with
      | dat => exact s
      | vol => exact s
      | res => exact True.intro
    · rw [gt j e] at h
      obtain ⟨w, h1, h2⟩ := o.sl j u h
      exact ⟨w, by rw [gs j e]; exact h1, h2⟩
  · intro j l R h
    by_cases e : j = i
    · subst e
      rw [gti] at h
      cases h
      obtain ⟨q1, q2⟩ := hA l R rfl
      refine ⟨v, gsi, ?_⟩
      rw [if_pos rfl]
      exact q2
    · rw [gt j e] at h
      obtain ⟨w, h1, h2⟩ := o.rs j l R h
      refine ⟨w, by rw [gs j e]; exact h1, ?_⟩
      rw [if_neg e]
      exact h2
  · intro j a h
    by_cases e : j = i
    · subst e
      rw [if_pos rfl] at h
      obtain ⟨q1, q2, q3, q4, R, q5⟩ := hA2 a h
      subst q5
      exact ⟨q2, q3, true, R, gti, .inl q1⟩
    · rw [if_neg e] at h
      obtain ⟨q1, q2, l, R, q3, q4⟩ := o.own j a h
      exact ⟨q1, q2, l, R, by rw [gt j e]; exact q3, q4⟩
  · intro j k a hjk h1 h2
    by_cases e : j = i
    · subst e
      rw [if_pos rfl] at h1
      rw [if_neg (Ne.symm hjk)] at h2
      exact (hA2 a h1).2.2.2.1 k h2
    · rw [if_neg e] at h1
      by_cases e2 : k = i
      · subst e2
        rw [if_pos rfl] at h2
        exact (hA2 a h2).2.2.2.1 j h1
      · rw [if_neg e2] at h2
        exact o.dj j k a hjk h1 h2
  · intro p hp
    obtain ⟨h1, R, h2⟩ := o.pn p hp
    exact ⟨by rw [gs _ (npin p hp)]; exact h1, R, by rw [gt _ (npin p hp)]; exact h2⟩
end
/-- a resource within a set -/
def inR (R : Rsc) (B : Addr → Prop) : Rsc where
  φ := fun v G H A => R.φ v G H A ∧ ∀ a, A a → B a
  mono := fun v G H A G' H' h e k => ⟨R.mono v G H A G' H' h.1 e k, h.2⟩
theorem ws_parQ (h : W c ta τ fun x τ1 b1 => W c tb τ1 fun y τ2 b2 => stb x b2 = true ∧ ∃ u v, Stk x u ∧ Stk y v ∧ free τ2 i ∧ free τ2 j ∧ i ≠ j ∧ i < τ2.length ∧ j < τ2.length ∧ D.nx ((τ2.set i (some u)).set j (some v))) : WS c (tPar i j (tCons ta (tCons tb tNil))) τ D := fun σ G H F o De lk =>
  h σ G H F o _ fun x G1 H1 F1 r τ1 b1 p1 g1 s1 => p1 σ G1 H1 F1 g1.ok _ fun y G2 H2 F2 r2 τ2 b2 p2 g2 s2 => by
    obtain ⟨hs, u, v, hu, hv, fi, fj, hij, hi, hj, k⟩ := p2
    have t0 : ∀ a, c.H0 a ≠ none → H a ≠ none := fun a h => o.fr.t a h
    have fin : ∀ (u' : Tg) (F' : Nat → Addr → Prop), Ok c (τ2.set i (some u')) (σ.set i (some x)) G2 H2 F' → (∀ (G H : Hp) (A : Addr → Prop), ∀ R', u' = .res true R' → ∃ R, u = .res true R ∧ ∀ v, R'.φ v G H A → R.φ v G H A) → ((∀ R', u' ≠ .res true R') → u' = u) → (∀ (k : Nat) (a : Addr), F' k a → F2 k a ∨ (k = i ∧ H1 a ≠ none)) → De.nx ((σ.set i (some x)).set j (some y)) H2 := fun u' F' o' e1 e2 e3 => by
      have fij : free (τ2.set i (some u')) j := fun R z => fj R (by rw [List.getElem?_set_ne hij] at z; exact z)
      have s2' : Rs c (σ.set i (some x)) H1 G2 H2 F' r2 y := by
        cases hv with
        | dat => exact s2
        | vol => exact s2
        | res =>
          obtain ⟨q1, A, q2, q3⟩ := s2
          refine ⟨q1, A, q2, fun a ha => ?_⟩
          obtain ⟨m1, m2, m3, m4⟩ := q3 a ha
          refine ⟨m1, m2, m3, fun k z => ?_⟩
          rcases e3 k a z with z | ⟨_, z⟩
          · exact m4 k z
          · exact z m1
      obtain ⟨F3, o3, _⟩ := o'.store fij (by rw [List.length_set]; exact hj) hv s2' fun a z => g1.fr.t a (t0 a z)
      by_cases hr : ∃ R', u' = .res true R'
      · obtain ⟨R', rfl⟩ := hr
        obtain ⟨R, rfl, _⟩ := e1 G2 H2 (fun _ => False) R' rfl
        have gi : ((τ2.set i (some (.res true R'))).set j (some v))[i]? = some (some (.res true R')) := by
          rw [List.getElem?_set_ne (Ne.symm hij), List.getElem?_set_self hi]
        have o4 := o3.chg (R' := R) gi fun w G H A z => by
          obtain ⟨Rx, ex, kx⟩ := e1 G H A R' rfl
          cases ex
          exact kx w z
        have eq : ((τ2.set i (some (.res true R'))).set j (some v)).set i (some (.res true R)) = (τ2.set i (some (.res true R))).set j (some v) := by
          rw [List.set_comm _ _ hij, List.set_set, List.set_comm _ _ (Ne.symm hij)]
        rw [eq] at o4
        exact lk.nx _ _ G2 H2 F3 k o4 (g1.fr.g.trans g2.fr.g)
      · have e := e2 fun R' z => hr ⟨R', z⟩
        subst e
        exact lk.nx _ _ G2 H2 F3 k o3 (g1.fr.g.trans g2.fr.g)
    refine ⟨x, y, rfl, ?_⟩
    have s1' := s1.keep g2 hs
    cases hu with
    | dat =>
      obtain ⟨F', o', hF⟩ := g2.ok.store fi hi (.dat) s1' t0
      exact fin _ F' o' (fun _ _ _ _ z => nomatch z) (fun _ => rfl) fun k a z => .inl (hF .dat k a z)
    | vol =>
      obtain ⟨F', o', hF⟩ := g2.ok.store fi hi (.vol) s1' t0
      exact fin _ F' o' (fun _ _ _ _ z => nomatch z) (fun _ => rfl) fun k a z => .inl (hF .vol k a z)
    | @res R =>
      obtain ⟨_, A, q2, q3⟩ := s1
      have B : Rs c σ H G1 H1 F1 (.res true (inR R fun a => H1 a ≠ none)) x := ⟨rfl, A, ⟨q2, fun a ha => (q3 a ha).2.1⟩, q3⟩
      have B' := B.keep g2 rfl
      obtain ⟨F', o', hF⟩ := g2.ok.storeX (t := .res true (inR R fun a => H1 a ≠ none)) fi hi .res B' t0
      refine fin _ F' o' (fun G H A R' z => by cases z; exact ⟨R, rfl, fun v w => w.1⟩) (fun z => absurd rfl (z _)) fun kk a z => ?_
      rcases hF kk a z with z' | z'
      · exact .inl z'
      · subst z'
        obtain ⟨w, w1, w2⟩ := o'.rs kk true (inR R fun a => H1 a ≠ none) (by rw [List.getElem?_set_self hi])
        exact .inr ⟨rfl, w2.2 a z⟩
theorem w_allQ (h : W c ta τ fun x τ1 b1 => ∃ bs : List Bool, Dv τ1 x (.lst (bs.map .bl)) ∧ Φ (.dat (.bl (bs.all id))) τ1 b1) : W c (tCB (rAll K) (tCons ta tNil)) τ Φ :=
  w_callB (wa_cons (W.imp h fun x τ1 b1 p => wa_nil ⟨stb1 x, by
    obtain ⟨bs, h1, h2⟩ := p
    exact ⟨_, _, .cons h1 .nil, oa_all, by rw [Bool.and_true]; exact h2⟩⟩))
theorem w_anyQ (h : W c ta τ fun x τ1 b1 => ∃ bs : List Bool, Dv τ1 x (.lst (bs.map .bl)) ∧ Φ (.dat (.bl (bs.any id))) τ1 b1) : W c (tCB (rAny K) (tCons ta tNil)) τ Φ :=
  w_callB (wa_cons (W.imp h fun x τ1 b1 p => wa_nil ⟨stb1 x, by
    obtain ⟨bs, h1, h2⟩ := p
    exact ⟨_, _, .cons h1 .nil, oa_any, by rw [Bool.and_true]; exact h2⟩⟩))
theorem w_strQ (h : W c ta τ fun x τ1 b1 => ∃ i : Int, Dv τ1 x (.int i) ∧ i.natAbs.log2 < 1920 ∧ Φ (.dat (.str (toString i))) τ1 b1) : W c (tCB rStrI (tCons ta tNil)) τ Φ :=
  w_callB (wa_cons (W.imp h fun x τ1 b1 p => wa_nil ⟨stb1 x, by
    obtain ⟨bs, h1, h0, h2⟩ := p
    exact ⟨_, _, .cons h1 .nil, oa_str h0, by rw [Bool.and_true]; exact h2⟩⟩))
theorem w_listQ (h : W c ta τ fun x τ1 b1 => ∃ ds, TuQ τ1 x ds ∧ Φ (.res true (ownL ds)) τ1 b1) : W c (tCB (rListOf K) (tCons ta tNil)) τ Φ := fun σ G H F o Q q =>
  h σ G H F o _ fun x G1 H1 F1 rx τ1 b1 p1 g1 s1 => by
    obtain ⟨ds, hd, k⟩ := p1
    have fin : ∀ (vs : List V), RepL G1 ds vs → ∀ l, H1 l = none → Q (.ref l) (upd H1 l (.lst vs)) := fun vs rr l hl => by
      obtain ⟨a, b⟩ := new_own g1 hl rr
      exact q _ _ _ F1 _ τ1 b1 k a b
    have tt : ∀ (p : Addr) (vs : List V), Rd H1 p (.tup vs) → RepL G1 ds vs → rListOf K [.ref p] H1 Q := fun p vs h2 h3 => ⟨p, vs, rfl, .inr (.inl h2), fin vs h3⟩
    cases hd with
    | fre =>
      obtain ⟨p, vs, rfl, h2, h3⟩ := (Dl.fre (τ := τ1)).lst g1.ok s1
      exact ⟨p, vs, rfl, .inl (SqL.of h2), fin vs h3⟩
    | ali hi =>
      obtain ⟨p, vs, rfl, h2, h3⟩ := (Dl.ali hi).lst g1.ok s1
      exact ⟨p, vs, rfl, .inl (SqL.of h2), fin vs h3⟩
    | lst =>
      obtain ⟨p, vs, rfl, h2, h3⟩ := (Dl.dat (τ := τ1)).lst g1.ok s1
      exact ⟨p, vs, rfl, .inl (SqL.of h2), fin vs h3⟩
    | tup =>
      obtain ⟨p, vs, rfl, h2, h3⟩ := s1
      exact tt p vs (rd_mono g1.ok.ex h2) h3
    | tpl =>
      obtain ⟨p, vs, rfl, h2, h3⟩ := tpl_tup s1
      exact tt p vs (rd_mono g1.ok.ex h2) h3
    | vlst hh =>
      obtain ⟨p, vs, rfl, h2, h3⟩ := Dv.rep (τ := τ1) .vol g1.ok s1
      exact ⟨p, vs, rfl, .inl (SqL.of h2), fin vs (hardL_any hh h3)⟩
    | vtup hh =>
      obtain ⟨p, vs, rfl, h2, h3⟩ := Dv.rep (τ := τ1) .vol g1.ok s1
      exact tt p vs h2 (hardL_any hh h3)
    | vtpl hh =>
      obtain ⟨p, vs, rfl, h2, h3⟩ := tpl_tup (Dv.rep (τ := τ1) .vol g1.ok s1)
      exact tt p vs h2 (hardL_any hh h3)
theorem w_catQ (h : W c ta τ fun x τ1 b1 => W c tb τ1 fun y τ2 b2 => stb x b2 = true ∧ ∃ ds es, Dl τ2 x (.lst ds) ∧ Dl τ2 y (.lst es) ∧ ds.length + es.length ≤ 100000 ∧ Φ (.res true (ownL (ds ++ es))) τ2 (b1 && b2)) : W c (tOp rCat ta tb) τ Φ :=
  w_mkL2 (W.imp h fun x τ1 b1 p => W.imp p fun y τ2 b2 p => by
    obtain ⟨h0, ds, es, h1, h2, h3, h4⟩ := p
    exact ⟨h0, _, _, _, h1, h2, mk_cat h3, h4⟩)
theorem w_repQ (h : W c ta τ fun x τ1 b1 => W c tb τ1 fun y τ2 b2 => stb x b2 = true ∧ ∃ (ds : List DD) (n : Int), Dl τ2 x (.lst ds) ∧ y = .dat (.int n) ∧ (-100000 ≤ n ∧ n ≤ 100000 ∧ ds.length * n.toNat ≤ 100000) ∧ Φ (.res true (ownL (List.replicate n.toNat ds).flatten)) τ2 (b1 && b2)) : W c (tOp rRep ta tb) τ Φ :=
  w_mkL2 (W.imp h fun x τ1 b1 p => W.imp p fun y τ2 b2 p => by
    obtain ⟨h0, ds, n, h1, rfl, h3, h4⟩ := p
    exact ⟨h0, _, _, _, h1, .dat, mk_rep h3.1 h3.2.1 h3.2.2, h4⟩)
theorem w_negQ (h : W c ta τ fun x τ1 b1 => ∃ i : Int, x = .dat (.int i) ∧ Φ (.dat (.int (-i))) τ1 b1) : W c (tUn rNegI ta) τ Φ :=
  w_un (W.imp h fun x τ1 b1 p => by
    obtain ⟨i, rfl, k⟩ := p
    exact ⟨_, _, .dat, o1_neg, k⟩)
end
end Z
set_option Elab.async false
set_option linter.all false
set_option maxRecDepth 100000
/-! Z16: sorted. -/
namespace Z
open PySem PySem.Spec PyProof.Rows L2
section
variable {c : Cfg} {τ : Lc} {ta : TE} {Φ : Tg → Lc → Bool → Prop} {K : PySem.W.Frag}
theorem w_sortI (h : W c ta τ fun x τ1 b1 => ∃ ns : List Int, Dv τ1 x (.lst (ns.map .int)) ∧ ∀ ns' : List Int, ns'.Perm ns → ns'.Pairwise (· ≤ ·) → Φ (.res true (ownL (ns'.map .int))) τ1 b1) : W c (tCB (rSortedI K) (tCons ta tNil)) τ Φ := fun σ G H F o Q q =>
  h σ G H F o _ fun x G1 H1 F1 rx τ1 b1 p1 g1 s1 => by
    obtain ⟨ns, hd, k⟩ := p1
    obtain ⟨p, vs, rfl, h2, h3⟩ := hd.rep g1.ok s1
    have e := h3.ints
    subst e
    refine ⟨p, ns, rfl, SqL.of h2, fun ns' l hp hs hl => ?_⟩
    obtain ⟨a, b⟩ := new_own g1 hl (RepL.of_ints ns')
    exact q _ _ _ F1 _ τ1 b1 (k ns' hp hs) a b
end
end Z
set_option Elab.async false
set_option linter.all false
set_option maxRecDepth 100000
set_option maxHeartbeats 4000000
/-! Z17: sorted of a tuple of ints. -/
namespace SrtO
open PySem PyProof.Rows Srt
section
variable {prog : Program} {w : World} {A : Around} {E : Value → Shared → Prop} {s : Shared}
theorem gather_tup {l : Addr} {vs : List Value} {Q : List Value → Shared → Prop} (hl : s.heap.IsTuple l vs.toArray) (hz : vs.length ≤ sizeLine)
    (h : Q vs { s with heap := (s.heap.push (seqObj "list" #[] 0)).update s.heap.objs.size (Obj.mapSeq (· ++ vs.toArray)) }) : wpAny (model prog w) A (collect (.ref l)) Q E s := by
  obtain ⟨o, ho, hc, n, hd⟩ := hl
  have grown := Heap.get?_push_of_some (seqObj "list" #[] 0) ho
  unfold collect
  refine wpAny_bind (wpAny_runValue (codeAny_builtin entry_proto_collect' (?_ : wpAny _ _ (do again (.builtin "list.__iadd__" ⟨[← newList [], .ref l], []⟩)) _ _ s)))
  refine wpAny_bind (wpAny_newList (wpAny_pure ⟨Code.quiet_builtin _ (by decide +kernel), codeAny_builtin entry_list_iadd' (?_ : wpAny _ _ (Builtin.List.listExtendWith (.ref s.heap.objs.size) (.ref l) (.ref s.heap.objs.size)) _ _ { s with heap := s.heap.push (seqObj "list" #[] 0) })⟩))
  unfold Builtin.List.listExtendWith
  refine wpAny_bind (wpAny_typeOf (T := "tuple") ⟨o, grown, hc⟩ ?_)
  rw [if_pos (by rw [show (Value.type "tuple" == Value.type "tuple") = true from rfl, Bool.or_true])]
  refine wpAny_bind (listItems_at grown hd (wpAny_bind (listItems_at (xs := #[]) (n := 0) (Heap.get?_push_size _ rfl) rfl ?_)))
  rw [if_neg (by simp)]
  refine wpAny_bind (listUpdate_at (xs := #[]) (n := 0) (Heap.get?_push_size _ rfl) rfl (wpAny_pure ?_) (Nat.zero_le _) (by show (#[] ++ vs.toArray).size ≤ sizeLine + 1; simpa using Nat.le_succ_of_le hz))
  dsimp only
  refine wpAny_bind (wpAny_load (get?_update_seq (Heap.get?_push_size _ rfl) _) ?_)
  have e : (Array.append (#[] : Array Value) vs.toArray).toList = vs := by simp
  change wpAny _ A (pure (Array.append (#[] : Array Value) vs.toArray).toList) Q E _
  rw [e]; exact wpAny_pure h
theorem sorted_tup {l : Addr} {vs : List Value} {ltv : Value → Value → Bool} {Q : Value → Shared → Prop} (O : Swo ltv) (hl : s.heap.IsTuple l vs.toArray) (hz : vs.length ≤ sizeLine)
    (hS : 2 ≤ vs.length → ∀ (h₁ : Heap) (a : Addr), h₁.get? a = some (seqObj "list" vs.toArray 0) → (∀ b o, s.heap.get? b = some o → b ≠ a ∧ h₁.get? b = some o) → SortableO prog w A.in1.in1 { s with heap := h₁ } a vs ltv)
    (h : ∀ out : List Value, Srtd ltv out → Stb ltv out vs → Q (.ref (s.heap.objs.size + 1)) { s with heap := sortedAll s.heap vs out.toArray }) : wpAny (model prog w) A (call (.builtin "sorted") [.ref l]) Q E s := by
  have hs1 : ((s.heap.push (seqObj "list" #[] 0)).update s.heap.objs.size (Obj.mapSeq (· ++ vs.toArray))).objs.size = s.heap.objs.size + 1 := (Heap.size_update ..).trans (size_push' ..)
  have hoL : (((s.heap.push (seqObj "list" #[] 0)).update s.heap.objs.size (Obj.mapSeq (· ++ vs.toArray))).push (seqObj "list" vs.toArray 0)).get? (s.heap.objs.size + 1) = some (seqObj "list" vs.toArray 0) := hs1 ▸ Heap.get?_push_size _ rfl
  refine Calls.call_function_entry kind_sorted plain_sorted entry_sorted (args_sorted1 _) ?_
  unfold Builtin.«sorted»
  refine wpAny_bind (m := checkCount "sorted" 1 1 _) (wpAny_pure (wpAny_bind (gather_tup hl hz (wpAny_bind (wpAny_newList (?_ : wpAny _ _ _ _ _ { s with heap := ((s.heap.push (seqObj "list" #[] 0)).update s.heap.objs.size (Obj.mapSeq (· ++ vs.toArray))).push (seqObj "list" vs.toArray 0) }) hz)))))
  have kept : ∀ b o, s.heap.get? b = some o → b ≠ s.heap.objs.size + 1 ∧ (((s.heap.push (seqObj "list" #[] 0)).update s.heap.objs.size (Obj.mapSeq (· ++ vs.toArray))).push (seqObj "list" vs.toArray 0)).get? b = some o := fun b o q => by
    have lt : b < s.heap.objs.size := Heap.lt_size q
    exact ⟨Nat.ne_of_lt (Nat.lt_succ_of_lt lt), Heap.get?_push_of_some _ (by rw [Heap.get?_update_ne _ _ _ _ (Nat.ne_of_lt lt)]; exact Heap.get?_push_of_some _ q)⟩
  dsimp only
  rw [hs1]
  exact wpAny_bind (wpAny_holding (wpAny_call_entry slot_list_sort ⟨_, hoL, rfl⟩ entry_list_sort (list_sort_ord O hoL hz (fun h2 => hS h2 _ _ hoL kept) fun out a b => ⟨_, rfl, wpAny_pure ⟨_, rfl, h out a b⟩⟩) (args_list_sort _)))
end
end SrtO
namespace Z
open PySem PySem.Spec PyProof.Rows L2
/-- sorted(t), a tuple of ints -/
def rSortedTI (K : PySem.W.Frag) : List V → Hp → VK → Prop := fun vs H Q => ∃ (a : Addr) (ns : List Int), vs = [V.ref a] ∧ SqT K H a (ns.map V.int) ∧
  ∀ (ms : List Int) (p : Addr), ms.Perm ns → ms.Pairwise (· ≤ ·) → H p = none → Q (.ref p) (upd H p (.lst (ms.map V.int)))
theorem cr_sortedTI {X : Cx} : CallR X (.builtin "sorted") (rSortedTI X.K) := by
  intro pins s σ H vs us Q J r ⟨t, ns, ev, hs, q⟩
  subst ev
  obtain ⟨its, rv, hl, hz⟩ := J.tuple hs
  have hi := rv.ints
  rw [Vals.ref1 r]
  refine SrtO.sorted_tup SrtO.swo_int hl (by rw [← rv.length]; exact hz) (fun h2 _ _ _ _ => SrtO.ints_sortable hi h2) fun out o1 o2 => ?_
  obtain ⟨m1, m2, m3⟩ := SrtO.ints_out hi o1 o2
  obtain ⟨ep, he⟩ := PyProof.Rows.sortedAll_at s.heap its out.toArray
  have hn : ((out.map SrtO.iv).map V.int).length ≤ sizeLine := by rw [List.length_map] at hz ⊢; rw [m2.length_eq]; exact hz
  exact ⟨.ref _, upd H (s.heap.objs.size + 1) (.lst ((out.map SrtO.iv).map V.int)), J.laid (t' := s.toks) (fun _ _ => PyProof.Rows.sortedAll_old) (Nat.le_succ _) ⟨hn, out, ep, vals_of_ints m1, he⟩, rfl, q _ _ m2 m3 (J.hok.fresh (Nat.le_succ _))⟩
section
variable {c : Cfg} {τ : Lc} {ta : TE} {Φ : Tg → Lc → Bool → Prop} {K : PySem.W.Frag}
theorem w_sortTI (h : W c ta τ fun x τ1 b1 => ∃ ns : List Int, Dv τ1 x (.tup (ns.map .int)) ∧ ∀ ms : List Int, ms.Perm ns → ms.Pairwise (· ≤ ·) → Φ (.res true (ownL (ms.map .int))) τ1 b1) : W c (tCB (rSortedTI K) (tCons ta tNil)) τ Φ := fun σ G H F o Q q =>
  h σ G H F o _ fun x G1 H1 F1 rx τ1 b1 p1 g1 s1 => by
    obtain ⟨ns, hd, k⟩ := p1
    obtain ⟨p, vs, rfl, h2, h3⟩ := hd.rep g1.ok s1
    have e := h3.ints
    subst e
    refine ⟨p, ns, rfl, .inl h2, fun ms l hp hs hl => ?_⟩
    obtain ⟨a, b⟩ := new_own g1 hl (RepL.of_ints ms)
    exact q _ _ _ F1 _ τ1 b1 (k ms hp hs) a b
end
end Z
set_option Elab.async false
set_option linter.all false
/-! A1: the pure interpreter with a store: data, cells, and what each piece of code does. -/
namespace Y
open PySem (Str)
abbrev Ky := Sum Int Str
inductive D where
  | non
  | bl (b : Bool)
  | int (i : Int)
  | str (s : Str)
  | ty (n : String)
  | tup (xs : List D)
  | tpl (xs : List D)
  | lst (xs : List D)
  | dic (ks : List Ky) (vs : List D)
  | dit (ks : List (List Ky)) (vs : List D)
  | obj (c : String) (ns : List String) (xs : List D)
  | scr (ns : List Int)
deriving Inhabited
/-- values: data, a cell of the store, a tuple that holds such -/
inductive Vx where
  | dat (d : D)
  | ref (i : Nat)
  | tup (xs : List Vx)
deriving Inhabited
/-- cells: a list of data, of values; an instance; dicts; a set of ints -/
inductive Cl where
  | ld (ds : List D)
  | lv (xs : List Vx)
  | ins (c : String) (ns : List String) (xs : List D)
  | dic (ks : List Ky) (vs : List D)
  | dit (ks : List (List Ky)) (vs : List D)
deriving Inhabited
abbrev Mu := List Cl
abbrev Ls := List (Option Vx)
/-- an exception of an own class: its fields -/
structure Exc where
  c : String
  ns : List String
  xs : List D
deriving Inhabited
inductive Res (α : Type) where
  | v (a : α) (μ : Mu)
  | ex (e : Exc) (μ : Mu)
  | no
def bnd {α β : Type} (r : Res α) (f : α → Mu → Res β) : Res β := match r with
  | .v a μ => f a μ
  | .ex e μ => .ex e μ
  | .no => .no
def ofO {α : Type} (o : Option α) (μ : Mu) : Res α := match o with
  | some a => .v a μ
  | none => .no
inductive So where
  | nx (τ : Ls) (μ : Mu)
  | rt (r : Vx) (μ : Mu)
  | bk (τ : Ls) (μ : Mu)
  | ct (τ : Ls) (μ : Mu)
  | ex (e : Exc) (τ : Ls) (μ : Mu)
  | no
abbrev ME := Ls → Mu → Res Vx
abbrev MA := Ls → Mu → Res (List Vx)
abbrev MT := Ls → Mu → Res Bool
abbrev MO := Ls → Mu → Res (Option Int)
abbrev ML := Ls → Mu → Res (List D)
abbrev MJ := Ls → Mu → Res Str
abbrev MS := Ls → Mu → So
abbrev Sem := List Vx → Mu → Res Vx
/-! ### reading values -/
/-- each has data -/
def fzL (f : Vx → Option D) : List Vx → Option (List D)
  | [] => some []
  | x :: xs => match f x with
    | none => none
    | some d => match fzL f xs with
      | some ds => some (d :: ds)
      | none => none
/-- the data of a value, of cells from n on -/
def fz (μ : Mu) (n : Nat) : Nat → Vx → Option D
  | 0, .dat d => some d
  | 0, _ => none
  | k + 1, .dat d => some d
  | k + 1, .ref i => if n ≤ i then match μ[i]? with
      | some (.ld ds) => some (.lst ds)
      | some (.lv xs) => match fzL (fz μ n k) xs with
        | some ds => some (.lst ds)
        | none => none
      | some (.dic ks vs) => some (.dic ks vs)
      | some (.dit ks vs) => some (.dit ks vs)
      | _ => none
    else none
  | k + 1, .tup xs => match fzL (fz μ n k) xs with
    | some ds => some (.tup ds)
    | none => none
def sees (μ : Mu) (x : Vx) : Option D := fz μ 0 5 x
def allSee (μ : Mu) : List Vx → Option (List D)
  | [] => some []
  | x :: xs => match sees μ x with
    | none => none
    | some d => match allSee μ xs with
      | some ds => some (d :: ds)
      | none => none
def allDat : List Vx → Option (List D)
  | [] => some []
  | .dat d :: xs => match allDat xs with
    | some ds => some (d :: ds)
    | none => none
  | _ => none
/-- the data items of a list or a tuple -/
def its (μ : Mu) : Vx → Option (List D)
  | .dat (.lst ds) => some ds
  | .dat (.tup ds) => some ds
  | .dat (.tpl ds) => some ds
  | .ref i => match μ[i]? with
    | some (.ld ds) => some ds
    | _ => none
  | _ => none
/-- a list of data -/
def dlst (μ : Mu) : Vx → Option (List D)
  | .dat (.lst ds) => some ds
  | .ref i => match μ[i]? with
    | some (.ld ds) => some ds
    | _ => none
  | _ => none
/-! all references lie below n -/
mutual
def bel (n : Nat) : Vx → Bool
  | .dat _ => true
  | .ref i => decide (i < n)
  | .tup xs => belL n xs
def belL (n : Nat) : List Vx → Bool
  | [] => true
  | x :: xs => bel n x && belL n xs
end
/-! ### equality -/
mutual
def niceD : Nat → D → Bool
  | _, .non => true
  | _, .bl _ => true
  | _, .int _ => true
  | _, .str s => s.cps.all (· < 0x110000)
  | n + 1, .tup xs => niceDL n xs
  | n + 1, .tpl xs => niceDL n xs
  | n + 1, .lst xs => niceDL n xs
  | _, _ => false
def niceDL : Nat → List D → Bool
  | _, [] => true
  | n, x :: xs => niceD n x && niceDL n xs
end
mutual
def eqD : D → D → Bool
  | .non, .non => true
  | .bl a, .bl b => a == b
  | .bl a, .int j => (if a then 1 else 0) == j
  | .int i, .bl b => i == (if b then 1 else 0)
  | .int i, .int j => i == j
  | .str x, .str y => x == y
  | .lst xs, .lst ys => eqDL xs ys
  | .tup xs, .tup ys => eqDL xs ys
  | .tup xs, .tpl ys => eqDL xs ys
  | .tpl xs, .tup ys => eqDL xs ys
  | .tpl xs, .tpl ys => eqDL xs ys
  | _, _ => false
def eqDL : List D → List D → Bool
  | [], [] => true
  | x :: xs, y :: ys => eqD x y && eqDL xs ys
  | _, _ => false
end
def nice60 (d : D) : Bool := niceD 60 d
/-! ### operators on data -/
def gAdd : D → D → Option D
  | .int i, .int j => some (.int (i + j))
  | _, _ => none
def gSubI : D → D → Option D
  | .int i, .int j => some (.int (i - j))
  | _, _ => none
def gMul : D → D → Option D
  | .int i, .int j => if (-(2 ^ 64) < j ∧ j < 2 ^ 64) ∨ (-(2 ^ 64) < i ∧ i < 2 ^ 64) then some (.int (i * j)) else none
  | _, _ => none
def gMod : D → D → Option D
  | .int i, .int j => if 0 < j then some (.int (i % j)) else none
  | _, _ => none
def gDiv : D → D → Option D
  | .int i, .int j => if 0 < j ∧ j < 2 ^ 64 then some (.int (i / j)) else none
  | _, _ => none
def gPow : D → D → Option D
  | .int i, .int j => if 0 ≤ j ∧ j ≤ 1000000 ∧ i.natAbs < 2 ^ 64 then some (.int (i ^ j.toNat)) else none
  | _, _ => none
def gLt : D → D → Option D
  | .int i, .int j => some (.bl (decide (i < j)))
  | _, _ => none
def gLe : D → D → Option D
  | .int i, .int j => some (.bl (decide (i ≤ j)))
  | _, _ => none
def gGt : D → D → Option D
  | .int i, .int j => some (.bl (decide (j < i)))
  | _, _ => none
def gGe : D → D → Option D
  | .int i, .int j => some (.bl (decide (j ≤ i)))
  | _, _ => none
def gEq : D → D → Option D
  | .int i, .int j => some (.bl (decide (i = j)))
  | d, e => if nice60 d && nice60 e then some (.bl (eqD d e)) else none
def gNe : D → D → Option D
  | .int i, .int j => some (.bl (!decide (i = j)))
  | d, e => if nice60 d && nice60 e then some (.bl (!eqD d e)) else none
def gIn : D → D → Option D
  | d, .lst es => if nice60 d && nice60 (.lst es) then some (.bl (es.any fun z => eqD z d)) else none
  | _, _ => none
def gNotIn : D → D → Option D
  | d, .lst es => if nice60 d && nice60 (.lst es) then some (.bl (!es.any fun z => eqD z d)) else none
  | _, _ => none
def isNon : D → Option Bool
  | .non => some true
  | .scr _ => none
  | .dic _ _ => none
  | .dit _ _ => none
  | _ => some false
def gIs : D → D → Option D
  | d, .non => (isNon d).map .bl
  | _, _ => none
def gIsNot : D → D → Option D
  | d, .non => (isNon d).map fun k => .bl (!k)
  | _, _ => none
def gAddS : D → D → Option D
  | .str a, .str b => if a.length + b.length ≤ 100000 then some (.str (a ++ b)) else none
  | _, _ => none
def opV (g : D → D → Option D) (μ : Mu) (x y : Vx) : Option Vx :=
  match sees μ x with
  | none => none
  | some d => match sees μ y with
    | none => none
    | some e => match g d e with
      | none => none
      | some f => some (.dat f)
/-- the place of an item -/
def ixD (n : Nat) (i : Int) : Option Nat := if 0 ≤ i then (if i < n then some i.toNat else none) else if -(n : Int) ≤ i then some (i + n).toNat else none
def atL {α : Type} (xs : List α) (i : Int) : Option α := match ixD xs.length i with
  | none => none
  | some k => xs[k]?
def fIx (μ : Mu) : Vx → Vx → Option Vx
  | .dat (.lst ds), .dat (.int n) => (atL ds n).map .dat
  | .dat (.tup ds), .dat (.int n) => (atL ds n).map .dat
  | .dat (.tpl ds), .dat (.int n) => (atL ds n).map .dat
  | .tup xs, .dat (.int n) => atL xs n
  | .ref i, .dat (.int n) => match μ[i]? with
    | some (.ld ds) => (atL ds n).map .dat
    | some (.lv xs) => atL xs n
    | _ => none
  | _, _ => none
def dtup : Vx → Option (List D)
  | .dat (.tup ds) => some ds
  | .dat (.tpl ds) => some ds
  | _ => none
def fCatT (μ : Mu) (x y : Vx) : Option Vx :=
  match dtup x, dtup y with
  | some ds, some es => if ds.length + es.length ≤ 100000 then some (.dat (.tup (ds ++ es))) else none
  | _, _ => none
/-! lists made -/
def nCat (μ : Mu) (x y : Vx) : Option (List D) :=
  match dlst μ x, dlst μ y with
  | some ds, some es => if ds.length + es.length ≤ 100000 then some (ds ++ es) else none
  | _, _ => none
def nRep (μ : Mu) (x y : Vx) : Option (List D) :=
  match dlst μ x, y with
  | some ds, .dat (.int n) => if -100000 ≤ n ∧ n ≤ 100000 ∧ ds.length * n.toNat ≤ 100000 then some (List.replicate n.toNat ds).flatten else none
  | _, _ => none
def nRg (μ : Mu) : Vx → Option (List D)
  | .dat (.int n) => if 0 ≤ n ∧ n ≤ 100000 then some ((List.range n.toNat).map fun k => .int (k : Nat)) else none
  | _ => none
def intsD : List D → Option (List Int)
  | [] => some []
  | .int b :: xs => match intsD xs with
    | some bs => some (b :: bs)
    | none => none
  | _ => none
def strsD : List D → Option (List Str)
  | [] => some []
  | .str b :: xs => match strsD xs with
    | some bs => some (b :: bs)
    | none => none
  | _ => none
def bls : List D → Option (List Bool)
  | [] => some []
  | .bl b :: xs => match bls xs with
    | some bs => some (b :: bs)
    | none => none
  | _ => none
/-- sorted(x), ints -/
def srtI (ns : List Int) : List Int := ns.mergeSort fun a b => decide (a ≤ b)
def nSortI (μ : Mu) (x : Vx) : Option (List D) := match sees μ x with
  | some (.lst ds) => match intsD ds with
    | some ns => some ((srtI ns).map .int)
    | none => none
  | _ => none
def nSortT (μ : Mu) (x : Vx) : Option (List D) := match sees μ x with
  | some (.tup ds) => match intsD ds with
    | some ns => some ((srtI ns).map .int)
    | none => none
  | _ => none
def sIxD (n d : Nat) : Option Int → Nat
  | none => d
  | some i => if i < 0 then (i + (n : Int)).toNat else min i.toNat n
def cutP {α : Type} (xs : List α) (lo hi : Option Int) : List α := (xs.drop (sIxD xs.length 0 lo)).take (sIxD xs.length xs.length hi - sIxD xs.length 0 lo)
def nSl (μ : Mu) (x : Vx) (lo hi : Option Int) : Option (List D) := match x with
  | .dat (.scr ns) => some (cutP (ns.map .int) lo hi)
  | _ => match dlst μ x with
    | some ds => some (cutP ds lo hi)
    | none => none
def fSlT (x : Vx) (lo hi : Option Int) : Option Vx := (dtup x).map fun ds => .dat (.tup (cutP ds lo hi))
/-! ### expressions -/
def mVar (i : Nat) : ME := fun τ μ => match τ[i]? with
  | some (some x) => .v x μ
  | _ => .no
def mC (d : D) : ME := fun τ μ => .v (.dat d) μ
def mU (g : Mu → Vx → Option Vx) (a : ME) : ME := fun τ μ => bnd (a τ μ) fun x μ1 => ofO (g μ1 x) μ1
def mB (g : Mu → Vx → Vx → Option Vx) (a b : ME) : ME := fun τ μ => bnd (a τ μ) fun x μ1 => bnd (b τ μ1) fun y μ2 => ofO (g μ2 x y) μ2
def isBl : Vx → Option Bool
  | .dat (.bl k) => some k
  | _ => none
def mAndV (a b : ME) : ME := fun τ μ => bnd (a τ μ) fun x μ1 => match isBl x with
  | some k => if k = true then b τ μ1 else .v (.dat (.bl false)) μ1
  | none => .no
def mOrV (a b : ME) : ME := fun τ μ => bnd (a τ μ) fun x μ1 => match isBl x with
  | some k => if k = true then .v (.dat (.bl true)) μ1 else b τ μ1
  | none => .no
def mNotV (a : ME) : ME := fun τ μ => bnd (a τ μ) fun x μ1 => match isBl x with
  | some k => .v (.dat (.bl (!k))) μ1
  | none => .no
def mIf (t : MT) (a b : ME) : ME := fun τ μ => bnd (t τ μ) fun k μ1 => if k = true then a τ μ1 else b τ μ1
def opB (g : D → D → Option D) (μ : Mu) (x y : Vx) : Option Bool := match opV g μ x y with
  | some (.dat (.bl k)) => some k
  | _ => none
def mChain (g h : D → D → Option D) (a b c : ME) : ME := fun τ μ => bnd (a τ μ) fun x μ1 => bnd (b τ μ1) fun y μ2 => match opB g μ2 x y with
  | some k => if k = true then bnd (c τ μ2) fun z μ3 => ofO (opV h μ3 y z) μ3 else .v (.dat (.bl false)) μ2
  | none => .no
def mNil : MA := fun τ μ => .v [] μ
def mCons (a : ME) (t : MA) : MA := fun τ μ => bnd (a τ μ) fun x μ1 => bnd (t τ μ1) fun xs μ2 => .v (x :: xs) μ2
def tupV (xs : List Vx) : Option Vx := match allDat xs with
  | some ds => if ds.length ≤ 100000 then some (.dat (.tup ds)) else none
  | none => if xs.length ≤ 100000 then some (.tup xs) else none
def mTup (t : MA) : ME := fun τ μ => bnd (t τ μ) fun xs μ1 => ofO (tupV xs) μ1
/-! lists made: frozen, or a new cell -/
def mDt (l : ML) : ME := fun τ μ => bnd (l τ μ) fun ds μ1 => .v (.dat (.lst ds)) μ1
def mAl (l : ML) : ME := fun τ μ => bnd (l τ μ) fun ds μ1 => .v (.ref μ1.length) (μ1 ++ [.ld ds])
def lLst (t : MA) : ML := fun τ μ => bnd (t τ μ) fun xs μ1 => match allDat xs with
  | some ds => if ds.length ≤ 100000 then .v ds μ1 else .no
  | none => .no
def lOf (g : Mu → Vx → Option (List D)) (a : ME) : ML := fun τ μ => bnd (a τ μ) fun x μ1 => ofO (g μ1 x) μ1
def lOf2 (g : Mu → Vx → Vx → Option (List D)) (a b : ME) : ML := fun τ μ => bnd (a τ μ) fun x μ1 => bnd (b τ μ1) fun y μ2 => ofO (g μ2 x y) μ2
def mLv (t : MA) : ME := fun τ μ => bnd (t τ μ) fun xs μ1 => if xs.length ≤ 100000 then .v (.ref μ1.length) (μ1 ++ [.lv xs]) else .no
/-- a built-in of seen things -/
def mCB (g : List D → Option D) (t : MA) : ME := fun τ μ => bnd (t τ μ) fun xs μ1 => match allSee μ1 xs with
  | some ds => match g ds with
    | some d => .v (.dat d) μ1
    | none => .no
  | none => .no
/-- len: of a list of values too -/
def lenV (μ : Mu) : Vx → Option Nat
  | .dat (.lst ds) => some ds.length
  | .dat (.tup ds) => some ds.length
  | .dat (.tpl ds) => some ds.length
  | .tup xs => some xs.length
  | .ref i => match μ[i]? with
    | some (.ld ds) => some ds.length
    | some (.lv xs) => some xs.length
    | _ => none
  | _ => none
def fLen (μ : Mu) (x : Vx) : Option Vx := match lenV μ x with
  | some n => some (.dat (.int n))
  | none => none
def gLenS : List D → Option D
  | [.str z] => if z.length ≤ 100000 then some (.int z.length) else none
  | _ => none
def gAll : List D → Option D
  | [.lst xs] => match bls xs with
    | some bs => some (.bl (bs.all id))
    | none => none
  | _ => none
def gAny : List D → Option D
  | [.lst xs] => match bls xs with
    | some bs => some (.bl (bs.any id))
    | none => none
  | _ => none
def gSum : List D → Option D
  | [.lst xs] => match intsD xs with
    | some bs => some (.int bs.sum)
    | none => none
  | _ => none
def gStrI : List D → Option D
  | [.int i] => if -(10 ^ 500) < i ∧ i < 10 ^ 500 then some (.str (Str.ofString (toString i))) else none
  | _ => none
def gIntB : List D → Option D
  | [.int i] => some (.int i)
  | [.bl k] => some (.int (if k then 1 else 0))
  | _ => none
def gMin2 : List D → Option D
  | [.int i, .int j] => some (.int (if j < i then j else i))
  | _ => none
def gMax2 : List D → Option D
  | [.int i, .int j] => some (.int (if j > i then j else i))
  | _ => none
/-- isinstance of a built-in class -/
def tyS : D → Option String
  | .non => some "NoneType"
  | .bl _ => some "bool"
  | .int _ => some "int"
  | .str _ => some "str"
  | .tup _ => some "tuple"
  | .tpl _ => some "tuple"
  | .lst _ => some "list"
  | _ => none
def isi1 (a n : String) : Option Bool := if n = "list" ∨ n = "tuple" ∨ n = "int" ∨ n = "bool" ∨ n = "str" then some (a == n || (a == "bool" && n == "int")) else none
/-- the built-in class of a value -/
def tyVx (μ : Mu) : Vx → Option String
  | .dat d => tyS d
  | .tup _ => some "tuple"
  | .ref i => match μ[i]? with
    | some (.ld _) => some "list"
    | some (.lv _) => some "list"
    | _ => none
def fIsi (n : String) (μ : Mu) (x : Vx) : Option Vx := match tyVx μ x with
  | some a => match isi1 a n with
    | some k => some (.dat (.bl k))
    | none => none
  | none => none
def fIsi2 (m n : String) (μ : Mu) (x : Vx) : Option Vx := match tyVx μ x with
  | some a => match isi1 a m, isi1 a n with
    | some k, some k' => some (.dat (.bl (k || k')))
    | _, _ => none
  | none => none
def isiO (c0 : String) : D → Option Bool
  | .obj c _ _ => if c = c0 then some true else none
  | d => match tyS d with
    | some a => if a = "tuple" then some false else none
    | none => none
def fIsiO (c0 : String) (μ : Mu) : Vx → Option Vx
  | .dat d => (isiO c0 d).map fun k => .dat (.bl k)
  | _ => none
/-- tuple(x): of a list the new object is known -/
def fTup (μ : Mu) (x : Vx) : Option Vx := match dlst μ x with
  | some ds => some (.dat (.tup ds))
  | none => (dtup x).map fun ds => .dat (.tup ds)
def fTupN (μ : Mu) (x : Vx) : Option Vx := (dlst μ x).map fun ds => .dat (.tpl ds)
def fNeg (μ : Mu) : Vx → Option Vx
  | .dat (.int n) => some (.dat (.int (-n)))
  | _ => none
def lkpD : List String → List D → String → Option D
  | n :: ns, d :: ds, f => if f = n then some d else lkpD ns ds f
  | _, _, _ => none
def fFld (c0 f : String) (μ : Mu) : Vx → Option Vx
  | .dat (.obj c ns xs) => if c = c0 then (lkpD ns xs f).map .dat else none
  | .ref i => match μ[i]? with
    | some (.ins c ns xs) => if c = c0 then (lkpD ns xs f).map .dat else none
    | _ => none
  | _ => none
/-! slices -/
def mNoPart : MO := fun τ μ => .v none μ
def isInt : Vx → Option Int
  | .dat (.int n) => some n
  | _ => none
def mPart (e : ME) : MO := fun τ μ => bnd (e τ μ) fun x μ1 => match isInt x with
  | some n => .v (some n) μ1
  | none => .no
def mSlT (a : ME) (l h : MO) : ME := fun τ μ => bnd (a τ μ) fun x μ1 => bnd (l τ μ1) fun lo μ2 => bnd (h τ μ2) fun hi μ3 => ofO (fSlT x lo hi) μ3
def lSl (a : ME) (l h : MO) : ML := fun τ μ => bnd (a τ μ) fun x μ1 => bnd (l τ μ1) fun lo μ2 => bnd (h τ μ2) fun hi μ3 => ofO (nSl μ3 x lo hi) μ3
def isStr : Vx → Option Str
  | .dat (.str y) => some y
  | _ => none
def isTpl : Vx → Option (List D)
  | .dat (.tpl ds) => some ds
  | _ => none
/-- x.count(y), x a tuple whose object is known -/
def cntO (ds : List D) : Vx → Option Vx
  | .dat d => if nice60 (.tpl ds) && nice60 d then some (.dat (.int ((ds.countP fun z => eqD z d : Nat) : Int))) else none
  | _ => none
def mCount (a e : ME) : ME := fun τ μ => bnd (a τ μ) fun x μ1 => match isTpl x with
  | some ds => bnd (e τ μ1) fun y μ2 => ofO (cntO ds y) μ2
  | none => .no
def joinO (a : Str) (μ : Mu) (y : Vx) : Option Vx := match dlst μ y with
  | some ds => match strsD ds with
    | some ys => if (ys.map (·.length)).sum + ys.length * a.length ≤ 1000000 then some (.dat (.str (Str.join a ys))) else none
    | none => none
  | none => none
/-- sep.join(list of texts) -/
def mJoin (a e : ME) : ME := fun τ μ => bnd (a τ μ) fun x μ1 => match isStr x with
  | some s => bnd (e τ μ1) fun y μ2 => ofO (joinO s μ2 y) μ2
  | none => .no
/-! texts -/
def fFmt (μ : Mu) : Vx → Option Vx
  | .dat (.int i) => if -(10 ^ 500) < i ∧ i < 10 ^ 500 then some (.dat (.str (Str.ofString (toString i)))) else none
  | .dat (.str y) => if y.length ≤ 100000 then some (.dat (.str y)) else none
  | _ => none
def mFmt (e : ME) : ME := mU fFmt e
def mJs : List ME → Str → MJ
  | [], acc, τ, μ => .v acc μ
  | e :: es, acc, τ, μ => bnd (e τ μ) fun x μ1 => match isStr x with
    | some y => if (acc ++ y).length ≤ 100000 then mJs es (acc ++ y) τ μ1 else .no
    | none => .no
def mJoined (es : List ME) : ME := fun τ μ => bnd (mJs es Str.empty τ μ) fun r μ1 => .v (.dat (.str r)) μ1
/-! lists changed -/
def mPop (a : ME) : ME := fun τ μ => bnd (a τ μ) fun x μ1 => match x with
  | .ref i => match μ1[i]? with
    | some (.ld ds) => match ds[ds.length - 1]? with
      | some d => .v (.dat d) (μ1.set i (.ld ds.dropLast))
      | none => .no
    | _ => .no
  | _ => .no
def popAt (x : Vx) (y : Vx) (μ : Mu) : Res Vx := match x, y with
  | .ref i, .dat (.int n) => match μ[i]? with
    | some (.ld ds) => if 0 ≤ n ∧ n < 100000 then match ds[n.toNat]? with
        | some d => .v (.dat d) (μ.set i (.ld (ds.eraseIdx n.toNat)))
        | none => .no
      else .no
    | _ => .no
  | _, _ => .no
def isLstC (μ : Mu) : Vx → Bool
  | .ref i => match μ[i]? with
    | some (.ld _) => true
    | some (.lv _) => true
    | _ => false
  | _ => false
def mPopAt (a e : ME) : ME := fun τ μ => bnd (a τ μ) fun x μ1 => if isLstC μ1 x = true then bnd (e τ μ1) fun y μ2 => popAt x y μ2 else .no
def appC (x y : Vx) (μ : Mu) : Res Vx := match x with
  | .ref i => match μ[i]? with
    | some (.ld ds) => match y with
      | .dat d => if ds.length < 100000 then .v (.dat .non) (μ.set i (.ld (ds ++ [d]))) else .no
      | _ => .no
    | some (.lv xs) => if xs.length < 100000 ∧ bel i y = true then .v (.dat .non) (μ.set i (.lv (xs ++ [y]))) else .no
    | _ => .no
  | _ => .no
def mApp (a e : ME) : ME := fun τ μ => bnd (a τ μ) fun x μ1 => if isLstC μ1 x = true then bnd (e τ μ1) fun y μ2 => appC x y μ2 else .no
def mClr (a : ME) : ME := fun τ μ => bnd (a τ μ) fun x μ1 => match x with
  | .ref i => match μ1[i]? with
    | some (.ld _) => .v (.dat .non) (μ1.set i (.ld []))
    | some (.lv _) => .v (.dat .non) (μ1.set i (.ld []))
    | _ => .no
  | _ => .no
/-! ### calls -/
def mCall (S : Sem) (t : MA) : ME := fun τ μ => bnd (t τ μ) fun xs μ1 => S xs μ1
def isInst (c0 m : String) (μ : Mu) : Vx → Bool
  | .dat (.obj c ns _) => c == c0 && !ns.contains m
  | .ref i => match μ[i]? with
    | some (.ins c ns _) => c == c0 && !ns.contains m
    | _ => false
  | _ => false
def mMeth (c0 m : String) (S : Sem) (a : ME) (t : MA) : ME := fun τ μ => bnd (a τ μ) fun x μ1 => if isInst c0 m μ1 x = true then bnd (t τ μ1) fun xs μ2 => S (x :: xs) μ2 else .no
def madeO (c0 : String) (n : Nat) (r : Vx) (μ : Mu) : Res Vx := match r with
  | .dat .non => match μ[n]? with
    | some (.ins c ns xs) => if c = c0 ∧ μ.length = n + 1 then .v (.dat (.obj c ns xs)) (μ.take n) else .no
    | _ => .no
  | _ => .no
def mkNew (c0 : String) (S : Sem) (xs : List Vx) (μ : Mu) : Res Vx := match S (.ref μ.length :: xs) (μ ++ [.ins c0 [] []]) with
  | .v r μ2 => madeO c0 μ.length r μ2
  | .ex e μ2 => .ex e (μ2.take μ.length)
  | .no => .no
def mMake (c0 : String) (S : Sem) (t : MA) : ME := fun τ μ => bnd (t τ μ) fun xs μ1 => mkNew c0 S xs μ1
def eqKind (c0 : String) : D → Bool
  | .obj c' _ _ => c' == c0
  | .tup _ => true
  | _ => false
/-- own ==, !=, len, repr -/
def isObj (c0 : String) : Vx → Option D
  | .dat (.obj c ns xs) => if c = c0 then some (.obj c ns xs) else none
  | _ => none
def ownEq (neg : Bool) (c0 : String) (S : Sem) (x y : Vx) (μ : Mu) : Res Vx := match isObj c0 x, y with
  | some d, .dat e => if eqKind c0 e = true then bnd (S [.dat d, .dat e] μ) fun r μ1 => match isBl r with
      | some k => .v (.dat (.bl (if neg = true then !k else k))) μ1
      | none => .no
    else .no
  | _, _ => .no
def mOwnEq (neg : Bool) (c0 : String) (S : Sem) (a b : ME) : ME := fun τ μ => bnd (a τ μ) fun x μ1 => bnd (b τ μ1) fun y μ2 => ownEq neg c0 S x y μ2
def mOwnLen (c0 : String) (S : Sem) (a : ME) : ME := fun τ μ => bnd (a τ μ) fun x μ1 => match isObj c0 x with
  | some d => bnd (S [.dat d] μ1) fun r μ2 => match isInt r with
    | some k => if 0 ≤ k ∧ k ≤ 1000000 then .v (.dat (.int k)) μ2 else .no
    | none => .no
  | none => .no
def mOwnRepr (c0 : String) (S : Sem) (a : ME) : ME := fun τ μ => bnd (a τ μ) fun x μ1 => match isObj c0 x with
  | some d => bnd (S [.dat d] μ1) fun r μ2 => match isStr r with
    | some k => .v (.dat (.str k)) μ2
    | none => .no
  | none => .no
/-! ### tests -/
def mB' (e : ME) : MT := fun τ μ => bnd (e τ μ) fun x μ1 => ofO (isBl x) μ1
def mYes : MT := fun τ μ => .v true μ
def mAnd (a b : MT) : MT := fun τ μ => bnd (a τ μ) fun k μ1 => if k = true then b τ μ1 else .v false μ1
def mOr (a b : MT) : MT := fun τ μ => bnd (a τ μ) fun k μ1 => if k = true then .v true μ1 else b τ μ1
def mNot (a : MT) : MT := fun τ μ => bnd (a τ μ) fun k μ1 => .v (!k) μ1
/-! ### what is walked -/
inductive It1 where
  | one (t : Vx)
  | two (t u : Vx)
/-- a row: standing values, or a list of the store -/
inductive Rw where
  | st (xs : List Vx)
  | li (i : Nat)
inductive Src where
  | its (xs : List It1)
  | sq (r : Rw)
  | en (r : Rw)
  | zp (r s : Rw)
abbrev MI := Ls → Mu → Res Src
/-- the value at a place: gone, at the end, there -/
def rwAt (r : Rw) (μ : Mu) (k : Nat) : Option (Option Vx) := match r with
  | .st xs => some xs[k]?
  | .li i => match μ[i]? with
    | some (.ld ds) => some (ds[k]?.map .dat)
    | some (.lv xs) => some xs[k]?
    | _ => none
def srcAt (s : Src) (μ : Mu) (k : Nat) : Option (Option It1) := match s with
  | .its xs => some xs[k]?
  | .sq r => match rwAt r μ k with
    | some (some x) => some (some (.one x))
    | some none => some none
    | none => none
  | .en r => match rwAt r μ k with
    | some (some x) => some (some (.two (.dat (.int (k : Nat))) x))
    | some none => some none
    | none => none
  | .zp r s => match rwAt r μ k, rwAt s μ k with
    | some (some x), some (some y) => some (some (.two x y))
    | some (some _), some none => some none
    | some none, some _ => some none
    | _, _ => none
def rngD (lo : Int) (n : Nat) : List It1 := (List.range n).map fun k => .one (.dat (.int (lo + (k : Nat))))
def dwnD (lo : Int) (n : Nat) : List It1 := (List.range n).map fun k => .one (.dat (.int (lo + (k : Nat) * (-1))))
def rng1 : List Vx → Option (List It1)
  | [.dat (.int n)] => if -1000000 ≤ n ∧ n ≤ 1000000 then some (rngD 0 n.toNat) else none
  | _ => none
def rng2 : List Vx → Option (List It1)
  | [.dat (.int m), .dat (.int n)] => if -1000000 ≤ m ∧ m ≤ 1000000 ∧ -1000000 ≤ n ∧ n ≤ 1000000 then some (rngD m (n - m).toNat) else none
  | _ => none
def rng3 : List Vx → Option (List It1)
  | [.dat (.int m), .dat (.int n), .dat (.int k)] => if k = -1 ∧ -1000000 ≤ m ∧ m ≤ 1000000 ∧ -1000000 ≤ n ∧ n ≤ 1000000 then some (dwnD m (m - n).toNat) else none
  | _ => none
def mRng (f : List Vx → Option (List It1)) (t : MA) : MI := fun τ μ => bnd (t τ μ) fun xs μ1 => match f xs with
  | some is => .v (.its is) μ1
  | none => .no
def rowOf (μ : Mu) : Vx → Option Rw
  | .dat (.lst ds) => some (.st (ds.map .dat))
  | .dat (.tup ds) => some (.st (ds.map .dat))
  | .dat (.tpl ds) => some (.st (ds.map .dat))
  | .tup xs => some (.st xs)
  | .ref i => match μ[i]? with
    | some (.ld _) => some (.li i)
    | some (.lv _) => some (.li i)
    | _ => none
  | _ => none
/-- whether a row is a list -/
def lstV : Vx → Bool
  | .dat (.lst _) => true
  | .ref _ => true
  | _ => false
def mSeqI (e : ME) : MI := fun τ μ => bnd (e τ μ) fun x μ1 => match rowOf μ1 x with
  | some r => .v (.sq r) μ1
  | none => .no
def mEnum (t : MA) : MI := fun τ μ => bnd (t τ μ) fun xs μ1 => match xs with
  | [x] => match rowOf μ1 x with
    | some r => .v (.en r) μ1
    | none => .no
  | _ => .no
def mZip (t : MA) : MI := fun τ μ => bnd (t τ μ) fun xs μ1 => match xs with
  | [x, y] => if lstV x = lstV y then match rowOf μ1 x, rowOf μ1 y with
    | some r, some s => .v (.zp r s) μ1
    | _, _ => .no
    else .no
  | _ => .no
/-! ### targets -/
abbrev MG := Vx → Ls → Mu → Option (Ls × Mu)
abbrev MGI := It1 → Ls → Mu → Option (Ls × Mu)
def stName (i : Nat) : MG := fun x τ μ => if i < τ.length then some (τ.set i (some x), μ) else none
def two : Vx → Option (Vx × Vx)
  | .dat (.tup [d, e]) => some (.dat d, .dat e)
  | .dat (.tpl [d, e]) => some (.dat d, .dat e)
  | .tup [x, y] => some (x, y)
  | _ => none
def three : Vx → Option (Vx × Vx × Vx)
  | .dat (.tup [d, e, f]) => some (.dat d, .dat e, .dat f)
  | .dat (.tpl [d, e, f]) => some (.dat d, .dat e, .dat f)
  | .tup [x, y, z] => some (x, y, z)
  | _ => none
def thn (o : Option (Ls × Mu)) (f : Ls → Mu → Option (Ls × Mu)) : Option (Ls × Mu) := match o with
  | some p => f p.1 p.2
  | none => none
def stTup2 (g h : MG) : MG := fun x τ μ => match two x with
  | some p => thn (g p.1 τ μ) fun τ1 μ1 => h p.2 τ1 μ1
  | none => none
def stTup3 (g h k : MG) : MG := fun x τ μ => match three x with
  | some p => thn (g p.1 τ μ) fun τ1 μ1 => thn (h p.2.1 τ1 μ1) fun τ2 μ2 => k p.2.2 τ2 μ2
  | none => none
/-- *a, b -/
def stStar (g h : MG) : MG := fun x τ μ => match dlst μ x with
  | some ds => if ds.length ≤ 100000 then match ds.getLast? with
      | some d => thn (g (.ref μ.length) τ (μ ++ [.ld ds.dropLast])) fun τ1 μ1 => h (.dat d) τ1 μ1
      | none => none
    else none
  | none => none
def putNP (f : String) : List String → List String
  | [] => [f]
  | g :: r => if g = f then g :: r else g :: putNP f r
def putXP (f : String) (d : D) : List String → List D → List D
  | g :: r, x :: xs => if g = f then d :: xs else x :: putXP f d r xs
  | _, _ => [d]
/-- o.f = x -/
def putFld (c0 f : String) (o x : Vx) (μ : Mu) : Option Mu := match o, x with
  | .ref i, .dat d => match μ[i]? with
    | some (.ins c ns xs) => if c = c0 ∧ ns.length < 900 then some (μ.set i (.ins c (putNP f ns) (putXP f d ns xs))) else none
    | _ => none
  | _, _ => none
def stFld (c0 f : String) (i : Nat) : MG := fun x τ μ => match τ[i]? with
  | some (some o) => match putFld c0 f o x μ with
    | some μ1 => some (τ, μ1)
    | none => none
  | _ => none
def sgName (i : Nat) : MGI
  | .one t, τ, μ => stName i t τ μ
  | _, _, _ => none
def sgTup2 (g h : MG) : MGI
  | .one t, τ, μ => stTup2 g h t τ μ
  | .two t u, τ, μ => thn (g t τ μ) fun τ1 μ1 => h u τ1 μ1
/-! ### statements -/
def bS {α : Type} (τ : Ls) (r : Res α) (f : α → Mu → So) : So := match r with
  | .v a μ => f a μ
  | .ex e μ => .ex e τ μ
  | .no => .no
def mRet (e : ME) : MS := fun τ μ => bS τ (e τ μ) fun r μ1 => .rt r μ1
def mRetN : MS := fun τ μ => .rt (.dat .non) μ
def mNext : MS := fun τ μ => .nx τ μ
def mBrk : MS := fun τ μ => .bk τ μ
def mCont : MS := fun τ μ => .ct τ μ
def mNever : MS := fun _ _ => .no
def mSeq (a b : MS) : MS := fun τ μ => match a τ μ with
  | .nx τ1 μ1 => b τ1 μ1
  | o => o
def mIfS (t : MT) (a b : MS) : MS := fun τ μ => bS τ (t τ μ) fun k μ1 => (if k = true then a else b) τ μ1
def mDrop (e : ME) : MS := fun τ μ => bS τ (e τ μ) fun _ μ1 => .nx τ μ1
def nxO : Option (Ls × Mu) → So
  | some p => .nx p.1 p.2
  | none => .no
def mAsg (e : ME) (g : MG) : MS := fun τ μ => bS τ (e τ μ) fun x μ1 => nxO (g x τ μ1)
def mPar (i j : Nat) (a b : ME) : MS := fun τ μ => bS τ (a τ μ) fun x μ1 => bS τ (b τ μ1) fun y μ2 => if i ≠ j ∧ i < τ.length ∧ j < τ.length then .nx ((τ.set i (some x)).set j (some y)) μ2 else .no
def mAug (f : Int → Int → Int) (i : Nat) (e : ME) : MS := fun τ μ => match τ[i]? with
  | some (some (.dat (.int a))) => bS τ (e τ μ) fun y μ1 => match isInt y with
    | some b => .nx (τ.set i (some (.dat (.int (f a b))))) μ1
    | none => .no
  | _ => .no
/-- xs[n] op= e -/
def setC (i : Nat) (n : Int) (d : D) (μ : Mu) : Option Mu := match μ[i]? with
  | some (.ld ds) => match ixD ds.length n with
    | some k => some (μ.set i (.ld (ds.set k d)))
    | none => none
  | _ => none
def getC (x : Vx) (n : Int) (μ : Mu) : Option Int := match x with
  | .ref i => match μ[i]? with
    | some (.ld ds) => match atL ds n with
      | some (.int a) => some a
      | _ => none
    | _ => none
  | _ => none
def refI : Vx → Nat
  | .ref i => i
  | _ => 0
def mAugS (f : Int → Int → Int) (a : ME) (n : Int) (e : ME) : MS := fun τ μ => bS τ (a τ μ) fun x μ1 => match getC x n μ1 with
  | some p => bS τ (e τ μ1) fun y μ2 => match isInt y with
    | some q => match setC (refI x) n (.int (f p q)) μ2 with
      | some μ3 => .nx τ μ3
      | none => .no
    | none => .no
  | none => .no
/-- xs[i] = e -/
def mSetI (a e b : ME) : MS := fun τ μ => bS τ (e τ μ) fun x μ1 => bS τ (a τ μ1) fun o μ2 => bS τ (b τ μ2) fun y μ3 => match x, o, isInt y with
  | .dat d, .ref i, some n => match setC i n d μ3 with
    | some μ4 => .nx τ μ4
    | none => .no
  | _, _, _ => .no
def mFldS (c0 f : String) (o e : ME) : MS := fun τ μ => bS τ (e τ μ) fun x μ1 => bS τ (o τ μ1) fun y μ2 => match putFld c0 f y x μ2 with
  | some μ3 => .nx τ μ3
  | none => .no
/-- loops -/
def runF (g : MGI) (s : MS) (src : Src) : Nat → Nat → Ls → Mu → So
  | 0, _, _, _ => .no
  | n + 1, k, τ, μ => match srcAt src μ k with
    | none => .no
    | some none => .nx τ μ
    | some (some x) => match g x τ μ with
      | none => .no
      | some p => match s p.1 p.2 with
        | .nx τ2 μ2 => runF g s src n (k + 1) τ2 μ2
        | .ct τ2 μ2 => runF g s src n (k + 1) τ2 μ2
        | .bk τ2 μ2 => .nx τ2 μ2
        | o => o
@[irreducible] def fuelN : Nat := 1100000
def mFor (i : MI) (g : MGI) (s : MS) : MS := fun τ μ => bS τ (i τ μ) fun src μ1 => runF g s src fuelN 0 τ μ1
def runW (t : MT) (s : MS) : Nat → Ls → Mu → So
  | 0, _, _ => .no
  | n + 1, τ, μ => bS τ (t τ μ) fun k μ1 => if k = true then match s τ μ1 with
      | .nx τ2 μ2 => runW t s n τ2 μ2
      | .ct τ2 μ2 => runW t s n τ2 μ2
      | .bk τ2 μ2 => .nx τ2 μ2
      | o => o
    else .nx τ μ1
def mWhile (n : Nat) (t : MT) (s : MS) : MS := runW t s n
/-- comprehensions -/
def wipeP (τ : Ls) : List Nat → Ls
  | [] => τ
  | v :: vs => (wipeP τ vs).set v none
def runC (g : MGI) (t : MT) (e : ME) (src : Src) (τ0 : Ls) : Nat → Nat → Mu → Res (List D)
  | 0, _, _ => .no
  | n + 1, k, μ => match srcAt src μ k with
    | none => .no
    | some none => .v [] μ
    | some (some x) => match g x τ0 μ with
      | none => .no
      | some p => match t p.1 p.2 with
        | .v b μ2 => if b = true then match e p.1 μ2 with
            | .v (.dat d) μ3 => match runC g t e src τ0 n (k + 1) μ3 with
              | .v ds μ4 => .v (d :: ds) μ4
              | _ => .no
            | _ => .no
          else runC g t e src τ0 n (k + 1) μ2
        | _ => .no
/-- the names of a comprehension are its own -/
def ownT (g : MGI) (vs : List Nat) : Prop := ∀ x τ μ τ' μ', g x τ μ = some (τ', μ') → wipeP τ' vs = wipeP τ vs
def lLc (i : MI) (g : MGI) (t : MT) (e : ME) (vs : List Nat) : ML := fun τ μ => bnd (i τ μ) fun src μ1 => match runC g t e src (wipeP τ vs) fuelN 0 μ1 with
  | .v ds μ2 => if ds.length ≤ 100000 then .v ds μ2 else .no
  | _ => .no
/-! ### bodies -/
def outV (μ : Mu) (n : Nat) (x : Vx) : Res Vx := match x with
  | .ref i => if i < n then .v (.ref i) (μ.take n) else match fz μ n 5 (.ref i) with
    | some d => .v (.dat d) (μ.take n)
    | none => .no
  | x => match fz μ n 5 x with
    | some d => .v (.dat d) (μ.take n)
    | none => .no
/-- a def of k parameters and n names; what it hands back is frozen -/
def body (k n : Nat) (s : MS) : Sem := fun as μ => if as.length = k then
    match s (as.map some ++ List.replicate (n - k) none) μ with
      | .nx _ μ1 => .v (.dat .non) (μ1.take μ.length)
      | .rt r μ1 => outV μ1 μ.length r
      | .ex e _ μ1 => .ex e (μ1.take μ.length)
      | _ => .no
  else .no
/-- what it hands back is a new list of the caller's -/
def outN (μ : Mu) (n : Nat) (x : Vx) : Res Vx := match x with
  | .ref i => if i < n then .no else match μ[i]? with
    | some (.ld ds) => .v (.ref n) (μ.take n ++ [.ld ds])
    | _ => .no
  | _ => .no
def bodyN (k n : Nat) (s : MS) : Sem := fun as μ => if as.length = k then
    match s (as.map some ++ List.replicate (n - k) none) μ with
      | .rt r μ1 => outN μ1 μ.length r
      | .ex e _ μ1 => .ex e (μ1.take μ.length)
      | _ => .no
  else .no
end Y
set_option Elab.async false
set_option linter.all false
set_option maxRecDepth 100000
set_option maxHeartbeats 0
namespace Y
open PySem (Str)
def m__law_bag : MS := (mSeq (mAsg (mC (.int 53)) (stName 1))
    (mSeq (mFor (mSeqI (mDt (lSl (mVar 0) mNoPart (mPart (mC (.int 63)))))) (sgName 2)
    (mAsg (mB (opV gMod) (mB (opV gAdd) (mB (opV gAdd) (mB (opV gMul) (mVar 1) (mC (.int 69069))) (mVar 2)) (mC (.int 11))) (mC (.int 2147483629))) (stName 1)))
    (mRet (mAl (lLst (mCons (mDt (lOf its (mDt (lSl (mVar 0) mNoPart (mPart (mC (.int 63))))))) (mCons (mC (.int 0)) (mCons (mC (.int 0)) (mCons (mVar 1) (mCons (mC (.int 0)) mNil))))))))))
def sem__law_bag : Sem := bodyN 1 3 m__law_bag
def m__law_pull : MS := (mSeq (mAugS (fun i j => i + j) (mVar 0) 4 (mC (.int 1)))
    (mSeq (mIfS (mB' (mB (opV gGt) (mB fIx (mVar 0) (mC (.int 2))) (mC (.int 0))))
    (mSeq (mAsg (mB fIx (mVar 0) (mC (.int 2))) (stName 2))
    (mSeq (mSetI (mVar 0) (mB (opV gDiv) (mVar 2) (mVar 1)) (mC (.int 2)))
    (mRet (mB (opV gMod) (mVar 2) (mVar 1)))))
    mNext)
    (mSeq (mAsg (mB fIx (mVar 0) (mC (.int 3))) (stName 3))
    (mSeq (mIfS (mB' (mB (opV gLt) (mB fIx (mVar 0) (mC (.int 1))) (mU fLen (mB fIx (mVar 0) (mC (.int 0))))))
    (mSeq (mAsg (mB fIx (mB fIx (mVar 0) (mC (.int 0))) (mB fIx (mVar 0) (mC (.int 1)))) (stName 3))
    (mAugS (fun i j => i + j) (mVar 0) 1 (mC (.int 1))))
    mNext)
    (mSeq (mIfS (mB' (mB (opV gGe) (mVar 3) (mB (opV gPow) (mC (.int 10)) (mC (.int 18)))))
    (mSeq (mSetI (mVar 0) (mB (opV gDiv) (mVar 3) (mVar 1)) (mC (.int 2)))
    (mRet (mB (opV gMod) (mVar 3) (mVar 1))))
    mNext)
    (mSeq (mAsg (mB (opV gMod) (mB (opV gAdd) (mB (opV gAdd) (mB (opV gAdd) (mB (opV gMul) (mVar 3) (mC (.int 48271))) (mB (opV gMul) (mB fIx (mVar 0) (mC (.int 3))) (mC (.int 40503)))) (mB (opV gMul) (mB fIx (mVar 0) (mC (.int 4))) (mC (.int 69621)))) (mC (.int 9176))) (mC (.int 2147483629))) (stName 4))
    (mSeq (mAsg (mB (opV gMod) (mB (opV gAdd) (mB (opV gAdd) (mB (opV gMul) (mVar 4) (mB (opV gAdd) (mB (opV gMod) (mVar 4) (mC (.int 65521))) (mC (.int 13)))) (mB (opV gMul) (mB fIx (mVar 0) (mC (.int 4))) (mC (.int 40692)))) (mB (opV gMod) (mB fIx (mVar 0) (mC (.int 3))) (mC (.int 104729)))) (mC (.int 998244353))) (stName 5))
    (mSeq (mSetI (mVar 0) (mB (opV gMod) (mB (opV gAdd) (mB (opV gMul) (mB fIx (mVar 0) (mC (.int 3))) (mC (.int 16807))) (mVar 5)) (mC (.int 2147483563))) (mC (.int 3)))
    (mRet (mB (opV gMod) (mB (opV gDiv) (mVar 5) (mC (.int 7))) (mVar 1)))))))))))
def sem__law_pull : Sem := body 2 6 m__law_pull
def m__law_mixed : MS := (mSeq (mPar 2 3 (mAl (lOf its (mVar 1))) (mAl (lLst mNil)))
    (mSeq (mFor (mRng rng1 (mCons (mU fLen (mVar 1)) mNil)) (sgName 4)
    (mDrop (mApp (mVar 3) (mPopAt (mVar 2) (mCall sem__law_pull (mCons (mVar 0) (mCons (mU fLen (mVar 2)) mNil)))))))
    (mRet (mVar 3))))
def sem__law_mixed : Sem := body 2 5 m__law_mixed
def m__law_web : MS := (mSeq (mAsg (mB (opV gAdd) (mC (.int 1)) (mCall sem__law_pull (mCons (mVar 0) (mCons (mVar 1) mNil)))) (stName 3))
    (mSeq (mAsg (mAl (lLc (mRng rng1 (mCons (mVar 3) mNil)) (sgName 6) mYes (mTup (mCons (mVar 6) (mCons (mCall sem__law_pull (mCons (mVar 0) (mCons (mVar 3) mNil))) mNil))) [6])) (stName 4))
    (mSeq (mFor (mRng rng1 (mCons (mCall sem__law_pull (mCons (mVar 0) (mCons (mB (opV gAdd) (mVar 2) (mC (.int 1))) mNil))) mNil)) (sgName 5)
    (mDrop (mApp (mVar 4) (mTup (mCons (mCall sem__law_pull (mCons (mVar 0) (mCons (mVar 3) mNil))) (mCons (mCall sem__law_pull (mCons (mVar 0) (mCons (mVar 3) mNil))) mNil))))))
    (mRet (mTup (mCons (mVar 3) (mCons (mU fTup (mCall sem__law_mixed (mCons (mVar 0) (mCons (mVar 4) mNil)))) mNil)))))))
def sem__law_web : Sem := body 3 7 m__law_web
def m__law_of : MS := (mRet (mB fIx (mVar 1) (mCall sem__law_pull (mCons (mVar 0) (mCons (mU fLen (mVar 1)) mNil)))))
def sem__law_of : Sem := body 2 2 m__law_of
def m__law_outs : MS := (mRet (mDt (lLc (mEnum (mCons (mB fIx (mVar 0) (mC (.int 1))) mNil)) (sgTup2 (stName 2) (stName 3)) (mB' (mB (opV gEq) (mB fIx (mVar 3) (mC (.int 0))) (mVar 1))) (mVar 2) [2, 3])))
def sem__law_outs : Sem := body 2 4 m__law_outs
def m__law_on : MS := (mRet (mCall sem__law_outs (mCons (mVar 0) (mCons (mB fIx (mB fIx (mB fIx (mVar 0) (mC (.int 1))) (mVar 1)) (mC (.int 1))) mNil))))
def sem__law_on : Sem := body 2 2 m__law_on
def m__law_walk : MS := (mSeq (mAsg (mCall sem__law_pull (mCons (mVar 0) (mCons (mU fLen (mB fIx (mVar 1) (mC (.int 1)))) mNil))) (stName 2))
    (mSeq (mAsg (mAl (lLst (mCons (mVar 2) mNil))) (stName 3))
    (mSeq (mFor (mRng rng1 (mCons (mCall sem__law_pull (mCons (mVar 0) (mCons (mC (.int 5)) mNil))) mNil)) (sgName 4)
    (mDrop (mApp (mVar 3) (mCall sem__law_of (mCons (mVar 0) (mCons (mCall sem__law_on (mCons (mVar 1) (mCons (mB fIx (mVar 3) (mU fNeg (mC (.int 1)))) mNil))) mNil))))))
    (mSeq (mAsg (mAl (lLc (mSeqI (mVar 3)) (sgName 7) mYes (mB fIx (mB fIx (mB fIx (mVar 1) (mC (.int 1))) (mVar 7)) (mC (.int 0))) [7])) (stName 5))
    (mSeq (mWhile 100000 (mB' (mB (opV gNotIn) (mB fIx (mB fIx (mB fIx (mVar 1) (mC (.int 1))) (mB fIx (mVar 3) (mU fNeg (mC (.int 1))))) (mC (.int 1))) (mVar 5)))
    (mSeq (mDrop (mApp (mVar 3) (mCall sem__law_of (mCons (mVar 0) (mCons (mCall sem__law_on (mCons (mVar 1) (mCons (mB fIx (mVar 3) (mU fNeg (mC (.int 1)))) mNil))) mNil)))))
    (mDrop (mApp (mVar 5) (mB fIx (mB fIx (mB fIx (mVar 1) (mC (.int 1))) (mB fIx (mVar 3) (mU fNeg (mC (.int 1))))) (mC (.int 0)))))))
    (mSeq (mAsg (mB fIx (mDt (lLc (mEnum (mCons (mVar 5) mNil)) (sgTup2 (stName 4) (stName 8)) (mB' (mB (opV gEq) (mVar 8) (mB fIx (mB fIx (mB fIx (mVar 1) (mC (.int 1))) (mB fIx (mVar 3) (mU fNeg (mC (.int 1))))) (mC (.int 1))))) (mVar 4) [4, 8])) (mU fNeg (mC (.int 1)))) (stName 6))
    (mRet (mTup (mCons (mDt (lSl (mVar 3) mNoPart (mPart (mVar 6)))) (mCons (mDt (lSl (mVar 3) (mPart (mVar 6)) mNoPart)) mNil))))))))))
def sem__law_walk : Sem := body 2 9 m__law_walk
def m__law_beats : MS := (mSeq (mAsg (mVar 0) (stTup2 (stName 2) (stName 3)))
    (mSeq (mAsg (mDt (lOf its (mVar 2))) (stName 4))
    (mSeq (mWhile 100000 (mB' (mB (opV gLt) (mU fLen (mVar 4)) (mVar 1)))
    (mAsg (mDt (lOf2 nCat (mVar 4) (mDt (lOf its (mVar 3))))) (stName 4)))
    (mRet (mDt (lSl (mVar 4) mNoPart (mPart (mVar 1))))))))
def sem__law_beats : Sem := body 2 5 m__law_beats
def m_is_within : MS := (mRet (mAndV (mU (fIsi "int") (mVar 0)) (mAndV (mNotV (mU (fIsi "bool") (mVar 0))) (mChain gLe gLe (mVar 1) (mVar 0) (mVar 2)))))
def sem_is_within : Sem := body 3 3 m_is_within
def m_Web_has_arrow : MS := (mRet (mCall sem_is_within (mCons (mVar 1) (mCons (mC (.int 0)) (mCons (mB (opV gSubI) (mU fLen (mU (fFld "Web" "pairs") (mVar 0))) (mC (.int 1))) mNil)))))
def sem_Web_has_arrow : Sem := body 2 2 m_Web_has_arrow
def m_Web_first_wrong : MS := (mSeq (mFor (mEnum (mCons (mVar 1) mNil)) (sgTup2 (stName 2) (stName 3))
    (mIfS (mOr (mNot (mB' (mMeth "Web" "has_arrow" sem_Web_has_arrow (mVar 0) (mCons (mVar 3) mNil)))) (mAnd (mB' (mB (opV gGt) (mVar 2) (mC (.int 0)))) (mB' (mB (opV gNe) (mB fIx (mB fIx (mU (fFld "Web" "pairs") (mVar 0)) (mB fIx (mVar 1) (mB (opV gSubI) (mVar 2) (mC (.int 1))))) (mC (.int 1))) (mB fIx (mB fIx (mU (fFld "Web" "pairs") (mVar 0)) (mVar 3)) (mC (.int 0)))))))
    (mRet (mVar 2))
    mNext))
    (mRet (mC .non)))
def sem_Web_first_wrong : Sem := body 2 4 m_Web_first_wrong
def m_Web_end : MS := (mSeq (mIfS (mNot (mB' (mMeth "Web" "has_arrow" sem_Web_has_arrow (mVar 0) (mCons (mVar 1) mNil))))
    mNever
    mNext)
    (mRet (mB fIx (mB fIx (mU (fFld "Web" "pairs") (mVar 0)) (mVar 1)) (mC (.int 1)))))
def sem_Web_end : Sem := body 2 2 m_Web_end
def m_Web_begin : MS := (mSeq (mIfS (mNot (mB' (mMeth "Web" "has_arrow" sem_Web_has_arrow (mVar 0) (mCons (mVar 1) mNil))))
    mNever
    mNext)
    (mRet (mB fIx (mB fIx (mU (fFld "Web" "pairs") (mVar 0)) (mVar 1)) (mC (.int 0)))))
def sem_Web_begin : Sem := body 2 2 m_Web_begin
def m_shortest_ring : MS := (mSeq (mFor (mRng rng2 (mCons (mC (.int 1)) (mCons (mU fLen (mVar 0)) mNil))) (sgName 1)
    (mIfS (mAnd (mB' (mB (opV gEq) (mB (opV gMod) (mU fLen (mVar 0)) (mVar 1)) (mC (.int 0)))) (mB' (mB (opV gEq) (mVar 0) (mDt (lOf2 nRep (mDt (lSl (mVar 0) mNoPart (mPart (mVar 1)))) (mB (opV gDiv) (mU fLen (mVar 0)) (mVar 1)))))))
    (mRet (mDt (lSl (mVar 0) mNoPart (mPart (mVar 1)))))
    mNext))
    (mRet (mVar 0)))
def sem_shortest_ring : Sem := body 1 2 m_shortest_ring
def m_drawn_in : MS := (mSeq (mPar 0 1 (mDt (lOf its (mVar 0))) (mCall sem_shortest_ring (mCons (mDt (lOf its (mVar 1))) mNil)))
    (mSeq (mWhile 100000 (mAnd (mB' (mB (opV gGt) (mU fLen (mVar 0)) (mC (.int 0)))) (mB' (mB (opV gEq) (mB fIx (mVar 0) (mU fNeg (mC (.int 1)))) (mB fIx (mVar 1) (mU fNeg (mC (.int 1)))))))
    (mSeq (mAsg (mVar 0) (stStar (stName 0) (stName 2)))
    (mAsg (mDt (lOf2 nCat (mDt (lLst (mCons (mVar 2) mNil))) (mDt (lSl (mVar 1) mNoPart (mPart (mU fNeg (mC (.int 1)))))))) (stName 1))))
    (mRet (mTup (mCons (mU fTup (mVar 0)) (mCons (mU fTup (mVar 1)) mNil))))))
def sem_drawn_in : Sem := body 2 3 m_drawn_in
def m_Walker___init__ : MS := (mSeq (mAsg (mDt (lOf2 nCat (mDt (lOf its (mVar 2))) (mDt (lOf its (mVar 3))))) (stName 4))
    (mSeq (mAsg (mMeth "Web" "first_wrong" sem_Web_first_wrong (mVar 1) (mCons (mVar 4) mNil)) (stName 5))
    (mSeq (mIfS (mB' (mB (opV gIsNot) (mVar 5) (mC .non)))
    mNever
    mNext)
    (mSeq (mIfS (mOr (mB' (mB (opV gEq) (mU fLen (mVar 3)) (mC (.int 0)))) (mB' (mB (opV gNe) (mMeth "Web" "end" sem_Web_end (mVar 1) (mCons (mB fIx (mVar 4) (mU fNeg (mC (.int 1)))) mNil)) (mMeth "Web" "begin" sem_Web_begin (mVar 1) (mCons (mB fIx (mVar 3) (mC (.int 0))) mNil)))))
    mNever
    mNext)
    (mSeq (mFldS "Walker" "home" (mVar 0) (mVar 1))
    (mAsg (mCall sem_drawn_in (mCons (mVar 2) (mCons (mVar 3) mNil))) (stTup2 (stFld "Walker" "front" 0) (stFld "Walker" "round" 0))))))))
def sem_Walker___init__ : Sem := body 4 6 m_Walker___init__
def m_is_listed : MS := (mRet (mU (fIsi2 "list" "tuple") (mVar 0)))
def sem_is_listed : Sem := body 1 1 m_is_listed
def m_is_pair : MS := (mRet (mAndV (mCall sem_is_listed (mCons (mVar 0) mNil)) (mAndV (mB (opV gEq) (mU fLen (mVar 0)) (mC (.int 2))) (mCB gAll (mCons (mDt (lLc (mSeqI (mVar 0)) (sgName 2) mYes (mCall sem_is_within (mCons (mVar 2) (mCons (mC (.int 0)) (mCons (mB (opV gSubI) (mVar 1) (mC (.int 1))) mNil)))) [2])) mNil)))))
def sem_is_pair : Sem := body 2 3 m_is_pair
def m_Web___init__ : MS := (mSeq (mIfS (mNot (mB' (mCall sem_is_within (mCons (mVar 1) (mCons (mC (.int 1)) (mCons (mC (.int 100)) mNil))))))
    mNever
    mNext)
    (mSeq (mFor (mEnum (mCons (mVar 2) mNil)) (sgTup2 (stName 3) (stName 4))
    (mIfS (mOr (mB' (mB (opV gEq) (mVar 3) (mC (.int 400)))) (mNot (mB' (mCall sem_is_pair (mCons (mVar 4) (mCons (mVar 1) mNil))))))
    mNever
    mNext))
    (mSeq (mFldS "Web" "size" (mVar 0) (mVar 1))
    (mSeq (mFldS "Web" "pairs" (mVar 0) (mU fTupN (mDt (lLc (mSeqI (mVar 2)) (sgName 4) mYes (mU fTup (mVar 4)) [4]))))
    (mSeq (mFldS "Web" "leaving" (mVar 0) (mDt (lLc (mRng rng1 (mCons (mVar 1) mNil)) (sgName 5) mYes (mDt (lLc (mEnum (mCons (mU (fFld "Web" "pairs") (mVar 0)) mNil)) (sgTup2 (stName 3) (stName 4)) (mB' (mB (opV gEq) (mB fIx (mVar 4) (mC (.int 0))) (mVar 5))) (mVar 3) [3, 4])) [5])))
    (mSeq (mFldS "Web" "coming" (mVar 0) (mDt (lLc (mRng rng1 (mCons (mVar 1) mNil)) (sgName 5) mYes (mDt (lLc (mEnum (mCons (mU (fFld "Web" "pairs") (mVar 0)) mNil)) (sgTup2 (stName 3) (stName 4)) (mB' (mB (opV gEq) (mB fIx (mVar 4) (mC (.int 1))) (mVar 5))) (mVar 3) [3, 4])) [5])))
    (mIfS (mB' (mB (opV gIn) (mDt (lLst mNil)) (mU (fFld "Web" "leaving") (mVar 0))))
    mNever
    mNext)))))))
def sem_Web___init__ : Sem := body 3 6 m_Web___init__
def m__law_made : MS := (mRet (mMake "Web" sem_Web___init__ (mCons (mB fIx (mVar 0) (mC (.int 0))) (mCons (mDt (lOf its (mB fIx (mVar 0) (mC (.int 1))))) mNil))))
def sem__law_made : Sem := body 1 1 m__law_made
def m__law_walker : MS := (mRet (mMake "Walker" sem_Walker___init__ (mCons (mCall sem__law_made (mCons (mVar 0) mNil)) (mCons (mDt (lOf its (mB fIx (mVar 1) (mC (.int 0))))) (mCons (mDt (lOf its (mB fIx (mVar 1) (mC (.int 1))))) mNil)))))
def sem__law_walker : Sem := body 2 2 m__law_walker
def m_Web___eq__ : MS := (mRet (mAndV (mU (fIsiO "Web") (mVar 1)) (mAndV (mB (opV gEq) (mU (fFld "Web" "size") (mVar 0)) (mU (fFld "Web" "size") (mVar 1))) (mB (opV gEq) (mU (fFld "Web" "pairs") (mVar 0)) (mU (fFld "Web" "pairs") (mVar 1))))))
def sem_Web___eq__ : Sem := body 2 2 m_Web___eq__
def m_Walker___eq__ : MS := (mSeq (mIfS (mOr (mNot (mB' (mU (fIsiO "Walker") (mVar 1)))) (mB' (mOwnEq true "Web" sem_Web___eq__ (mU (fFld "Walker" "home") (mVar 0)) (mU (fFld "Walker" "home") (mVar 1)))))
    (mRet (mC (.bl false)))
    mNext)
    (mRet (mAndV (mB (opV gEq) (mU (fFld "Walker" "front") (mVar 0)) (mU (fFld "Walker" "front") (mVar 1))) (mB (opV gEq) (mU (fFld "Walker" "round") (mVar 0)) (mU (fFld "Walker" "round") (mVar 1))))))
def sem_Walker___eq__ : Sem := body 2 2 m_Walker___eq__
def m_Walker_arrow_at : MS := (mSeq (mAsg (mU fLen (mU (fFld "Walker" "front") (mVar 0))) (stName 2))
    (mRet (mIf (mB' (mB (opV gLt) (mVar 1) (mVar 2))) (mB fIx (mU (fFld "Walker" "front") (mVar 0)) (mVar 1)) (mB fIx (mU (fFld "Walker" "round") (mVar 0)) (mB (opV gMod) (mB (opV gSubI) (mVar 1) (mVar 2)) (mU fLen (mU (fFld "Walker" "round") (mVar 0))))))))
def sem_Walker_arrow_at : Sem := body 2 3 m_Walker_arrow_at
def m_Walker_arrow : MS := (mSeq (mIfS (mB' (mB (opV gLt) (mVar 1) (mC (.int 0))))
    mNever
    mNext)
    (mRet (mMeth "Walker" "arrow_at" sem_Walker_arrow_at (mVar 0) (mCons (mVar 1) mNil))))
def sem_Walker_arrow : Sem := body 2 2 m_Walker_arrow
def m_law : MS := (mSeq (mAsg (mCall sem__law_bag (mCons (mVar 0) mNil)) (stName 1))
    (mSeq (mFor (mRng rng1 (mCons (mC (.int 6)) mNil)) (sgName 2)
    (mSeq (mAsg (mCall sem__law_web (mCons (mVar 1) (mCons (mC (.int 3)) (mCons (mC (.int 3)) mNil)))) (stName 3))
    (mSeq (mPar 4 5 (mCall sem__law_walk (mCons (mVar 1) (mCons (mVar 3) mNil))) (mCall sem__law_walk (mCons (mVar 1) (mCons (mVar 3) mNil))))
    (mSeq (mIfS (mB' (mB (opV gEq) (mCall sem__law_pull (mCons (mVar 1) (mCons (mC (.int 3)) mNil))) (mC (.int 0))))
    (mAsg (mTup (mCons (mCall sem__law_beats (mCons (mVar 4) (mCons (mB (opV gAdd) (mU fLen (mB fIx (mVar 4) (mC (.int 0)))) (mU fLen (mB fIx (mVar 4) (mC (.int 1))))) mNil))) (mCons (mDt (lOf2 nRep (mDt (lOf its (mB fIx (mVar 4) (mC (.int 1))))) (mC (.int 2)))) mNil))) (stName 5))
    (mIfS (mB' (mB (opV gEq) (mCall sem__law_pull (mCons (mVar 1) (mCons (mC (.int 2)) mNil))) (mC (.int 0))))
    (mSeq (mAsg (mB fIx (mB fIx (mB fIx (mVar 3) (mC (.int 1))) (mB fIx (mB fIx (mVar 4) (mC (.int 1))) (mU fNeg (mC (.int 1))))) (mC (.int 1))) (stName 6))
    (mSeq (mAsg (mDt (lOf2 nCat (mDt (lLc (mSeqI (mCall sem__law_outs (mCons (mVar 3) (mCons (mVar 6) mNil)))) (sgName 13) (mB' (mB (opV gEq) (mB fIx (mB fIx (mB fIx (mVar 3) (mC (.int 1))) (mVar 13)) (mC (.int 1))) (mVar 6))) (mVar 13) [13])) (mDt (lSl (mB fIx (mVar 4) (mC (.int 1))) mNoPart (mPart (mC (.int 1))))))) (stName 7))
    (mSeq (mAsg (mTup (mCons (mDt (lOf2 nCat (mCall sem__law_beats (mCons (mVar 4) (mCons (mB (opV gAdd) (mU fLen (mB fIx (mVar 4) (mC (.int 0)))) (mB (opV gMul) (mC (.int 2)) (mU fLen (mB fIx (mVar 4) (mC (.int 1)))))) mNil))) (mDt (lSl (mVar 7) mNoPart (mPart (mC (.int 1))))))) (mCons (mDt (lLst mNil)) mNil))) (stName 5))
    (mAsg (mIf (mB' (mB (opV gEq) (mB fIx (mB fIx (mB fIx (mVar 3) (mC (.int 1))) (mB fIx (mVar 7) (mC (.int 0)))) (mC (.int 1))) (mVar 6))) (mTup (mCons (mB fIx (mVar 5) (mC (.int 0))) (mCons (mDt (lSl (mVar 7) mNoPart (mPart (mC (.int 1))))) mNil))) (mVar 4)) (stName 5)))))
    mNext))
    (mSeq (mAsg (mB (opV gAdd) (mB (opV gAdd) (mB (opV gAdd) (mU fLen (mB fIx (mVar 4) (mC (.int 0)))) (mU fLen (mB fIx (mVar 5) (mC (.int 0))))) (mU fLen (mB fIx (mVar 4) (mC (.int 1))))) (mU fLen (mB fIx (mVar 5) (mC (.int 1))))) (stName 8))
    (mSeq (mAsg (mB (opV gEq) (mCall sem__law_beats (mCons (mVar 4) (mCons (mVar 8) mNil))) (mCall sem__law_beats (mCons (mVar 5) (mCons (mVar 8) mNil)))) (stName 9))
    (mSeq (mPar 10 11 (mCall sem__law_walker (mCons (mVar 3) (mCons (mVar 4) mNil))) (mCall sem__law_walker (mCons (mVar 3) (mCons (mVar 5) mNil))))
    (mSeq (mIfS (mOr (mB' (mB (opV gNe) (mOwnEq false "Walker" sem_Walker___eq__ (mVar 10) (mVar 11)) (mVar 9))) (mOr (mB' (mB (opV gNe) (mOwnEq false "Walker" sem_Walker___eq__ (mVar 11) (mVar 10)) (mVar 9))) (mB' (mB (opV gEq) (mOwnEq true "Walker" sem_Walker___eq__ (mVar 10) (mVar 11)) (mVar 9)))))
    (mRet (mC (.bl false)))
    mNext)
    (mSeq (mAsg (mTup (mCons (mB fIx (mVar 3) (mC (.int 0))) (mCons (mB fCatT (mB fIx (mVar 3) (mC (.int 1))) (mTup (mCons (mTup (mCons (mC (.int 0)) (mCons (mC (.int 0)) mNil))) mNil))) mNil))) (stName 12))
    (mSeq (mIfS (mOr (mB' (mOwnEq false "Walker" sem_Walker___eq__ (mVar 10) (mCall sem__law_walker (mCons (mVar 12) (mCons (mVar 4) mNil))))) (mB' (mOwnEq true "Walker" sem_Walker___eq__ (mVar 10) (mCall sem__law_walker (mCons (mVar 3) (mCons (mVar 4) mNil))))))
    (mRet (mC (.bl false)))
    mNext)
    (mIfS (mAnd (mB' (mVar 9)) (mB' (mB (opV gNe) (mMeth "Walker" "arrow" sem_Walker_arrow (mVar 10) (mCons (mB (opV gPow) (mC (.int 10)) (mC (.int 20))) mNil)) (mMeth "Walker" "arrow" sem_Walker_arrow (mVar 11) (mCons (mB (opV gPow) (mC (.int 10)) (mC (.int 20))) mNil)))))
    (mRet (mC (.bl false)))
    mNext)))))))))))
    (mRet (mC (.bl true)))))
def sem_law : Sem := body 1 14 m_law
namespace Q
def lstO (xs : List Vx) : Option (List D) := match allDat xs with
  | some ds => if ds.length ≤ 100000 then some ds else none
  | none => none
def cbO (g : List D → Option D) (μ : Mu) (xs : List Vx) : Option D := match allSee μ xs with
  | some ds => g ds
  | none => none
def popO (μ : Mu) (x : Vx) : Option (D × Mu) := match x with
  | .ref i => match μ[i]? with
    | some (.ld ds) => match ds[ds.length - 1]? with
      | some d => some (d, μ.set i (.ld ds.dropLast))
      | none => none
    | _ => none
  | _ => none
theorem fuel_lt {n : Nat} (h : n ≤ 1000000) : n < 0 + fuelN := by
  have : fuelN = 1100000 := by unfold fuelN; rfl
  omega
end Q
namespace RR
open Q
/-! Q1: what a run of the pure interpreter comes to, step by step. -/
def WR {α : Type} (o : Res α) (Q : α → Mu → Prop) (X : Exc → Mu → Prop) : Prop := match o with
  | .v r μ => Q r μ
  | .ex e μ => X e μ
  | .no => False
def WS (o : So) (N : Ls → Mu → Prop) (R : Vx → Mu → Prop) (B C : Ls → Mu → Prop) (X : Exc → Mu → Prop) : Prop := match o with
  | .nx τ μ => N τ μ
  | .rt r μ => R r μ
  | .bk τ μ => B τ μ
  | .ct τ μ => C τ μ
  | .ex e τ μ => X e μ
  | .no => False
def WM {α : Type} (o : Option α) (Q : α → Prop) : Prop := match o with
  | some x => Q x
  | none => False
theorem WM_some {α : Type} {x : α} {Q : α → Prop} (h : Q x) : WM (some x) Q := h
theorem WM_eq {α : Type} {o : Option α} {x : α} {Q : α → Prop} (e : o = some x) (h : Q x) : WM o Q := by subst e; exact h
theorem WR_eq {α : Type} {o : Res α} {r : α} {μ : Mu} {X : Exc → Mu → Prop} (hx : ∀ e μ, ¬ X e μ) (h : WR o (fun r' μ' => r' = r ∧ μ' = μ) X) : o = .v r μ := by
  cases o with
  | v x y => obtain ⟨rfl, rfl⟩ := h; rfl
  | ex e μ => exact (hx _ _ h).elim
  | no => exact h.elim
theorem WR_get {α : Type} {o : Res α} {P : α → Mu → Prop} (h : WR o P (fun _ _ => False)) : ∃ r μ, o = .v r μ ∧ P r μ := by
  cases o with
  | v x y => exact ⟨_, _, rfl, h⟩
  | ex e μ => exact h.elim
  | no => exact h.elim
theorem WR_mono {α : Type} {o : Res α} {P Q : α → Mu → Prop} {X Y : Exc → Mu → Prop} (h : WR o P X) (k : ∀ r μ, P r μ → Q r μ) (kx : ∀ e μ, X e μ → Y e μ) : WR o Q Y := by
  cases o with
  | v x y => exact k _ _ h
  | ex e μ => exact kx _ _ h
  | no => exact h
theorem WR_of {α : Type} {o : Res α} {r : α} {μ : Mu} {Q : α → Mu → Prop} {X : Exc → Mu → Prop} (e : o = .v r μ) (h : Q r μ) : WR o Q X := by subst e; exact h
theorem WR_val {α : Type} {o : Res α} {P Q : α → Mu → Prop} {X : Exc → Mu → Prop} (h : WR o P (fun _ _ => False)) (k : ∀ r μ, P r μ → Q r μ) : WR o Q X := WR_mono h k fun _ _ z => z.elim
theorem WR_v {α : Type} {r : α} {μ : Mu} {Q : α → Mu → Prop} {X : Exc → Mu → Prop} (h : Q r μ) : WR (.v r μ) Q X := h
theorem WR_bnd {α β : Type} {r : Res α} {f : α → Mu → Res β} {Q : β → Mu → Prop} {X : Exc → Mu → Prop} (k : WR r (fun a μ => WR (f a μ) Q X) X) : WR (bnd r f) Q X := by
  cases r with
  | v a μ => exact k
  | ex e μ => exact k
  | no => exact k
theorem WR_ofO {α : Type} {o : Option α} {μ : Mu} {Q : α → Mu → Prop} {X : Exc → Mu → Prop} (k : WM o fun a => Q a μ) : WR (ofO o μ) Q X := by
  cases o with
  | none => exact k
  | some a => exact k
theorem WM_mono {α : Type} {o : Option α} {P Q : α → Prop} (h : WM o P) (k : ∀ x, P x → Q x) : WM o Q := by
  cases o with
  | none => exact h
  | some a => exact k _ h
theorem WS_mono {o : So} {N N' : Ls → Mu → Prop} {R R' : Vx → Mu → Prop} {B B' C C' : Ls → Mu → Prop} {X X' : Exc → Mu → Prop} (h : WS o N R B C X) (n : ∀ τ μ, N τ μ → N' τ μ) (r : ∀ x μ, R x μ → R' x μ) (b : ∀ τ μ, B τ μ → B' τ μ) (c : ∀ τ μ, C τ μ → C' τ μ) (x : ∀ e μ, X e μ → X' e μ) : WS o N' R' B' C' X' := by
  cases o with
  | nx => exact n _ _ h
  | rt => exact r _ _ h
  | bk => exact b _ _ h
  | ct => exact c _ _ h
  | ex => exact x _ _ h
  | no => exact h
theorem WS_nx {τ : Ls} {μ : Mu} {N : Ls → Mu → Prop} {R : Vx → Mu → Prop} {B C : Ls → Mu → Prop} {X : Exc → Mu → Prop} (k : N τ μ) : WS (.nx τ μ) N R B C X := k
theorem WS_bS {α : Type} {τ : Ls} {r : Res α} {f : α → Mu → So} {N : Ls → Mu → Prop} {R : Vx → Mu → Prop} {B C : Ls → Mu → Prop} {X : Exc → Mu → Prop} (k : WR r (fun a μ => WS (f a μ) N R B C X) X) : WS (bS τ r f) N R B C X := by
  cases r with
  | v a μ => exact k
  | ex e μ => exact k
  | no => exact k
section
variable {τ : Ls} {μ : Mu} {Q : Vx → Mu → Prop} {X : Exc → Mu → Prop} {a b c e : ME} {t : MA} {i j : Nat}
theorem e_var {x : Vx} (h : τ[i]? = some (some x)) (k : Q x μ) : WR (mVar i τ μ) Q X := by
  unfold mVar; rw [h]; exact k
theorem e_C {d : D} (k : Q (.dat d) μ) : WR (mC d τ μ) Q X := k
theorem e_U {g : Mu → Vx → Option Vx} (k : WR (a τ μ) (fun x μ1 => WM (g μ1 x) fun r => Q r μ1) X) : WR (mU g a τ μ) Q X := WR_bnd (WR_mono k (fun _ _ z => WR_ofO z) fun _ _ z => z)
theorem e_B {g : Mu → Vx → Vx → Option Vx} (k : WR (a τ μ) (fun x μ1 => WR (b τ μ1) (fun y μ2 => WM (g μ2 x y) fun r => Q r μ2) X) X) : WR (mB g a b τ μ) Q X := WR_bnd (WR_mono k (fun _ _ z => WR_bnd (WR_mono z (fun _ _ z => WR_ofO z) fun _ _ z => z)) fun _ _ z => z)
theorem e_andV (k : WR (a τ μ) (fun x μ1 => ∃ p, x = .dat (.bl p) ∧ (p = true → WR (b τ μ1) Q X) ∧ (p = false → Q (.dat (.bl false)) μ1)) X) : WR (mAndV a b τ μ) Q X := WR_bnd (WR_mono k (fun x μ1 z => by
  obtain ⟨p, rfl, k1, k2⟩ := z
  cases p with
  | true => exact k1 rfl
  | false => exact k2 rfl) fun _ _ z => z)
theorem e_orV (k : WR (a τ μ) (fun x μ1 => ∃ p, x = .dat (.bl p) ∧ (p = true → Q (.dat (.bl true)) μ1) ∧ (p = false → WR (b τ μ1) Q X)) X) : WR (mOrV a b τ μ) Q X := WR_bnd (WR_mono k (fun x μ1 z => by
  obtain ⟨p, rfl, k1, k2⟩ := z
  cases p with
  | true => exact k1 rfl
  | false => exact k2 rfl) fun _ _ z => z)
theorem e_notV (k : WR (a τ μ) (fun x μ1 => ∃ p, x = .dat (.bl p) ∧ Q (.dat (.bl (!p))) μ1) X) : WR (mNotV a τ μ) Q X := WR_bnd (WR_mono k (fun x μ1 z => by
  obtain ⟨p, rfl, k1⟩ := z
  exact k1) fun _ _ z => z)
theorem e_if {p : MT} (k : WR (p τ μ) (fun k μ1 => (k = true → WR (a τ μ1) Q X) ∧ (k = false → WR (b τ μ1) Q X)) X) : WR (mIf p a b τ μ) Q X := WR_bnd (WR_mono k (fun x μ1 z => by
  cases x with
  | true => exact z.1 rfl
  | false => exact z.2 rfl) fun _ _ z => z)
theorem e_chain {g h : D → D → Option D} (k : WR (a τ μ) (fun x μ1 => WR (b τ μ1) (fun y μ2 => WM (opB g μ2 x y) fun p => (p = true → WR (c τ μ2) (fun z μ3 => WM (opV h μ3 y z) fun r => Q r μ3) X) ∧ (p = false → Q (.dat (.bl false)) μ2)) X) X) : WR (mChain g h a b c τ μ) Q X := WR_bnd (WR_mono k (fun x μ1 z => WR_bnd (WR_mono z (fun y μ2 z => by
  cases w : opB g μ2 x y with
  | none => rw [w] at z; exact z.elim
  | some p =>
    rw [w] at z
    cases p with
    | true => exact WR_bnd (WR_mono (z.1 rfl) (fun _ _ z => WR_ofO z) fun _ _ z => z)
    | false => exact z.2 rfl) fun _ _ z => z)) fun _ _ z => z)
theorem a_nil {Q : List Vx → Mu → Prop} (k : Q [] μ) : WR (mNil τ μ) Q X := k
theorem a_cons {Q : List Vx → Mu → Prop} (k : WR (a τ μ) (fun x μ1 => WR (t τ μ1) (fun xs μ2 => Q (x :: xs) μ2) X) X) : WR (mCons a t τ μ) Q X := WR_bnd (WR_mono k (fun _ _ z => WR_bnd (WR_mono z (fun _ _ z => z) fun _ _ z => z)) fun _ _ z => z)
theorem e_tup (k : WR (t τ μ) (fun xs μ1 => WM (tupV xs) fun r => Q r μ1) X) : WR (mTup t τ μ) Q X := WR_bnd (WR_mono k (fun _ _ z => WR_ofO z) fun _ _ z => z)
theorem e_dt {l : ML} (k : WR (l τ μ) (fun ds μ1 => Q (.dat (.lst ds)) μ1) X) : WR (mDt l τ μ) Q X := WR_bnd (WR_mono k (fun _ _ z => z) fun _ _ z => z)
theorem e_al {l : ML} (k : WR (l τ μ) (fun ds μ1 => Q (.ref μ1.length) (μ1 ++ [.ld ds])) X) : WR (mAl l τ μ) Q X := WR_bnd (WR_mono k (fun _ _ z => z) fun _ _ z => z)
theorem l_lst {Q : List D → Mu → Prop} (k : WR (t τ μ) (fun xs μ1 => WM (lstO xs) fun ds => Q ds μ1) X) : WR (lLst t τ μ) Q X := WR_bnd (WR_mono k (fun xs μ1 z => by
  unfold lstO at z
  cases w : allDat xs with
  | none => rw [w] at z; exact z.elim
  | some ds =>
    rw [w] at z
    dsimp only at z ⊢
    by_cases h : ds.length ≤ 100000
    · rw [if_pos h] at z ⊢; exact z
    · rw [if_neg h] at z; exact z.elim) fun _ _ z => z)
theorem l_of {Q : List D → Mu → Prop} {g : Mu → Vx → Option (List D)} (k : WR (a τ μ) (fun x μ1 => WM (g μ1 x) fun r => Q r μ1) X) : WR (lOf g a τ μ) Q X := WR_bnd (WR_mono k (fun _ _ z => WR_ofO z) fun _ _ z => z)
theorem l_of2 {Q : List D → Mu → Prop} {g : Mu → Vx → Vx → Option (List D)} (k : WR (a τ μ) (fun x μ1 => WR (b τ μ1) (fun y μ2 => WM (g μ2 x y) fun r => Q r μ2) X) X) : WR (lOf2 g a b τ μ) Q X := WR_bnd (WR_mono k (fun _ _ z => WR_bnd (WR_mono z (fun _ _ z => WR_ofO z) fun _ _ z => z)) fun _ _ z => z)
theorem e_lv (k : WR (t τ μ) (fun xs μ1 => xs.length ≤ 100000 ∧ Q (.ref μ1.length) (μ1 ++ [.lv xs])) X) : WR (mLv t τ μ) Q X := WR_bnd (WR_mono k (fun xs μ1 z => by
  rw [if_pos z.1]; exact z.2) fun _ _ z => z)
theorem e_cb {g : List D → Option D} (k : WR (t τ μ) (fun xs μ1 => WM (cbO g μ1 xs) fun d => Q (.dat d) μ1) X) : WR (mCB g t τ μ) Q X := WR_bnd (WR_mono k (fun xs μ1 z => by
  unfold cbO at z
  cases w : allSee μ1 xs with
  | none => rw [w] at z; exact z.elim
  | some ds =>
    rw [w] at z
    dsimp only at z ⊢
    cases w2 : g ds with
    | none => rw [w2] at z; exact z.elim
    | some d => rw [w2] at z; exact z) fun _ _ z => z)
theorem e_count (k : WR (a τ μ) (fun x μ1 => WM (isTpl x) fun ds => WR (e τ μ1) (fun y μ2 => WM (cntO ds y) fun r => Q r μ2) X) X) : WR (mCount a e τ μ) Q X := WR_bnd (WR_mono k (fun x μ1 z => by
  cases w : isTpl x with
  | none => rw [w] at z; exact z.elim
  | some ds => rw [w] at z; exact WR_bnd (WR_mono z (fun _ _ z => WR_ofO z) fun _ _ z => z)) fun _ _ z => z)
theorem e_join (k : WR (a τ μ) (fun x μ1 => WM (isStr x) fun s => WR (e τ μ1) (fun y μ2 => WM (joinO s μ2 y) fun r => Q r μ2) X) X) : WR (mJoin a e τ μ) Q X := WR_bnd (WR_mono k (fun x μ1 z => by
  cases w : isStr x with
  | none => rw [w] at z; exact z.elim
  | some s => rw [w] at z; exact WR_bnd (WR_mono z (fun _ _ z => WR_ofO z) fun _ _ z => z)) fun _ _ z => z)
theorem o_none {Q : Option Int → Mu → Prop} (k : Q none μ) : WR (mNoPart τ μ) Q X := k
theorem o_part {Q : Option Int → Mu → Prop} (k : WR (e τ μ) (fun x μ1 => WM (isInt x) fun n => Q (some n) μ1) X) : WR (mPart e τ μ) Q X := WR_bnd (WR_mono k (fun x μ1 z => by
  cases w : isInt x with
  | none => rw [w] at z; exact z.elim
  | some s => rw [w] at z; exact z) fun _ _ z => z)
theorem e_slT {l h : MO} (k : WR (a τ μ) (fun x μ1 => WR (l τ μ1) (fun lo μ2 => WR (h τ μ2) (fun hi μ3 => WM (fSlT x lo hi) fun r => Q r μ3) X) X) X) : WR (mSlT a l h τ μ) Q X := WR_bnd (WR_mono k (fun _ _ z => WR_bnd (WR_mono z (fun _ _ z => WR_bnd (WR_mono z (fun _ _ z => WR_ofO z) fun _ _ z => z)) fun _ _ z => z)) fun _ _ z => z)
theorem l_sl {Q : List D → Mu → Prop} {l h : MO} (k : WR (a τ μ) (fun x μ1 => WR (l τ μ1) (fun lo μ2 => WR (h τ μ2) (fun hi μ3 => WM (nSl μ3 x lo hi) fun r => Q r μ3) X) X) X) : WR (lSl a l h τ μ) Q X := WR_bnd (WR_mono k (fun _ _ z => WR_bnd (WR_mono z (fun _ _ z => WR_bnd (WR_mono z (fun _ _ z => WR_ofO z) fun _ _ z => z)) fun _ _ z => z)) fun _ _ z => z)
theorem e_fmt (k : WR (e τ μ) (fun x μ1 => WM (fFmt μ1 x) fun r => Q r μ1) X) : WR (mFmt e τ μ) Q X := WR_bnd (WR_mono k (fun _ _ z => WR_ofO z) fun _ _ z => z)
theorem j_nil {Q : Str → Mu → Prop} {acc : Str} (k : Q acc μ) : WR (mJs [] acc τ μ) Q X := k
theorem j_cons {Q : Str → Mu → Prop} {acc : Str} {es : List ME} (k : WR (e τ μ) (fun x μ1 => WM (isStr x) fun y => (acc ++ y).length ≤ 100000 ∧ WR (mJs es (acc ++ y) τ μ1) Q X) X) : WR (mJs (e :: es) acc τ μ) Q X := WR_bnd (WR_mono k (fun x μ1 z => by
  cases w : isStr x with
  | none => rw [w] at z; exact z.elim
  | some y =>
    rw [w] at z
    dsimp only
    rw [if_pos z.1]; exact z.2) fun _ _ z => z)
theorem e_joined {es : List ME} (k : WR (mJs es Str.empty τ μ) (fun r μ1 => Q (.dat (.str r)) μ1) X) : WR (mJoined es τ μ) Q X := WR_bnd (WR_mono k (fun _ _ z => z) fun _ _ z => z)
theorem e_pop (k : WR (a τ μ) (fun x μ1 => ∃ i ds d, x = .ref i ∧ μ1[i]? = some (.ld ds) ∧ ds[ds.length - 1]? = some d ∧ Q (.dat d) (μ1.set i (.ld ds.dropLast))) X) : WR (mPop a τ μ) Q X := WR_bnd (WR_mono k (fun x μ1 z => by
  obtain ⟨i, ds, d, rfl, h1, h2, h3⟩ := z
  dsimp only
  rw [h1]
  dsimp only
  rw [h2]
  exact h3) fun _ _ z => z)
theorem e_popAt (k : WR (a τ μ) (fun x μ1 => isLstC μ1 x = true ∧ WR (e τ μ1) (fun y μ2 => ∃ i n ds d, x = .ref i ∧ y = .dat (.int n) ∧ μ2[i]? = some (.ld ds) ∧ (0 ≤ n ∧ n < 100000) ∧ ds[n.toNat]? = some d ∧ Q (.dat d) (μ2.set i (.ld (ds.eraseIdx n.toNat)))) X) X) : WR (mPopAt a e τ μ) Q X := WR_bnd (WR_mono k (fun x μ1 z => by
  rw [if_pos z.1]
  refine WR_bnd (WR_mono z.2 (fun y μ2 z => ?_) fun _ _ z => z)
  obtain ⟨i, n, ds, d, rfl, rfl, h1, h2, h3, h4⟩ := z
  unfold popAt
  dsimp only
  rw [h1]
  dsimp only
  rw [if_pos h2, h3]
  exact h4) fun _ _ z => z)
theorem e_app (k : WR (a τ μ) (fun x μ1 => isLstC μ1 x = true ∧ WR (e τ μ1) (fun y μ2 => ∃ i ds d, x = .ref i ∧ y = .dat d ∧ μ2[i]? = some (.ld ds) ∧ ds.length < 100000 ∧ Q (.dat .non) (μ2.set i (.ld (ds ++ [d])))) X) X) : WR (mApp a e τ μ) Q X := WR_bnd (WR_mono k (fun x μ1 z => by
  rw [if_pos z.1]
  refine WR_bnd (WR_mono z.2 (fun y μ2 z => ?_) fun _ _ z => z)
  obtain ⟨i, ds, d, rfl, rfl, h1, h2, h4⟩ := z
  unfold appC
  dsimp only
  rw [h1]
  dsimp only
  rw [if_pos h2]
  exact h4) fun _ _ z => z)
theorem e_clr (k : WR (a τ μ) (fun x μ1 => ∃ i ds, x = .ref i ∧ μ1[i]? = some (.ld ds) ∧ Q (.dat .non) (μ1.set i (.ld []))) X) : WR (mClr a τ μ) Q X := WR_bnd (WR_mono k (fun x μ1 z => by
  obtain ⟨i, ds, rfl, h1, h3⟩ := z
  dsimp only
  rw [h1]
  exact h3) fun _ _ z => z)
theorem e_call {S : Sem} (k : WR (t τ μ) (fun xs μ1 => WR (S xs μ1) Q X) X) : WR (mCall S t τ μ) Q X := WR_bnd k
theorem e_meth {c0 m : String} {S : Sem} (k : WR (a τ μ) (fun x μ1 => isInst c0 m μ1 x = true ∧ WR (t τ μ1) (fun xs μ2 => WR (S (x :: xs) μ2) Q X) X) X) : WR (mMeth c0 m S a t τ μ) Q X := WR_bnd (WR_mono k (fun x μ1 z => by
  rw [if_pos z.1]
  exact WR_bnd z.2) fun _ _ z => z)
theorem e_make {c0 : String} {S : Sem} (k : WR (t τ μ) (fun xs μ1 => WR (S (.ref μ1.length :: xs) (μ1 ++ [.ins c0 [] []])) (fun r μ2 => WR (madeO c0 μ1.length r μ2) Q X) (fun e μ2 => X e (μ2.take μ1.length))) X) : WR (mMake c0 S t τ μ) Q X := WR_bnd (WR_mono k (fun xs μ1 z => by
  unfold mkNew
  cases w : S (.ref μ1.length :: xs) (μ1 ++ [.ins c0 [] []]) with
  | v r μ2 => rw [w] at z; exact z
  | ex e μ2 => rw [w] at z; exact z
  | no => rw [w] at z; exact z) fun _ _ z => z)
theorem r_made {c0 : String} {ns : List String} {xs : List D} {n : Nat} (h1 : μ[n]? = some (.ins c0 ns xs)) (h2 : μ.length = n + 1) (k : Q (.dat (.obj c0 ns xs)) (μ.take n)) : WR (madeO c0 n (.dat .non) μ) Q X := by
  unfold madeO
  dsimp only
  rw [h1]
  dsimp only
  rw [if_pos ⟨rfl, h2⟩]
  exact k
theorem e_ownEq {neg : Bool} {c0 : String} {S : Sem} (k : WR (a τ μ) (fun x μ1 => WR (b τ μ1) (fun y μ2 => ∃ d e, isObj c0 x = some d ∧ y = .dat e ∧ eqKind c0 e = true ∧ WR (S [.dat d, .dat e] μ2) (fun r μ3 => WM (isBl r) fun k => Q (.dat (.bl (if neg = true then !k else k))) μ3) X) X) X) : WR (mOwnEq neg c0 S a b τ μ) Q X := WR_bnd (WR_mono k (fun x μ1 z => WR_bnd (WR_mono z (fun y μ2 z => by
  obtain ⟨d, e, h1, rfl, h2, h3⟩ := z
  unfold ownEq
  rw [h1]
  dsimp only
  rw [if_pos h2]
  refine WR_bnd (WR_mono h3 (fun r μ3 z => ?_) fun _ _ z => z)
  cases w : isBl r with
  | none => rw [w] at z; exact z.elim
  | some k => rw [w] at z; exact z) fun _ _ z => z)) fun _ _ z => z)
theorem e_ownLen {c0 : String} {S : Sem} (k : WR (a τ μ) (fun x μ1 => ∃ d, isObj c0 x = some d ∧ WR (S [.dat d] μ1) (fun r μ2 => WM (isInt r) fun k => (0 ≤ k ∧ k ≤ 1000000) ∧ Q (.dat (.int k)) μ2) X) X) : WR (mOwnLen c0 S a τ μ) Q X := WR_bnd (WR_mono k (fun x μ1 z => by
  obtain ⟨d, h1, h3⟩ := z
  rw [h1]
  refine WR_bnd (WR_mono h3 (fun r μ3 z => ?_) fun _ _ z => z)
  cases w : isInt r with
  | none => rw [w] at z; exact z.elim
  | some k =>
    rw [w] at z
    dsimp only
    rw [if_pos z.1]; exact z.2) fun _ _ z => z)
theorem e_ownRepr {c0 : String} {S : Sem} (k : WR (a τ μ) (fun x μ1 => ∃ d, isObj c0 x = some d ∧ WR (S [.dat d] μ1) (fun r μ2 => WM (isStr r) fun k => Q (.dat (.str k)) μ2) X) X) : WR (mOwnRepr c0 S a τ μ) Q X := WR_bnd (WR_mono k (fun x μ1 z => by
  obtain ⟨d, h1, h3⟩ := z
  rw [h1]
  refine WR_bnd (WR_mono h3 (fun r μ3 z => ?_) fun _ _ z => z)
  cases w : isStr r with
  | none => rw [w] at z; exact z.elim
  | some k => rw [w] at z; exact z) fun _ _ z => z)
theorem t_B {Q : Bool → Mu → Prop} (k : WR (e τ μ) (fun x μ1 => WM (isBl x) fun k => Q k μ1) X) : WR (mB' e τ μ) Q X := WR_bnd (WR_mono k (fun _ _ z => WR_ofO z) fun _ _ z => z)
theorem t_yes {Q : Bool → Mu → Prop} (k : Q true μ) : WR (mYes τ μ) Q X := k
theorem t_and {Q : Bool → Mu → Prop} {p q : MT} (k : WR (p τ μ) (fun k μ1 => (k = true → WR (q τ μ1) Q X) ∧ (k = false → Q false μ1)) X) : WR (mAnd p q τ μ) Q X := WR_bnd (WR_mono k (fun x μ1 z => by
  cases x with
  | true => exact z.1 rfl
  | false => exact z.2 rfl) fun _ _ z => z)
theorem t_or {Q : Bool → Mu → Prop} {p q : MT} (k : WR (p τ μ) (fun k μ1 => (k = true → Q true μ1) ∧ (k = false → WR (q τ μ1) Q X)) X) : WR (mOr p q τ μ) Q X := WR_bnd (WR_mono k (fun x μ1 z => by
  cases x with
  | true => exact z.1 rfl
  | false => exact z.2 rfl) fun _ _ z => z)
theorem t_not {Q : Bool → Mu → Prop} {p : MT} (k : WR (p τ μ) (fun k μ1 => Q (!k) μ1) X) : WR (mNot p τ μ) Q X := WR_bnd (WR_mono k (fun _ _ z => z) fun _ _ z => z)
theorem i_rng {Q : Src → Mu → Prop} {f : List Vx → Option (List It1)} (k : WR (t τ μ) (fun xs μ1 => WM (f xs) fun is => Q (.its is) μ1) X) : WR (mRng f t τ μ) Q X := WR_bnd (WR_mono k (fun xs μ1 z => by
  cases w : f xs with
  | none => rw [w] at z; exact z.elim
  | some is => rw [w] at z; exact z) fun _ _ z => z)
theorem i_seq {Q : Src → Mu → Prop} (k : WR (e τ μ) (fun x μ1 => WM (rowOf μ1 x) fun r => Q (.sq r) μ1) X) : WR (mSeqI e τ μ) Q X := WR_bnd (WR_mono k (fun x μ1 z => by
  cases w : rowOf μ1 x with
  | none => rw [w] at z; exact z.elim
  | some is => rw [w] at z; exact z) fun _ _ z => z)
theorem i_enum {Q : Src → Mu → Prop} (k : WR (t τ μ) (fun xs μ1 => ∃ x, xs = [x] ∧ WM (rowOf μ1 x) fun r => Q (.en r) μ1) X) : WR (mEnum t τ μ) Q X := WR_bnd (WR_mono k (fun xs μ1 z => by
  obtain ⟨x, rfl, z⟩ := z
  dsimp only
  cases w : rowOf μ1 x with
  | none => rw [w] at z; exact z.elim
  | some is => rw [w] at z; exact z) fun _ _ z => z)
theorem i_zip {Q : Src → Mu → Prop} (k : WR (t τ μ) (fun xs μ1 => ∃ x y, xs = [x, y] ∧ lstV x = lstV y ∧ WM (rowOf μ1 x) fun r => WM (rowOf μ1 y) fun s => Q (.zp r s) μ1) X) : WR (mZip t τ μ) Q X := WR_bnd (WR_mono k (fun xs μ1 z => by
  obtain ⟨x, y, rfl, h, z⟩ := z
  dsimp only
  rw [if_pos h]
  cases w : rowOf μ1 x with
  | none => rw [w] at z; exact z.elim
  | some r =>
    rw [w] at z
    have z : WM (rowOf μ1 y) fun s => Q (.zp r s) μ1 := z
    cases w : rowOf μ1 y with
    | none => rw [w] at z; exact z.elim
    | some s => rw [w] at z; exact z) fun _ _ z => z)
/-! comprehensions: by what is true of the items so far -/
theorem l_lc {Q : List D → Mu → Prop} {it : MI} {g : MGI} {p : MT} {vs : List Nat} (k : WR (it τ μ) (fun src μ1 => WR (runC g p e src (wipeP τ vs) fuelN 0 μ1) (fun ds μ2 => ds.length ≤ 100000 ∧ Q ds μ2) fun _ _ => False) X) : WR (lLc it g p e vs τ μ) Q X := WR_bnd (WR_mono k (fun src μ1 z => by
  cases w : runC g p e src (wipeP τ vs) fuelN 0 μ1 with
  | no => rw [w] at z; exact z.elim
  | ex e' μ2 => rw [w] at z; exact z.elim
  | v ds μ2 =>
    rw [w] at z
    dsimp only
    rw [if_pos z.1]; exact z.2) fun _ _ z => z)
theorem r_lcAux {g : MGI} {p : MT} {src : Src} {Q : List D → Mu → Prop} (I : Nat → List D → Mu → Prop) (n : Nat)
    (st : ∀ k acc μ, k < n → I k acc μ → ∃ x, srcAt src μ k = some (some x) ∧ WM (g x τ μ) fun q => WR (p q.1 q.2) (fun b μ2 => (b = true → WR (e q.1 μ2) (fun r μ3 => ∃ d, r = .dat d ∧ I (k + 1) (acc ++ [d]) μ3) fun _ _ => False) ∧ (b = false → I (k + 1) acc μ2)) fun _ _ => False)
    (en : ∀ acc μ, I n acc μ → srcAt src μ n = some none ∧ Q acc μ) : ∀ (f k : Nat) (acc : List D) (μ : Mu), n < k + f → k ≤ n → I k acc μ → WR (runC g p e src τ f k μ) (fun ds μ2 => Q (acc ++ ds) μ2) fun _ _ => False := by
  intro f
  induction f with
  | zero =>
    intro k acc μ hk hk2 hI
    omega
  | succ f ih =>
    intro k acc μ hk hk2 hI
    unfold runC
    by_cases hn : k < n
    · obtain ⟨x, h1, h2⟩ := st k acc μ hn hI
      rw [h1]
      dsimp only
      cases w : g x τ μ with
      | none => rw [w] at h2; exact h2.elim
      | some q =>
        rw [w] at h2
        dsimp only
        replace h2 : WR (p q.1 q.2) _ _ := h2
        cases w2 : p q.1 q.2 with
        | no => rw [w2] at h2; exact h2.elim
        | ex e' μ2 => rw [w2] at h2; exact h2.elim
        | v b μ2 =>
          rw [w2] at h2
          dsimp only
          cases b with
          | false =>
            rw [if_neg (by decide)]
            exact ih (k + 1) acc μ2 (by omega) (by omega) (h2.2 rfl)
          | true =>
            rw [if_pos rfl]
            have h3 := h2.1 rfl
            cases w3 : e q.1 μ2 with
            | no => rw [w3] at h3; exact h3.elim
            | ex e' μ2 => rw [w3] at h3; exact h3.elim
            | v r μ3 =>
              rw [w3] at h3
              obtain ⟨d, rfl, h4⟩ := h3
              have h5 := ih (k + 1) (acc ++ [d]) μ3 (by omega) (by omega) h4
              dsimp only
              cases w4 : runC g p e src τ f (k + 1) μ3 with
              | no => rw [w4] at h5; exact h5.elim
              | ex e' μ2 => rw [w4] at h5; exact h5.elim
              | v ds μ4 =>
                rw [w4] at h5
                replace h5 : Q (acc ++ [d] ++ ds) μ4 := h5
                rw [List.append_assoc] at h5
                exact h5
    · have : k = n := by omega
      subst this
      obtain ⟨h1, h2⟩ := en acc μ hI
      rw [h1]
      show Q (acc ++ []) μ
      rw [List.append_nil]
      exact h2
theorem r_lc {g : MGI} {p : MT} {src : Src} {Q : List D → Mu → Prop} (I : Nat → List D → Mu → Prop) (n : Nat) (hn : n ≤ 1000000) (h0 : I 0 [] μ)
    (st : ∀ k acc μ, k < n → I k acc μ → ∃ x, srcAt src μ k = some (some x) ∧ WM (g x τ μ) fun q => WR (p q.1 q.2) (fun b μ2 => (b = true → WR (e q.1 μ2) (fun r μ3 => ∃ d, r = .dat d ∧ I (k + 1) (acc ++ [d]) μ3) fun _ _ => False) ∧ (b = false → I (k + 1) acc μ2)) fun _ _ => False)
    (en : ∀ acc μ, I n acc μ → srcAt src μ n = some none ∧ Q acc μ) : WR (runC g p e src τ fuelN 0 μ) Q fun _ _ => False := r_lcAux I n st en fuelN 0 [] μ (fuel_lt hn) (Nat.zero_le _) h0
end
/-! statements -/
section
variable {τ : Ls} {μ : Mu} {N : Ls → Mu → Prop} {R : Vx → Mu → Prop} {B C : Ls → Mu → Prop} {X : Exc → Mu → Prop} {a b c e : ME} {t : MT} {i j : Nat} {s s' : MS}
theorem s_ret (k : WR (e τ μ) R X) : WS (mRet e τ μ) N R B C X := WS_bS (WR_mono k (fun _ _ z => z) fun _ _ z => z)
theorem s_retN (k : R (.dat .non) μ) : WS (mRetN τ μ) N R B C X := k
theorem s_next (k : N τ μ) : WS (mNext τ μ) N R B C X := k
theorem s_brk (k : B τ μ) : WS (mBrk τ μ) N R B C X := k
theorem s_cont (k : C τ μ) : WS (mCont τ μ) N R B C X := k
theorem s_seq (k : WS (s τ μ) (fun τ1 μ1 => WS (s' τ1 μ1) N R B C X) R B C X) : WS (mSeq s s' τ μ) N R B C X := by
  unfold mSeq
  cases w : s τ μ with
  | nx τ1 μ1 => rw [w] at k; exact k
  | rt r μ1 => rw [w] at k; exact k
  | bk τ1 μ1 => rw [w] at k; exact k
  | ct τ1 μ1 => rw [w] at k; exact k
  | ex e' τ1 μ1 => rw [w] at k; exact k
  | no => rw [w] at k; exact k
theorem s_cut (M : Ls → Mu → Prop) (h : WS (s τ μ) M R B C X) (k : ∀ τ1 μ1, M τ1 μ1 → WS (s' τ1 μ1) N R B C X) : WS (mSeq s s' τ μ) N R B C X := s_seq (WS_mono h k (fun _ _ h => h) (fun _ _ h => h) (fun _ _ h => h) (fun _ _ h => h))
theorem s_if (k : WR (t τ μ) (fun x μ1 => (x = true → WS (s τ μ1) N R B C X) ∧ (x = false → WS (s' τ μ1) N R B C X)) X) : WS (mIfS t s s' τ μ) N R B C X := WS_bS (WR_mono k (fun x μ1 z => by
  cases x with
  | true => exact z.1 rfl
  | false => exact z.2 rfl) fun _ _ z => z)
theorem s_drop (k : WR (e τ μ) (fun _ μ1 => N τ μ1) X) : WS (mDrop e τ μ) N R B C X := WS_bS (WR_mono k (fun _ _ z => z) fun _ _ z => z)
theorem s_asg {g : MG} (k : WR (e τ μ) (fun x μ1 => WM (g x τ μ1) fun q => N q.1 q.2) X) : WS (mAsg e g τ μ) N R B C X := WS_bS (WR_mono k (fun x μ1 z => by
  cases w : g x τ μ1 with
  | none => rw [w] at z; exact z.elim
  | some q => rw [w] at z; exact z) fun _ _ z => z)
theorem s_par (k : WR (a τ μ) (fun x μ1 => WR (b τ μ1) (fun y μ2 => (i ≠ j ∧ i < τ.length ∧ j < τ.length) ∧ N ((τ.set i (some x)).set j (some y)) μ2) X) X) : WS (mPar i j a b τ μ) N R B C X := WS_bS (WR_mono k (fun x μ1 z => WS_bS (WR_mono z (fun y μ2 z => by
  rw [if_pos z.1]; exact z.2) fun _ _ z => z)) fun _ _ z => z)
theorem s_aug {f : Int → Int → Int} {x : Int} (h : τ[i]? = some (some (.dat (.int x)))) (k : WR (e τ μ) (fun y μ1 => WM (isInt y) fun b => N (τ.set i (some (.dat (.int (f x b))))) μ1) X) : WS (mAug f i e τ μ) N R B C X := by
  unfold mAug
  rw [h]
  exact WS_bS (WR_mono k (fun y μ1 z => by
    cases w : isInt y with
    | none => rw [w] at z; exact z.elim
    | some q => rw [w] at z; exact z) fun _ _ z => z)
theorem s_augS {f : Int → Int → Int} {n : Int} (k : WR (a τ μ) (fun x μ1 => WM (getC x n μ1) fun p => WR (e τ μ1) (fun y μ2 => WM (isInt y) fun q => WM (setC (refI x) n (.int (f p q)) μ2) fun μ3 => N τ μ3) X) X) : WS (mAugS f a n e τ μ) N R B C X := WS_bS (WR_mono k (fun x μ1 z => by
  cases w : getC x n μ1 with
  | none => rw [w] at z; exact z.elim
  | some p =>
    rw [w] at z
    refine WS_bS (WR_mono z (fun y μ2 z => ?_) fun _ _ z => z)
    cases w : isInt y with
    | none => rw [w] at z; exact z.elim
    | some q =>
      rw [w] at z
      dsimp only
      replace z : WM (setC (refI x) n (.int (f p q)) μ2) _ := z
      cases w : setC (refI x) n (.int (f p q)) μ2 with
      | none => rw [w] at z; exact z.elim
      | some q => rw [w] at z; exact z) fun _ _ z => z)
theorem s_setI (k : WR (e τ μ) (fun x μ1 => WR (a τ μ1) (fun o μ2 => WR (b τ μ2) (fun y μ3 => ∃ d i n, x = .dat d ∧ o = .ref i ∧ y = .dat (.int n) ∧ WM (setC i n d μ3) fun μ4 => N τ μ4) X) X) X) : WS (mSetI a e b τ μ) N R B C X := WS_bS (WR_mono k (fun x μ1 z => WS_bS (WR_mono z (fun o μ2 z => WS_bS (WR_mono z (fun y μ3 z => by
  obtain ⟨d, i, n, rfl, rfl, rfl, z⟩ := z
  show WS (match setC i n d μ3 with | some μ4 => So.nx τ μ4 | none => .no) N R B C X
  cases w : setC i n d μ3 with
  | none => rw [w] at z; exact z.elim
  | some q => rw [w] at z; exact z) fun _ _ z => z)) fun _ _ z => z)) fun _ _ z => z)
theorem s_fld {c0 f : String} (k : WR (e τ μ) (fun x μ1 => WR (a τ μ1) (fun y μ2 => WM (putFld c0 f y x μ2) fun μ3 => N τ μ3) X) X) : WS (mFldS c0 f a e τ μ) N R B C X := WS_bS (WR_mono k (fun x μ1 z => WS_bS (WR_mono z (fun y μ2 z => by
  cases w : putFld c0 f y x μ2 with
  | none => rw [w] at z; exact z.elim
  | some q => rw [w] at z; exact z) fun _ _ z => z)) fun _ _ z => z)
theorem s_for {it : MI} {g : MGI} (k : WR (it τ μ) (fun src μ1 => WS (runF g s src fuelN 0 τ μ1) N R B C X) X) : WS (mFor it g s τ μ) N R B C X := WS_bS (WR_mono k (fun _ _ z => z) fun _ _ z => z)
theorem r_forAux {g : MGI} {src : Src} (I : Nat → Ls → Mu → Prop) (n : Nat)
    (st : ∀ k τ μ, k < n → I k τ μ → ∃ x, srcAt src μ k = some (some x) ∧ WM (g x τ μ) fun q => WS (s q.1 q.2) (I (k + 1)) R N (I (k + 1)) X)
    (en : ∀ τ μ, I n τ μ → srcAt src μ n = some none ∧ N τ μ) : ∀ (f k : Nat) (τ : Ls) (μ : Mu), n < k + f → k ≤ n → I k τ μ → WS (runF g s src f k τ μ) N R B C X := by
  intro f
  induction f with
  | zero => intro k τ μ hk hk2 hI; omega
  | succ f ih =>
    intro k τ μ hk hk2 hI
    unfold runF
    by_cases hn : k < n
    · obtain ⟨x, h1, h2⟩ := st k τ μ hn hI
      rw [h1]
      dsimp only
      cases w : g x τ μ with
      | none => rw [w] at h2; exact h2.elim
      | some q =>
        rw [w] at h2
        dsimp only
        replace h2 : WS (s q.1 q.2) _ _ _ _ _ := h2
        cases w2 : s q.1 q.2 with
        | no => rw [w2] at h2; exact h2.elim
        | nx τ2 μ2 => rw [w2] at h2; exact ih (k + 1) τ2 μ2 (by omega) (by omega) h2
        | ct τ2 μ2 => rw [w2] at h2; exact ih (k + 1) τ2 μ2 (by omega) (by omega) h2
        | bk τ2 μ2 => rw [w2] at h2; exact h2
        | rt r μ2 => rw [w2] at h2; exact h2
        | ex e' τ2 μ2 => rw [w2] at h2; exact h2
    · have : k = n := by omega
      subst this
      obtain ⟨h1, h2⟩ := en τ μ hI
      rw [h1]
      exact h2
theorem r_for {g : MGI} {src : Src} (I : Nat → Ls → Mu → Prop) (n : Nat) (hn : n ≤ 1000000) (h0 : I 0 τ μ)
    (st : ∀ k τ μ, k < n → I k τ μ → ∃ x, srcAt src μ k = some (some x) ∧ WM (g x τ μ) fun q => WS (s q.1 q.2) (I (k + 1)) R N (I (k + 1)) X)
    (en : ∀ τ μ, I n τ μ → srcAt src μ n = some none ∧ N τ μ) : WS (runF g s src fuelN 0 τ μ) N R B C X := r_forAux I n st en fuelN 0 τ μ (fuel_lt hn) (Nat.zero_le _) h0
theorem s_while {n : Nat} (I : Nat → Ls → Mu → Prop) {m : Nat} (h0 : I m τ μ) (hm : m < n) (st : ∀ k τ μ, I k τ μ → WR (t τ μ) (fun x μ1 => (x = true → 0 < k ∧ WS (s τ μ1) (I (k - 1)) R N (I (k - 1)) X) ∧ (x = false → N τ μ1)) X) : WS (mWhile n t s τ μ) N R B C X := by
  have key : ∀ (n m : Nat) (τ : Ls) (μ : Mu), m < n → I m τ μ → WS (runW t s n τ μ) N R B C X := by
    intro n
    induction n with
    | zero => intro m τ μ h; omega
    | succ n ih =>
      intro m τ μ h hI
      unfold runW
      refine WS_bS (WR_mono (st m τ μ hI) (fun x μ1 z => ?_) fun _ _ z => z)
      cases x with
      | false =>
        rw [if_neg (by decide)]
        exact z.2 rfl
      | true =>
        rw [if_pos rfl]
        obtain ⟨h1, h2⟩ := z.1 rfl
        cases w2 : s τ μ1 with
        | no => rw [w2] at h2; exact h2.elim
        | nx τ2 μ2 => rw [w2] at h2; exact ih (m - 1) τ2 μ2 (by omega) h2
        | ct τ2 μ2 => rw [w2] at h2; exact ih (m - 1) τ2 μ2 (by omega) h2
        | bk τ2 μ2 => rw [w2] at h2; exact h2
        | rt r μ2 => rw [w2] at h2; exact h2
        | ex e' τ2 μ2 => rw [w2] at h2; exact h2
  exact key n m τ μ hm h0
/-! targets -/
theorem g_name {x : Vx} {N : Ls × Mu → Prop} (h : i < τ.length) (k : N (τ.set i (some x), μ)) : WM (stName i x τ μ) N := by
  unfold stName
  rw [if_pos h]
  exact k
theorem g_tup2 {g h : MG} {x y z : Vx} {N : Ls × Mu → Prop} (e : two x = some (y, z)) (k : WM (g y τ μ) fun q => WM (h z q.1 q.2) N) : WM (stTup2 g h x τ μ) N := by
  unfold stTup2
  rw [e]
  dsimp only
  cases w : g y τ μ with
  | none => rw [w] at k; exact k.elim
  | some q => rw [w] at k; exact k
theorem g_star {g h : MG} {x : Vx} {ds : List D} {d : D} {N : Ls × Mu → Prop} (e : dlst μ x = some ds) (hz : ds.length ≤ 100000) (hl : ds.getLast? = some d) (k : WM (g (.ref μ.length) τ (μ ++ [.ld ds.dropLast])) fun q => WM (h (.dat d) q.1 q.2) N) : WM (stStar g h x τ μ) N := by
  unfold stStar
  rw [e]
  dsimp only
  rw [if_pos hz, hl]
  dsimp only
  cases w : g (.ref μ.length) τ (μ ++ [.ld ds.dropLast]) with
  | none => rw [w] at k; exact k.elim
  | some q => rw [w] at k; exact k
theorem g_fld {c0 f : String} {o x : Vx} {N : Ls × Mu → Prop} (h : τ[i]? = some (some o)) (k : WM (putFld c0 f o x μ) fun μ1 => N (τ, μ1)) : WM (stFld c0 f i x τ μ) N := by
  unfold stFld
  rw [h]
  dsimp only
  cases w : putFld c0 f o x μ with
  | none => rw [w] at k; exact k.elim
  | some q => rw [w] at k; exact k
theorem gi_name {x : Vx} {N : Ls × Mu → Prop} (k : WM (stName i x τ μ) N) : WM (sgName i (.one x) τ μ) N := k
theorem gi_tup2 {g h : MG} {x : Vx} {N : Ls × Mu → Prop} (k : WM (stTup2 g h x τ μ) N) : WM (sgTup2 g h (.one x) τ μ) N := k
theorem gi_two {g h : MG} {x y : Vx} {N : Ls × Mu → Prop} (k : WM (g x τ μ) fun q => WM (h y q.1 q.2) N) : WM (sgTup2 g h (.two x y) τ μ) N := by
  show WM (thn (g x τ μ) fun τ1 μ1 => h y τ1 μ1) N
  cases w : g x τ μ with
  | none => rw [w] at k; exact k.elim
  | some q => rw [w] at k; exact k
/-! bodies -/
theorem f_body {k n : Nat} {s : MS} {as : List Vx} {Q : Vx → Mu → Prop} (h1 : as.length = k) (w : WS (s (as.map some ++ List.replicate (n - k) none) μ) (fun _ μ1 => Q (.dat .non) (μ1.take μ.length)) (fun r μ1 => WR (outV μ1 μ.length r) Q X) (fun _ _ => False) (fun _ _ => False) (fun e μ1 => X e (μ1.take μ.length))) : WR (body k n s as μ) Q X := by
  unfold body
  rw [if_pos h1]
  cases z : s (as.map some ++ List.replicate (n - k) none) μ with
  | nx τ1 μ1 => rw [z] at w; exact w
  | rt r μ1 => rw [z] at w; exact w
  | bk τ1 μ1 => rw [z] at w; exact w.elim
  | ct τ1 μ1 => rw [z] at w; exact w.elim
  | ex e τ1 μ1 => rw [z] at w; exact w
  | no => rw [z] at w; exact w.elim
theorem f_bodyN {k n : Nat} {s : MS} {as : List Vx} {Q : Vx → Mu → Prop} (h1 : as.length = k) (w : WS (s (as.map some ++ List.replicate (n - k) none) μ) (fun _ _ => False) (fun r μ1 => WR (outN μ1 μ.length r) Q X) (fun _ _ => False) (fun _ _ => False) (fun e μ1 => X e (μ1.take μ.length))) : WR (bodyN k n s as μ) Q X := by
  unfold bodyN
  rw [if_pos h1]
  cases z : s (as.map some ++ List.replicate (n - k) none) μ with
  | nx τ1 μ1 => rw [z] at w; exact w.elim
  | rt r μ1 => rw [z] at w; exact w
  | bk τ1 μ1 => rw [z] at w; exact w.elim
  | ct τ1 μ1 => rw [z] at w; exact w.elim
  | ex e τ1 μ1 => rw [z] at w; exact w
  | no => rw [z] at w; exact w.elim
theorem o_dat {n : Nat} {d : D} {Q : Vx → Mu → Prop} (k : Q (.dat d) (μ.take n)) : WR (outV μ n (.dat d)) Q X := k
theorem o_new {n i : Nat} {ds : List D} {Q : Vx → Mu → Prop} (h1 : n ≤ i) (h2 : μ[i]? = some (.ld ds)) (k : Q (.dat (.lst ds)) (μ.take n)) : WR (outV μ n (.ref i)) Q X := by
  unfold outV
  dsimp only
  rw [if_neg (by omega)]
  unfold fz
  rw [if_pos h1, h2]
  exact k
theorem o_old {n i : Nat} {Q : Vx → Mu → Prop} (h1 : i < n) (k : Q (.ref i) (μ.take n)) : WR (outV μ n (.ref i)) Q X := by
  unfold outV
  dsimp only
  rw [if_pos h1]
  exact k
theorem o_newN {n i : Nat} {ds : List D} {Q : Vx → Mu → Prop} (h1 : n ≤ i) (h2 : μ[i]? = some (.ld ds)) (k : Q (.ref n) (μ.take n ++ [.ld ds])) : WR (outN μ n (.ref i)) Q X := by
  unfold outN
  dsimp only
  rw [if_neg (by omega), h2]
  exact k
end
end RR
namespace Q
@[irreducible] def WR {α : Type} (o : Res α) (Q : α → Mu → Prop) (X : Exc → Mu → Prop) : Prop := RR.WR o Q X
@[irreducible] def WS (o : So) (N : Ls → Mu → Prop) (R : Vx → Mu → Prop) (B C : Ls → Mu → Prop) (X : Exc → Mu → Prop) : Prop := RR.WS o N R B C X
@[irreducible] def WM {α : Type} (o : Option α) (Q : α → Prop) : Prop := RR.WM o Q
theorem WM_some {α : Type} {x : α} {Q : α → Prop} (h : Q x) : WM (some x) Q := by with_unfolding_all exact RR.WM_some h
theorem WM_eq {α : Type} {o : Option α} {x : α} {Q : α → Prop} (e : o = some x) (h : Q x) : WM o Q := by with_unfolding_all exact RR.WM_eq e h
theorem WR_eq {α : Type} {o : Res α} {r : α} {μ : Mu} {X : Exc → Mu → Prop} (hx : ∀ e μ, ¬ X e μ) (h : WR o (fun r' μ' => r' = r ∧ μ' = μ) X) : o = .v r μ := by with_unfolding_all exact RR.WR_eq hx h
theorem WR_get {α : Type} {o : Res α} {P : α → Mu → Prop} (h : WR o P (fun _ _ => False)) : ∃ r μ, o = .v r μ ∧ P r μ := by with_unfolding_all exact RR.WR_get h
theorem WR_mono {α : Type} {o : Res α} {P Q : α → Mu → Prop} {X Y : Exc → Mu → Prop} (h : WR o P X) (k : ∀ r μ, P r μ → Q r μ) (kx : ∀ e μ, X e μ → Y e μ) : WR o Q Y := by with_unfolding_all exact RR.WR_mono h k kx
theorem WR_of {α : Type} {o : Res α} {r : α} {μ : Mu} {Q : α → Mu → Prop} {X : Exc → Mu → Prop} (e : o = .v r μ) (h : Q r μ) : WR o Q X := by with_unfolding_all exact RR.WR_of e h
theorem WR_val {α : Type} {o : Res α} {P Q : α → Mu → Prop} {X : Exc → Mu → Prop} (h : WR o P (fun _ _ => False)) (k : ∀ r μ, P r μ → Q r μ) : WR o Q X := by with_unfolding_all exact RR.WR_val h k
theorem WR_v {α : Type} {r : α} {μ : Mu} {Q : α → Mu → Prop} {X : Exc → Mu → Prop} (h : Q r μ) : WR (.v r μ) Q X := by with_unfolding_all exact RR.WR_v h
theorem WR_bnd {α β : Type} {r : Res α} {f : α → Mu → Res β} {Q : β → Mu → Prop} {X : Exc → Mu → Prop} (k : WR r (fun a μ => WR (f a μ) Q X) X) : WR (bnd r f) Q X := by with_unfolding_all exact RR.WR_bnd k
theorem WR_ofO {α : Type} {o : Option α} {μ : Mu} {Q : α → Mu → Prop} {X : Exc → Mu → Prop} (k : WM o fun a => Q a μ) : WR (ofO o μ) Q X := by with_unfolding_all exact RR.WR_ofO k
theorem WM_mono {α : Type} {o : Option α} {P Q : α → Prop} (h : WM o P) (k : ∀ x, P x → Q x) : WM o Q := by with_unfolding_all exact RR.WM_mono h k
theorem WS_mono {o : So} {N N' : Ls → Mu → Prop} {R R' : Vx → Mu → Prop} {B B' C C' : Ls → Mu → Prop} {X X' : Exc → Mu → Prop} (h : WS o N R B C X) (n : ∀ τ μ, N τ μ → N' τ μ) (r : ∀ x μ, R x μ → R' x μ) (b : ∀ τ μ, B τ μ → B' τ μ) (c : ∀ τ μ, C τ μ → C' τ μ) (x : ∀ e μ, X e μ → X' e μ) : WS o N' R' B' C' X' := by with_unfolding_all exact RR.WS_mono h n r b c x
theorem WS_nx {τ : Ls} {μ : Mu} {N : Ls → Mu → Prop} {R : Vx → Mu → Prop} {B C : Ls → Mu → Prop} {X : Exc → Mu → Prop} (k : N τ μ) : WS (.nx τ μ) N R B C X := by with_unfolding_all exact RR.WS_nx k
theorem WS_bS {α : Type} {τ : Ls} {r : Res α} {f : α → Mu → So} {N : Ls → Mu → Prop} {R : Vx → Mu → Prop} {B C : Ls → Mu → Prop} {X : Exc → Mu → Prop} (k : WR r (fun a μ => WS (f a μ) N R B C X) X) : WS (bS τ r f) N R B C X := by with_unfolding_all exact RR.WS_bS k
section
variable {τ : Ls} {μ : Mu} {Q : Vx → Mu → Prop} {X : Exc → Mu → Prop} {a b c e : ME} {t : MA} {i j : Nat}
theorem e_var {x : Vx} (h : τ[i]? = some (some x)) (k : Q x μ) : WR (mVar i τ μ) Q X := by with_unfolding_all exact RR.e_var h k
theorem e_C {d : D} (k : Q (.dat d) μ) : WR (mC d τ μ) Q X := by with_unfolding_all exact RR.e_C k
theorem e_U {g : Mu → Vx → Option Vx} (k : WR (a τ μ) (fun x μ1 => WM (g μ1 x) fun r => Q r μ1) X) : WR (mU g a τ μ) Q X := by with_unfolding_all exact RR.e_U k
theorem e_B {g : Mu → Vx → Vx → Option Vx} (k : WR (a τ μ) (fun x μ1 => WR (b τ μ1) (fun y μ2 => WM (g μ2 x y) fun r => Q r μ2) X) X) : WR (mB g a b τ μ) Q X := by with_unfolding_all exact RR.e_B k
theorem e_andV (k : WR (a τ μ) (fun x μ1 => ∃ p, x = .dat (.bl p) ∧ (p = true → WR (b τ μ1) Q X) ∧ (p = false → Q (.dat (.bl false)) μ1)) X) : WR (mAndV a b τ μ) Q X := by with_unfolding_all exact RR.e_andV k
theorem e_orV (k : WR (a τ μ) (fun x μ1 => ∃ p, x = .dat (.bl p) ∧ (p = true → Q (.dat (.bl true)) μ1) ∧ (p = false → WR (b τ μ1) Q X)) X) : WR (mOrV a b τ μ) Q X := by with_unfolding_all exact RR.e_orV k
theorem e_notV (k : WR (a τ μ) (fun x μ1 => ∃ p, x = .dat (.bl p) ∧ Q (.dat (.bl (!p))) μ1) X) : WR (mNotV a τ μ) Q X := by with_unfolding_all exact RR.e_notV k
theorem e_if {p : MT} (k : WR (p τ μ) (fun k μ1 => (k = true → WR (a τ μ1) Q X) ∧ (k = false → WR (b τ μ1) Q X)) X) : WR (mIf p a b τ μ) Q X := by with_unfolding_all exact RR.e_if k
theorem e_chain {g h : D → D → Option D} (k : WR (a τ μ) (fun x μ1 => WR (b τ μ1) (fun y μ2 => WM (opB g μ2 x y) fun p => (p = true → WR (c τ μ2) (fun z μ3 => WM (opV h μ3 y z) fun r => Q r μ3) X) ∧ (p = false → Q (.dat (.bl false)) μ2)) X) X) : WR (mChain g h a b c τ μ) Q X := by with_unfolding_all exact RR.e_chain k
theorem a_nil {Q : List Vx → Mu → Prop} (k : Q [] μ) : WR (mNil τ μ) Q X := by with_unfolding_all exact RR.a_nil k
theorem a_cons {Q : List Vx → Mu → Prop} (k : WR (a τ μ) (fun x μ1 => WR (t τ μ1) (fun xs μ2 => Q (x :: xs) μ2) X) X) : WR (mCons a t τ μ) Q X := by with_unfolding_all exact RR.a_cons k
theorem e_tup (k : WR (t τ μ) (fun xs μ1 => WM (tupV xs) fun r => Q r μ1) X) : WR (mTup t τ μ) Q X := by with_unfolding_all exact RR.e_tup k
theorem e_dt {l : ML} (k : WR (l τ μ) (fun ds μ1 => Q (.dat (.lst ds)) μ1) X) : WR (mDt l τ μ) Q X := by with_unfolding_all exact RR.e_dt k
theorem e_al {l : ML} (k : WR (l τ μ) (fun ds μ1 => Q (.ref μ1.length) (μ1 ++ [.ld ds])) X) : WR (mAl l τ μ) Q X := by with_unfolding_all exact RR.e_al k
theorem l_lst {Q : List D → Mu → Prop} (k : WR (t τ μ) (fun xs μ1 => WM (lstO xs) fun ds => Q ds μ1) X) : WR (lLst t τ μ) Q X := by with_unfolding_all exact RR.l_lst k
theorem l_of {Q : List D → Mu → Prop} {g : Mu → Vx → Option (List D)} (k : WR (a τ μ) (fun x μ1 => WM (g μ1 x) fun r => Q r μ1) X) : WR (lOf g a τ μ) Q X := by with_unfolding_all exact RR.l_of k
theorem l_of2 {Q : List D → Mu → Prop} {g : Mu → Vx → Vx → Option (List D)} (k : WR (a τ μ) (fun x μ1 => WR (b τ μ1) (fun y μ2 => WM (g μ2 x y) fun r => Q r μ2) X) X) : WR (lOf2 g a b τ μ) Q X := by with_unfolding_all exact RR.l_of2 k
theorem e_lv (k : WR (t τ μ) (fun xs μ1 => xs.length ≤ 100000 ∧ Q (.ref μ1.length) (μ1 ++ [.lv xs])) X) : WR (mLv t τ μ) Q X := by with_unfolding_all exact RR.e_lv k
theorem e_cb {g : List D → Option D} (k : WR (t τ μ) (fun xs μ1 => WM (cbO g μ1 xs) fun d => Q (.dat d) μ1) X) : WR (mCB g t τ μ) Q X := by with_unfolding_all exact RR.e_cb k
theorem e_count (k : WR (a τ μ) (fun x μ1 => WM (isTpl x) fun ds => WR (e τ μ1) (fun y μ2 => WM (cntO ds y) fun r => Q r μ2) X) X) : WR (mCount a e τ μ) Q X := by with_unfolding_all exact RR.e_count k
theorem e_join (k : WR (a τ μ) (fun x μ1 => WM (isStr x) fun s => WR (e τ μ1) (fun y μ2 => WM (joinO s μ2 y) fun r => Q r μ2) X) X) : WR (mJoin a e τ μ) Q X := by with_unfolding_all exact RR.e_join k
theorem o_none {Q : Option Int → Mu → Prop} (k : Q none μ) : WR (mNoPart τ μ) Q X := by with_unfolding_all exact RR.o_none k
theorem o_part {Q : Option Int → Mu → Prop} (k : WR (e τ μ) (fun x μ1 => WM (isInt x) fun n => Q (some n) μ1) X) : WR (mPart e τ μ) Q X := by with_unfolding_all exact RR.o_part k
theorem e_slT {l h : MO} (k : WR (a τ μ) (fun x μ1 => WR (l τ μ1) (fun lo μ2 => WR (h τ μ2) (fun hi μ3 => WM (fSlT x lo hi) fun r => Q r μ3) X) X) X) : WR (mSlT a l h τ μ) Q X := by with_unfolding_all exact RR.e_slT k
theorem l_sl {Q : List D → Mu → Prop} {l h : MO} (k : WR (a τ μ) (fun x μ1 => WR (l τ μ1) (fun lo μ2 => WR (h τ μ2) (fun hi μ3 => WM (nSl μ3 x lo hi) fun r => Q r μ3) X) X) X) : WR (lSl a l h τ μ) Q X := by with_unfolding_all exact RR.l_sl k
theorem e_fmt (k : WR (e τ μ) (fun x μ1 => WM (fFmt μ1 x) fun r => Q r μ1) X) : WR (mFmt e τ μ) Q X := by with_unfolding_all exact RR.e_fmt k
theorem j_nil {Q : Str → Mu → Prop} {acc : Str} (k : Q acc μ) : WR (mJs [] acc τ μ) Q X := by with_unfolding_all exact RR.j_nil k
theorem j_cons {Q : Str → Mu → Prop} {acc : Str} {es : List ME} (k : WR (e τ μ) (fun x μ1 => WM (isStr x) fun y => (acc ++ y).length ≤ 100000 ∧ WR (mJs es (acc ++ y) τ μ1) Q X) X) : WR (mJs (e :: es) acc τ μ) Q X := by with_unfolding_all exact RR.j_cons k
theorem e_joined {es : List ME} (k : WR (mJs es Str.empty τ μ) (fun r μ1 => Q (.dat (.str r)) μ1) X) : WR (mJoined es τ μ) Q X := by with_unfolding_all exact RR.e_joined k
theorem e_pop (k : WR (a τ μ) (fun x μ1 => ∃ i ds d, x = .ref i ∧ μ1[i]? = some (.ld ds) ∧ ds[ds.length - 1]? = some d ∧ Q (.dat d) (μ1.set i (.ld ds.dropLast))) X) : WR (mPop a τ μ) Q X := by with_unfolding_all exact RR.e_pop k
theorem e_popAt (k : WR (a τ μ) (fun x μ1 => isLstC μ1 x = true ∧ WR (e τ μ1) (fun y μ2 => ∃ i n ds d, x = .ref i ∧ y = .dat (.int n) ∧ μ2[i]? = some (.ld ds) ∧ (0 ≤ n ∧ n < 100000) ∧ ds[n.toNat]? = some d ∧ Q (.dat d) (μ2.set i (.ld (ds.eraseIdx n.toNat)))) X) X) : WR (mPopAt a e τ μ) Q X := by with_unfolding_all exact RR.e_popAt k
theorem e_app (k : WR (a τ μ) (fun x μ1 => isLstC μ1 x = true ∧ WR (e τ μ1) (fun y μ2 => ∃ i ds d, x = .ref i ∧ y = .dat d ∧ μ2[i]? = some (.ld ds) ∧ ds.length < 100000 ∧ Q (.dat .non) (μ2.set i (.ld (ds ++ [d])))) X) X) : WR (mApp a e τ μ) Q X := by with_unfolding_all exact RR.e_app k
theorem e_clr (k : WR (a τ μ) (fun x μ1 => ∃ i ds, x = .ref i ∧ μ1[i]? = some (.ld ds) ∧ Q (.dat .non) (μ1.set i (.ld []))) X) : WR (mClr a τ μ) Q X := by with_unfolding_all exact RR.e_clr k
theorem e_call {S : Sem} (k : WR (t τ μ) (fun xs μ1 => WR (S xs μ1) Q X) X) : WR (mCall S t τ μ) Q X := by with_unfolding_all exact RR.e_call k
theorem e_meth {c0 m : String} {S : Sem} (k : WR (a τ μ) (fun x μ1 => isInst c0 m μ1 x = true ∧ WR (t τ μ1) (fun xs μ2 => WR (S (x :: xs) μ2) Q X) X) X) : WR (mMeth c0 m S a t τ μ) Q X := by with_unfolding_all exact RR.e_meth k
theorem e_make {c0 : String} {S : Sem} (k : WR (t τ μ) (fun xs μ1 => WR (S (.ref μ1.length :: xs) (μ1 ++ [.ins c0 [] []])) (fun r μ2 => WR (madeO c0 μ1.length r μ2) Q X) (fun e μ2 => X e (μ2.take μ1.length))) X) : WR (mMake c0 S t τ μ) Q X := by with_unfolding_all exact RR.e_make k
theorem r_made {c0 : String} {ns : List String} {xs : List D} {n : Nat} (h1 : μ[n]? = some (.ins c0 ns xs)) (h2 : μ.length = n + 1) (k : Q (.dat (.obj c0 ns xs)) (μ.take n)) : WR (madeO c0 n (.dat .non) μ) Q X := by with_unfolding_all exact RR.r_made h1 h2 k
theorem e_ownEq {neg : Bool} {c0 : String} {S : Sem} (k : WR (a τ μ) (fun x μ1 => WR (b τ μ1) (fun y μ2 => ∃ d e, isObj c0 x = some d ∧ y = .dat e ∧ eqKind c0 e = true ∧ WR (S [.dat d, .dat e] μ2) (fun r μ3 => WM (isBl r) fun k => Q (.dat (.bl (if neg = true then !k else k))) μ3) X) X) X) : WR (mOwnEq neg c0 S a b τ μ) Q X := by with_unfolding_all exact RR.e_ownEq k
theorem e_ownLen {c0 : String} {S : Sem} (k : WR (a τ μ) (fun x μ1 => ∃ d, isObj c0 x = some d ∧ WR (S [.dat d] μ1) (fun r μ2 => WM (isInt r) fun k => (0 ≤ k ∧ k ≤ 1000000) ∧ Q (.dat (.int k)) μ2) X) X) : WR (mOwnLen c0 S a τ μ) Q X := by with_unfolding_all exact RR.e_ownLen k
theorem e_ownRepr {c0 : String} {S : Sem} (k : WR (a τ μ) (fun x μ1 => ∃ d, isObj c0 x = some d ∧ WR (S [.dat d] μ1) (fun r μ2 => WM (isStr r) fun k => Q (.dat (.str k)) μ2) X) X) : WR (mOwnRepr c0 S a τ μ) Q X := by with_unfolding_all exact RR.e_ownRepr k
theorem t_B {Q : Bool → Mu → Prop} (k : WR (e τ μ) (fun x μ1 => WM (isBl x) fun k => Q k μ1) X) : WR (mB' e τ μ) Q X := by with_unfolding_all exact RR.t_B k
theorem t_yes {Q : Bool → Mu → Prop} (k : Q true μ) : WR (mYes τ μ) Q X := by with_unfolding_all exact RR.t_yes k
theorem t_and {Q : Bool → Mu → Prop} {p q : MT} (k : WR (p τ μ) (fun k μ1 => (k = true → WR (q τ μ1) Q X) ∧ (k = false → Q false μ1)) X) : WR (mAnd p q τ μ) Q X := by with_unfolding_all exact RR.t_and k
theorem t_or {Q : Bool → Mu → Prop} {p q : MT} (k : WR (p τ μ) (fun k μ1 => (k = true → Q true μ1) ∧ (k = false → WR (q τ μ1) Q X)) X) : WR (mOr p q τ μ) Q X := by with_unfolding_all exact RR.t_or k
theorem t_not {Q : Bool → Mu → Prop} {p : MT} (k : WR (p τ μ) (fun k μ1 => Q (!k) μ1) X) : WR (mNot p τ μ) Q X := by with_unfolding_all exact RR.t_not k
theorem i_rng {Q : Src → Mu → Prop} {f : List Vx → Option (List It1)} (k : WR (t τ μ) (fun xs μ1 => WM (f xs) fun is => Q (.its is) μ1) X) : WR (mRng f t τ μ) Q X := by with_unfolding_all exact RR.i_rng k
theorem i_seq {Q : Src → Mu → Prop} (k : WR (e τ μ) (fun x μ1 => WM (rowOf μ1 x) fun r => Q (.sq r) μ1) X) : WR (mSeqI e τ μ) Q X := by with_unfolding_all exact RR.i_seq k
theorem i_enum {Q : Src → Mu → Prop} (k : WR (t τ μ) (fun xs μ1 => ∃ x, xs = [x] ∧ WM (rowOf μ1 x) fun r => Q (.en r) μ1) X) : WR (mEnum t τ μ) Q X := by with_unfolding_all exact RR.i_enum k
theorem i_zip {Q : Src → Mu → Prop} (k : WR (t τ μ) (fun xs μ1 => ∃ x y, xs = [x, y] ∧ lstV x = lstV y ∧ WM (rowOf μ1 x) fun r => WM (rowOf μ1 y) fun s => Q (.zp r s) μ1) X) : WR (mZip t τ μ) Q X := by with_unfolding_all exact RR.i_zip k
theorem l_lc {Q : List D → Mu → Prop} {it : MI} {g : MGI} {p : MT} {vs : List Nat} (k : WR (it τ μ) (fun src μ1 => WR (runC g p e src (wipeP τ vs) fuelN 0 μ1) (fun ds μ2 => ds.length ≤ 100000 ∧ Q ds μ2) fun _ _ => False) X) : WR (lLc it g p e vs τ μ) Q X := by with_unfolding_all exact RR.l_lc k
theorem r_lcAux {g : MGI} {p : MT} {src : Src} {Q : List D → Mu → Prop} (I : Nat → List D → Mu → Prop) (n : Nat)
    (st : ∀ k acc μ, k < n → I k acc μ → ∃ x, srcAt src μ k = some (some x) ∧ WM (g x τ μ) fun q => WR (p q.1 q.2) (fun b μ2 => (b = true → WR (e q.1 μ2) (fun r μ3 => ∃ d, r = .dat d ∧ I (k + 1) (acc ++ [d]) μ3) fun _ _ => False) ∧ (b = false → I (k + 1) acc μ2)) fun _ _ => False)
    (en : ∀ acc μ, I n acc μ → srcAt src μ n = some none ∧ Q acc μ) : ∀ (f k : Nat) (acc : List D) (μ : Mu), n < k + f → k ≤ n → I k acc μ → WR (runC g p e src τ f k μ) (fun ds μ2 => Q (acc ++ ds) μ2) fun _ _ => False := by with_unfolding_all exact RR.r_lcAux I n st en
theorem r_lc {g : MGI} {p : MT} {src : Src} {Q : List D → Mu → Prop} (I : Nat → List D → Mu → Prop) (n : Nat) (hn : n ≤ 1000000) (h0 : I 0 [] μ)
    (st : ∀ k acc μ, k < n → I k acc μ → ∃ x, srcAt src μ k = some (some x) ∧ WM (g x τ μ) fun q => WR (p q.1 q.2) (fun b μ2 => (b = true → WR (e q.1 μ2) (fun r μ3 => ∃ d, r = .dat d ∧ I (k + 1) (acc ++ [d]) μ3) fun _ _ => False) ∧ (b = false → I (k + 1) acc μ2)) fun _ _ => False)
    (en : ∀ acc μ, I n acc μ → srcAt src μ n = some none ∧ Q acc μ) : WR (runC g p e src τ fuelN 0 μ) Q fun _ _ => False := by with_unfolding_all exact RR.r_lc I n hn h0 st en
end
section
variable {τ : Ls} {μ : Mu} {N : Ls → Mu → Prop} {R : Vx → Mu → Prop} {B C : Ls → Mu → Prop} {X : Exc → Mu → Prop} {a b c e : ME} {t : MT} {i j : Nat} {s s' : MS}
theorem s_ret (k : WR (e τ μ) R X) : WS (mRet e τ μ) N R B C X := by with_unfolding_all exact RR.s_ret k
theorem s_retN (k : R (.dat .non) μ) : WS (mRetN τ μ) N R B C X := by with_unfolding_all exact RR.s_retN k
theorem s_next (k : N τ μ) : WS (mNext τ μ) N R B C X := by with_unfolding_all exact RR.s_next k
theorem s_brk (k : B τ μ) : WS (mBrk τ μ) N R B C X := by with_unfolding_all exact RR.s_brk k
theorem s_cont (k : C τ μ) : WS (mCont τ μ) N R B C X := by with_unfolding_all exact RR.s_cont k
theorem s_seq (k : WS (s τ μ) (fun τ1 μ1 => WS (s' τ1 μ1) N R B C X) R B C X) : WS (mSeq s s' τ μ) N R B C X := by with_unfolding_all exact RR.s_seq k
theorem s_cut (M : Ls → Mu → Prop) (h : WS (s τ μ) M R B C X) (k : ∀ τ1 μ1, M τ1 μ1 → WS (s' τ1 μ1) N R B C X) : WS (mSeq s s' τ μ) N R B C X := by with_unfolding_all exact RR.s_cut M h k
theorem s_if (k : WR (t τ μ) (fun x μ1 => (x = true → WS (s τ μ1) N R B C X) ∧ (x = false → WS (s' τ μ1) N R B C X)) X) : WS (mIfS t s s' τ μ) N R B C X := by with_unfolding_all exact RR.s_if k
theorem s_drop (k : WR (e τ μ) (fun _ μ1 => N τ μ1) X) : WS (mDrop e τ μ) N R B C X := by with_unfolding_all exact RR.s_drop k
theorem s_asg {g : MG} (k : WR (e τ μ) (fun x μ1 => WM (g x τ μ1) fun q => N q.1 q.2) X) : WS (mAsg e g τ μ) N R B C X := by with_unfolding_all exact RR.s_asg k
theorem s_par (k : WR (a τ μ) (fun x μ1 => WR (b τ μ1) (fun y μ2 => (i ≠ j ∧ i < τ.length ∧ j < τ.length) ∧ N ((τ.set i (some x)).set j (some y)) μ2) X) X) : WS (mPar i j a b τ μ) N R B C X := by with_unfolding_all exact RR.s_par k
theorem s_aug {f : Int → Int → Int} {x : Int} (h : τ[i]? = some (some (.dat (.int x)))) (k : WR (e τ μ) (fun y μ1 => WM (isInt y) fun b => N (τ.set i (some (.dat (.int (f x b))))) μ1) X) : WS (mAug f i e τ μ) N R B C X := by with_unfolding_all exact RR.s_aug h k
theorem s_augS {f : Int → Int → Int} {n : Int} (k : WR (a τ μ) (fun x μ1 => WM (getC x n μ1) fun p => WR (e τ μ1) (fun y μ2 => WM (isInt y) fun q => WM (setC (refI x) n (.int (f p q)) μ2) fun μ3 => N τ μ3) X) X) : WS (mAugS f a n e τ μ) N R B C X := by with_unfolding_all exact RR.s_augS k
theorem s_setI (k : WR (e τ μ) (fun x μ1 => WR (a τ μ1) (fun o μ2 => WR (b τ μ2) (fun y μ3 => ∃ d i n, x = .dat d ∧ o = .ref i ∧ y = .dat (.int n) ∧ WM (setC i n d μ3) fun μ4 => N τ μ4) X) X) X) : WS (mSetI a e b τ μ) N R B C X := by with_unfolding_all exact RR.s_setI k
theorem s_fld {c0 f : String} (k : WR (e τ μ) (fun x μ1 => WR (a τ μ1) (fun y μ2 => WM (putFld c0 f y x μ2) fun μ3 => N τ μ3) X) X) : WS (mFldS c0 f a e τ μ) N R B C X := by with_unfolding_all exact RR.s_fld k
theorem s_for {it : MI} {g : MGI} (k : WR (it τ μ) (fun src μ1 => WS (runF g s src fuelN 0 τ μ1) N R B C X) X) : WS (mFor it g s τ μ) N R B C X := by with_unfolding_all exact RR.s_for k
theorem r_forAux {g : MGI} {src : Src} (I : Nat → Ls → Mu → Prop) (n : Nat)
    (st : ∀ k τ μ, k < n → I k τ μ → ∃ x, srcAt src μ k = some (some x) ∧ WM (g x τ μ) fun q => WS (s q.1 q.2) (I (k + 1)) R N (I (k + 1)) X)
    (en : ∀ τ μ, I n τ μ → srcAt src μ n = some none ∧ N τ μ) : ∀ (f k : Nat) (τ : Ls) (μ : Mu), n < k + f → k ≤ n → I k τ μ → WS (runF g s src f k τ μ) N R B C X := by with_unfolding_all exact RR.r_forAux I n st en
theorem r_for {g : MGI} {src : Src} (I : Nat → Ls → Mu → Prop) (n : Nat) (hn : n ≤ 1000000) (h0 : I 0 τ μ)
    (st : ∀ k τ μ, k < n → I k τ μ → ∃ x, srcAt src μ k = some (some x) ∧ WM (g x τ μ) fun q => WS (s q.1 q.2) (I (k + 1)) R N (I (k + 1)) X)
    (en : ∀ τ μ, I n τ μ → srcAt src μ n = some none ∧ N τ μ) : WS (runF g s src fuelN 0 τ μ) N R B C X := by with_unfolding_all exact RR.r_for I n hn h0 st en
theorem s_while {n : Nat} (I : Nat → Ls → Mu → Prop) {m : Nat} (h0 : I m τ μ) (hm : m < n) (st : ∀ k τ μ, I k τ μ → WR (t τ μ) (fun x μ1 => (x = true → 0 < k ∧ WS (s τ μ1) (I (k - 1)) R N (I (k - 1)) X) ∧ (x = false → N τ μ1)) X) : WS (mWhile n t s τ μ) N R B C X := by with_unfolding_all exact RR.s_while I h0 hm st
theorem g_name {x : Vx} {N : Ls × Mu → Prop} (h : i < τ.length) (k : N (τ.set i (some x), μ)) : WM (stName i x τ μ) N := by with_unfolding_all exact RR.g_name h k
theorem g_tup2 {g h : MG} {x y z : Vx} {N : Ls × Mu → Prop} (e : two x = some (y, z)) (k : WM (g y τ μ) fun q => WM (h z q.1 q.2) N) : WM (stTup2 g h x τ μ) N := by with_unfolding_all exact RR.g_tup2 e k
theorem g_star {g h : MG} {x : Vx} {ds : List D} {d : D} {N : Ls × Mu → Prop} (e : dlst μ x = some ds) (hz : ds.length ≤ 100000) (hl : ds.getLast? = some d) (k : WM (g (.ref μ.length) τ (μ ++ [.ld ds.dropLast])) fun q => WM (h (.dat d) q.1 q.2) N) : WM (stStar g h x τ μ) N := by with_unfolding_all exact RR.g_star e hz hl k
theorem g_fld {c0 f : String} {o x : Vx} {N : Ls × Mu → Prop} (h : τ[i]? = some (some o)) (k : WM (putFld c0 f o x μ) fun μ1 => N (τ, μ1)) : WM (stFld c0 f i x τ μ) N := by with_unfolding_all exact RR.g_fld h k
theorem gi_name {x : Vx} {N : Ls × Mu → Prop} (k : WM (stName i x τ μ) N) : WM (sgName i (.one x) τ μ) N := by with_unfolding_all exact RR.gi_name k
theorem gi_tup2 {g h : MG} {x : Vx} {N : Ls × Mu → Prop} (k : WM (stTup2 g h x τ μ) N) : WM (sgTup2 g h (.one x) τ μ) N := by with_unfolding_all exact RR.gi_tup2 k
theorem gi_two {g h : MG} {x y : Vx} {N : Ls × Mu → Prop} (k : WM (g x τ μ) fun q => WM (h y q.1 q.2) N) : WM (sgTup2 g h (.two x y) τ μ) N := by with_unfolding_all exact RR.gi_two k
theorem f_body {k n : Nat} {s : MS} {as : List Vx} {Q : Vx → Mu → Prop} (h1 : as.length = k) (w : WS (s (as.map some ++ List.replicate (n - k) none) μ) (fun _ μ1 => Q (.dat .non) (μ1.take μ.length)) (fun r μ1 => WR (outV μ1 μ.length r) Q X) (fun _ _ => False) (fun _ _ => False) (fun e μ1 => X e (μ1.take μ.length))) : WR (body k n s as μ) Q X := by with_unfolding_all exact RR.f_body h1 w
theorem f_bodyN {k n : Nat} {s : MS} {as : List Vx} {Q : Vx → Mu → Prop} (h1 : as.length = k) (w : WS (s (as.map some ++ List.replicate (n - k) none) μ) (fun _ _ => False) (fun r μ1 => WR (outN μ1 μ.length r) Q X) (fun _ _ => False) (fun _ _ => False) (fun e μ1 => X e (μ1.take μ.length))) : WR (bodyN k n s as μ) Q X := by with_unfolding_all exact RR.f_bodyN h1 w
theorem o_dat {n : Nat} {d : D} {Q : Vx → Mu → Prop} (k : Q (.dat d) (μ.take n)) : WR (outV μ n (.dat d)) Q X := by with_unfolding_all exact RR.o_dat k
theorem o_new {n i : Nat} {ds : List D} {Q : Vx → Mu → Prop} (h1 : n ≤ i) (h2 : μ[i]? = some (.ld ds)) (k : Q (.dat (.lst ds)) (μ.take n)) : WR (outV μ n (.ref i)) Q X := by with_unfolding_all exact RR.o_new h1 h2 k
theorem o_old {n i : Nat} {Q : Vx → Mu → Prop} (h1 : i < n) (k : Q (.ref i) (μ.take n)) : WR (outV μ n (.ref i)) Q X := by with_unfolding_all exact RR.o_old h1 k
theorem o_newN {n i : Nat} {ds : List D} {Q : Vx → Mu → Prop} (h1 : n ≤ i) (h2 : μ[i]? = some (.ld ds)) (k : Q (.ref n) (μ.take n ++ [.ld ds])) : WR (outN μ n (.ref i)) Q X := by with_unfolding_all exact RR.o_newN h1 h2 k
end
end Q
namespace Q
/-! Q2: primitives. -/
theorem br_t {p : Bool} {A B : Prop} (h : p = true) (a : A) : (p = true → A) ∧ (p = false → B) := ⟨fun _ => a, fun e => by rw [h] at e; cases e⟩
theorem br_f {p : Bool} {A B : Prop} (h : p = false) (b : B) : (p = true → A) ∧ (p = false → B) := ⟨fun e => by (rw [h] at e; cases e), fun _ => b⟩
theorem br_d {c : Prop} [Decidable c] {A B : Prop} (a : c → A) (b : ¬ c → B) : (decide c = true → A) ∧ (decide c = false → B) := ⟨fun h => a (of_decide_eq_true h), fun h => b (of_decide_eq_false h)⟩
theorem br_b {p : Bool} {A B : Prop} (a : p = true → A) (b : p = false → B) : (p = true → A) ∧ (p = false → B) := ⟨a, b⟩
theorem br_n {p : Bool} {A B : Prop} (h : (p = true → B) ∧ (p = false → A)) : ((!p) = true → A) ∧ ((!p) = false → B) := And.intro (fun e => h.2 (by simpa using e)) (fun e => h.1 (by simpa using e))
section
variable {μ ν κ : Mu} {n b : Nat} {c c0 c1 c2 x : Cl}
theorem get0 (hν : ν.length = n) : (ν ++ (c0 :: κ))[n]? = some c0 := by subst hν; simp
theorem get1 (hν : ν.length = n) : (ν ++ (c0 :: c1 :: κ))[n + 1]? = some c1 := by subst hν; simp
theorem get2 (hν : ν.length = n) : (ν ++ (c0 :: c1 :: c2 :: κ))[n + 2]? = some c2 := by subst hν; simp
theorem set0 (hν : ν.length = n) : (ν ++ (c0 :: κ)).set n x = ν ++ (x :: κ) := by subst hν; simp [List.set_append]
theorem set1 (hν : ν.length = n) : (ν ++ (c0 :: c1 :: κ)).set (n + 1) x = ν ++ (c0 :: x :: κ) := by subst hν; simp [List.set_append]
theorem set2 (hν : ν.length = n) : (ν ++ (c0 :: c1 :: c2 :: κ)).set (n + 2) x = ν ++ (c0 :: c1 :: x :: κ) := by subst hν; simp [List.set_append]
theorem take_k (hν : ν.length = n) : (ν ++ κ).take n = ν := by subst hν; simp
theorem take_s : μ.take μ.length = μ := List.take_length
theorem isl {i : Nat} {ds : List D} (h : μ[i]? = some (.ld ds)) : isLstC μ (.ref i) = true := by unfold isLstC; dsimp only; rw [h]
theorem getb (h : b < μ.length) : (μ.set b x)[b]? = some x := List.getElem?_set_self h
theorem setset {y : Cl} : (μ.set b x).set b y = μ.set b y := List.set_set ..
end
theorem o_div {μ : Mu} {i j : Int} (h : 0 < j ∧ j < 2 ^ 64) : opV gDiv μ (.dat (.int i)) (.dat (.int j)) = some (.dat (.int (i / j))) := by
  show (match gDiv (.int i) (.int j) with | none => none | some f => some (Vx.dat f)) = _
  unfold gDiv; dsimp only; rw [if_pos h]
theorem o_mod {μ : Mu} {i j : Int} (h : 0 < j) : opV gMod μ (.dat (.int i)) (.dat (.int j)) = some (.dat (.int (i % j))) := by
  show (match gMod (.int i) (.int j) with | none => none | some f => some (Vx.dat f)) = _
  unfold gMod; dsimp only; rw [if_pos h]
theorem o_mul {μ : Mu} {i j : Int} (h : (-(2 ^ 64) < j ∧ j < 2 ^ 64) ∨ (-(2 ^ 64) < i ∧ i < 2 ^ 64)) : opV gMul μ (.dat (.int i)) (.dat (.int j)) = some (.dat (.int (i * j))) := by
  show (match gMul (.int i) (.int j) with | none => none | some f => some (Vx.dat f)) = _
  unfold gMul; dsimp only; rw [if_pos h]
theorem o_pow {μ : Mu} {i j : Int} (h : 0 ≤ j ∧ j ≤ 1000000 ∧ i.natAbs < 2 ^ 64) : opV gPow μ (.dat (.int i)) (.dat (.int j)) = some (.dat (.int (i ^ j.toNat))) := by
  show (match gPow (.int i) (.int j) with | none => none | some f => some (Vx.dat f)) = _
  unfold gPow; dsimp only; rw [if_pos h]
def dn (k : Nat) : D := .int (k : Nat)
theorem n_rg {μ : Mu} {n : Nat} (h : (n : Int) ≤ 100000) : nRg μ (.dat (.int (n : Int))) = some ((List.range n).map dn) := by
  unfold nRg
  dsimp only
  rw [if_pos ⟨by omega, h⟩, Int.toNat_natCast]
  rfl
theorem rg1 {n : Nat} (h : (n : Int) ≤ 1000000) : rng1 [.dat (.int (n : Int))] = some (rngD 0 n) := by
  unfold rng1
  dsimp only
  rw [if_pos (by omega), Int.toNat_natCast]
theorem rg2 {m n : Nat} (h : (m : Int) ≤ 1000000 ∧ (n : Int) ≤ 1000000) : rng2 [.dat (.int (m : Int)), .dat (.int (n : Int))] = some (rngD m (n - m)) := by
  unfold rng2
  dsimp only
  rw [if_pos (by omega), show ((n : Int) - (m : Int)).toNat = n - m by omega]
theorem rng_get {lo : Int} {n k : Nat} {μ : Mu} (h : k < n) : srcAt (.its (rngD lo n)) μ k = some (some (.one (.dat (.int (lo + (k : Nat)))))) := by
  unfold srcAt rngD
  dsimp only
  rw [List.getElem?_map, List.getElem?_range h]
  rfl
theorem rng_end {lo : Int} {n : Nat} {μ : Mu} : srcAt (.its (rngD lo n)) μ n = some none := by
  unfold srcAt rngD
  dsimp only
  rw [List.getElem?_eq_none (by simp)]
section
variable {τ : Ls} {μ : Mu} {N : Ls → Mu → Prop} {R : Vx → Mu → Prop} {B C : Ls → Mu → Prop} {X : Exc → Mu → Prop} {g : MGI} {s : MS} {p : MT} {e : ME}
theorem r_rng (I : Nat → Ls → Mu → Prop) {n : Nat} {lo : Int} (hn : n ≤ 1000000) (h0 : I 0 τ μ)
    (st : ∀ k τ μ, k < n → I k τ μ → WM (g (.one (.dat (.int (lo + (k : Nat))))) τ μ) fun q => WS (s q.1 q.2) (I (k + 1)) R N (I (k + 1)) X) (en : ∀ τ μ, I n τ μ → N τ μ) : WS (runF g s (.its (rngD lo n)) fuelN 0 τ μ) N R B C X :=
  r_for I n hn h0 (fun k τ μ hk hI => ⟨_, rng_get hk, st k τ μ hk hI⟩) fun τ μ hI => ⟨rng_end, en τ μ hI⟩
theorem r_rng0 (I : Nat → Ls → Mu → Prop) {n : Nat} (hn : n ≤ 1000000) (h0 : I 0 τ μ)
    (st : ∀ (k : Nat) τ μ, k < n → I k τ μ → WM (g (.one (.dat (.int (k : Int)))) τ μ) fun q => WS (s q.1 q.2) (I (k + 1)) R N (I (k + 1)) X) (en : ∀ τ μ, I n τ μ → N τ μ) : WS (runF g s (.its (rngD 0 n)) fuelN 0 τ μ) N R B C X :=
  r_rng I hn h0 (fun k τ μ hk hI => by rw [Int.zero_add]; exact st k τ μ hk hI) en
/-- a standing row -/
theorem r_st (I : Nat → Ls → Mu → Prop) {xs : List Vx} (hn : xs.length ≤ 1000000) (h0 : I 0 τ μ)
    (st : ∀ k x τ μ, xs[k]? = some x → I k τ μ → WM (g (.one x) τ μ) fun q => WS (s q.1 q.2) (I (k + 1)) R N (I (k + 1)) X) (en : ∀ τ μ, I xs.length τ μ → N τ μ) : WS (runF g s (.sq (.st xs)) fuelN 0 τ μ) N R B C X :=
  r_for I xs.length hn h0 (fun k τ μ hk hI => ⟨.one xs[k], by unfold srcAt rwAt; dsimp only; rw [List.getElem?_eq_getElem hk], st k _ τ μ (List.getElem?_eq_getElem hk) hI⟩) fun τ μ hI => ⟨by unfold srcAt rwAt; dsimp only; rw [List.getElem?_eq_none (Nat.le_refl _)], en τ μ hI⟩
theorem r_en (I : Nat → Ls → Mu → Prop) {xs : List Vx} (hn : xs.length ≤ 1000000) (h0 : I 0 τ μ)
    (st : ∀ (k : Nat) x τ μ, xs[k]? = some x → I k τ μ → WM (g (.two (.dat (.int (k : Nat))) x) τ μ) fun q => WS (s q.1 q.2) (I (k + 1)) R N (I (k + 1)) X) (en : ∀ τ μ, I xs.length τ μ → N τ μ) : WS (runF g s (.en (.st xs)) fuelN 0 τ μ) N R B C X :=
  r_for I xs.length hn h0 (fun k τ μ hk hI => ⟨.two (.dat (.int (k : Nat))) xs[k], by unfold srcAt rwAt; dsimp only; rw [List.getElem?_eq_getElem hk], st k _ τ μ (List.getElem?_eq_getElem hk) hI⟩) fun τ μ hI => ⟨by unfold srcAt rwAt; dsimp only; rw [List.getElem?_eq_none (Nat.le_refl _)], en τ μ hI⟩
/-! comprehensions that leave the store -/
def enF {α : Type} (p : Nat → α → Bool) (F : Nat → α → D) : Nat → List α → List D
  | _, [] => []
  | k, x :: xs => if p k x = true then F k x :: enF p F (k + 1) xs else enF p F (k + 1) xs
theorem enF_snoc {α : Type} {p : Nat → α → Bool} {F : Nat → α → D} {x : α} : ∀ (xs : List α) (k : Nat), enF p F k (xs ++ [x]) = enF p F k xs ++ (if p (k + xs.length) x = true then [F (k + xs.length) x] else [])
  | [], k => by simp [enF]
  | y :: ys, k => by
    rw [List.cons_append]
    unfold enF
    rw [enF_snoc ys (k + 1), show k + 1 + ys.length = k + (y :: ys).length by rw [List.length_cons]; omega]
    split <;> rfl
theorem enF_len {α : Type} {p : Nat → α → Bool} {F : Nat → α → D} : ∀ (xs : List α) (k : Nat), (enF p F k xs).length ≤ xs.length
  | [], k => Nat.le_refl _
  | y :: ys, k => by
    have := enF_len (p := p) (F := F) ys (k + 1)
    unfold enF
    split <;> simp only [List.length_cons] <;> omega
theorem enF_map {α : Type} {F : α → D} : ∀ (xs : List α) (k : Nat), enF (fun _ _ => true) (fun _ => F) k xs = xs.map F
  | [], k => rfl
  | y :: ys, k => by
    unfold enF
    rw [if_pos rfl, enF_map ys, List.map_cons]
theorem enF_filter {α : Type} {p : α → Bool} {F : α → D} : ∀ (xs : List α) (k : Nat), enF (fun _ => p) (fun _ => F) k xs = (xs.filter p).map F
  | [], k => rfl
  | y :: ys, k => by
    unfold enF
    rw [enF_filter ys, List.filter_cons]
    split <;> rfl
theorem r_lcG {α : Type} {src : Src} {Q : List D → Mu → Prop} {xs : List α} (h : Nat → α → It1) (f : Nat → α → Bool) (F : Nat → α → D) (hz : xs.length ≤ 100000)
    (hs : ∀ k x, xs[k]? = some x → srcAt src μ k = some (some (h k x))) (he : srcAt src μ xs.length = some none)
    (st : ∀ k x, xs[k]? = some x → WM (g (h k x) τ μ) fun q => WR (p q.1 q.2) (fun b μ2 => b = f k x ∧ μ2 = μ ∧ (f k x = true → WR (e q.1 μ) (fun r μ3 => r = .dat (F k x) ∧ μ3 = μ) fun _ _ => False)) fun _ _ => False)
    (en : Q (enF f F 0 xs) μ) : WR (runC g p e src τ fuelN 0 μ) (fun ds μ2 => ds.length ≤ 100000 ∧ Q ds μ2) fun _ _ => False := by
  refine r_lc (fun k acc μ' => μ' = μ ∧ acc = enF f F 0 (xs.take k)) xs.length (by omega) ⟨rfl, rfl⟩ (fun k acc μ' hk hI => ?_) (fun acc μ' hI => ?_)
  · obtain ⟨rfl, rfl⟩ := hI
    have hx := List.getElem?_eq_getElem hk
    refine ⟨_, hs k _ hx, WM_mono (st k _ hx) fun q z => WR_mono z (fun b μ2 z => ?_) fun _ _ z => z⟩
    obtain ⟨rfl, rfl, z⟩ := z
    have et : enF f F 0 (xs.take (k + 1)) = enF f F 0 (xs.take k) ++ (if f k xs[k] = true then [F k xs[k]] else []) := by
      rw [List.take_succ_eq_append_getElem hk, enF_snoc, Nat.zero_add, List.length_take, Nat.min_eq_left (by omega)]
    refine ⟨fun hb => WR_mono (z hb) (fun r μ3 z => ?_) fun _ _ z => z, fun hb => ⟨rfl, ?_⟩⟩
    · obtain ⟨rfl, rfl⟩ := z
      exact ⟨_, rfl, rfl, by rw [et, if_pos hb]⟩
    · rw [et, hb]; simp
  · obtain ⟨rfl, rfl⟩ := hI
    rw [List.take_length]
    exact ⟨he, by have := enF_len (p := f) (F := F) xs 0; omega, en⟩
/-- over a standing row of data -/
theorem r_lcM {α : Type} {Q : List D → Mu → Prop} {xs : List α} (w : α → D) (F : α → D) (hz : xs.length ≤ 100000)
    (st : ∀ x ∈ xs, WM (g (.one (.dat (w x))) τ μ) fun q => WR (p q.1 q.2) (fun b μ2 => b = true ∧ μ2 = μ ∧ (true = true → WR (e q.1 μ) (fun r μ3 => r = .dat (F x) ∧ μ3 = μ) fun _ _ => False)) fun _ _ => False)
    (en : Q (xs.map F) μ) : WR (runC g p e (.sq (.st ((xs.map w).map .dat))) τ fuelN 0 μ) (fun ds μ2 => ds.length ≤ 100000 ∧ Q ds μ2) fun _ _ => False :=
  r_lcG (fun _ x => .one (.dat (w x))) (fun _ _ => true) (fun _ => F) hz (fun k x hx => by unfold srcAt rwAt; dsimp only; rw [List.getElem?_map, List.getElem?_map, hx]; rfl) (by unfold srcAt rwAt; dsimp only; rw [List.getElem?_eq_none (by simp)]) (fun k x hx => st x (List.mem_of_getElem? hx)) (by rw [enF_map]; exact en)
theorem r_lcF {α : Type} {Q : List D → Mu → Prop} {xs : List α} (w : α → D) (f : α → Bool) (F : α → D) (hz : xs.length ≤ 100000)
    (st : ∀ x ∈ xs, WM (g (.one (.dat (w x))) τ μ) fun q => WR (p q.1 q.2) (fun b μ2 => b = f x ∧ μ2 = μ ∧ (f x = true → WR (e q.1 μ) (fun r μ3 => r = .dat (F x) ∧ μ3 = μ) fun _ _ => False)) fun _ _ => False)
    (en : Q ((xs.filter f).map F) μ) : WR (runC g p e (.sq (.st ((xs.map w).map .dat))) τ fuelN 0 μ) (fun ds μ2 => ds.length ≤ 100000 ∧ Q ds μ2) fun _ _ => False :=
  r_lcG (fun _ x => .one (.dat (w x))) (fun _ => f) (fun _ => F) hz (fun k x hx => by unfold srcAt rwAt; dsimp only; rw [List.getElem?_map, List.getElem?_map, hx]; rfl) (by unfold srcAt rwAt; dsimp only; rw [List.getElem?_eq_none (by simp)]) (fun k x hx => st x (List.mem_of_getElem? hx)) (by rw [enF_filter]; exact en)
/-- over a range -/
theorem r_lcR {Q : List D → Mu → Prop} {n : Nat} (f : Nat → Bool) (F : Nat → D) (hz : n ≤ 100000)
    (st : ∀ k, k < n → WM (g (.one (.dat (.int (k : Int)))) τ μ) fun q => WR (p q.1 q.2) (fun b μ2 => b = f k ∧ μ2 = μ ∧ (f k = true → WR (e q.1 μ) (fun r μ3 => r = .dat (F k) ∧ μ3 = μ) fun _ _ => False)) fun _ _ => False)
    (en : Q (((List.range n).filter f).map F) μ) : WR (runC g p e (.its (rngD 0 n)) τ fuelN 0 μ) (fun ds μ2 => ds.length ≤ 100000 ∧ Q ds μ2) fun _ _ => False := by
  refine r_lcG (xs := List.range n) (fun _ k => .one (.dat (.int (k : Int)))) (fun _ => f) (fun _ => F) (by simpa using hz) (fun k x hx => ?_) ?_ (fun k x hx => st x (List.mem_range.mp (List.mem_of_getElem? hx))) (by rw [enF_filter]; exact en)
  · have hk : k < n := by simpa using (List.getElem?_eq_some_iff.mp hx).1
    rw [List.getElem?_range hk] at hx
    cases hx
    rw [rng_get hk, Int.zero_add]
  · rw [List.length_range]; exact rng_end
theorem r_lcRM {Q : List D → Mu → Prop} {n : Nat} (F : Nat → D) (hz : n ≤ 100000)
    (st : ∀ k, k < n → WM (g (.one (.dat (.int (k : Int)))) τ μ) fun q => WR (p q.1 q.2) (fun b μ2 => b = true ∧ μ2 = μ ∧ (true = true → WR (e q.1 μ) (fun r μ3 => r = .dat (F k) ∧ μ3 = μ) fun _ _ => False)) fun _ _ => False)
    (en : Q ((List.range n).map F) μ) : WR (runC g p e (.its (rngD 0 n)) τ fuelN 0 μ) (fun ds μ2 => ds.length ≤ 100000 ∧ Q ds μ2) fun _ _ => False :=
  r_lcR (fun _ => true) F hz st (by rw [List.filter_eq_self.mpr (fun _ _ => rfl)]; exact en)
/-- over enumerate of a standing row -/
theorem r_lcE {α : Type} {Q : List D → Mu → Prop} {xs : List α} (w : α → D) (f : Nat → α → Bool) (F : Nat → α → D) (hz : xs.length ≤ 100000)
    (st : ∀ (k : Nat) x, xs[k]? = some x → WM (g (.two (.dat (.int (k : Nat))) (.dat (w x))) τ μ) fun q => WR (p q.1 q.2) (fun b μ2 => b = f k x ∧ μ2 = μ ∧ (f k x = true → WR (e q.1 μ) (fun r μ3 => r = .dat (F k x) ∧ μ3 = μ) fun _ _ => False)) fun _ _ => False)
    (en : Q (enF f F 0 xs) μ) : WR (runC g p e (.en (.st ((xs.map w).map .dat))) τ fuelN 0 μ) (fun ds μ2 => ds.length ≤ 100000 ∧ Q ds μ2) fun _ _ => False :=
  r_lcG (fun k x => .two (.dat (.int (k : Nat))) (.dat (w x))) f F hz (fun k x hx => by unfold srcAt rwAt; dsimp only; rw [List.getElem?_map, List.getElem?_map, hx]; rfl) (by unfold srcAt rwAt; dsimp only; rw [List.getElem?_eq_none (by simp)]) st en
end
theorem ixD_nat {n k : Nat} (h : k < n) : ixD n (k : Int) = some k := by
  unfold ixD
  rw [if_pos (by omega), if_pos (by omega)]
  simp
theorem atL_nat {α : Type} {ds : List α} {k : Nat} {d : α} (h : ds[k]? = some d) : atL ds (k : Int) = some d := by
  unfold atL
  have := (List.getElem?_eq_some_iff.mp h).1
  rw [ixD_nat this]
  exact h
theorem atL_pos {α : Type} {ds : List α} {i : Int} {d : α} (h0 : 0 ≤ i) (h : ds[i.toNat]? = some d) : atL ds i = some d := by
  obtain ⟨k, rfl⟩ := Int.eq_ofNat_of_zero_le h0
  exact atL_nat (by simpa using h)
theorem atL_last {α : Type} {ds : List α} {d : α} (h : ds[ds.length - 1]? = some d) : atL ds (-1) = some d := by
  unfold atL ixD
  have := (List.getElem?_eq_some_iff.mp h).1
  rw [if_neg (by omega), if_pos (by omega)]
  dsimp only
  rw [show (-1 + (ds.length : Int)).toNat = ds.length - 1 by omega]
  exact h
theorem ix_lst {μ : Mu} {ds : List D} {i : Int} {d : D} (h : atL ds i = some d) : fIx μ (.dat (.lst ds)) (.dat (.int i)) = some (.dat d) := by unfold fIx; dsimp only; rw [h]; rfl
theorem ix_tup {μ : Mu} {ds : List D} {i : Int} {d : D} (h : atL ds i = some d) : fIx μ (.dat (.tup ds)) (.dat (.int i)) = some (.dat d) := by unfold fIx; dsimp only; rw [h]; rfl
theorem ix_tpl {μ : Mu} {ds : List D} {i : Int} {d : D} (h : atL ds i = some d) : fIx μ (.dat (.tpl ds)) (.dat (.int i)) = some (.dat d) := by unfold fIx; dsimp only; rw [h]; rfl
theorem ix_ref {μ : Mu} {ds : List D} {i : Int} {d : D} {b : Nat} (hb : μ[b]? = some (.ld ds)) (h : atL ds i = some d) : fIx μ (.ref b) (.dat (.int i)) = some (.dat d) := by unfold fIx; dsimp only; rw [hb]; dsimp only; rw [h]; rfl
theorem g_getC {μ : Mu} {ds : List D} {n a : Int} {b : Nat} (hb : μ[b]? = some (.ld ds)) (h : atL ds n = some (.int a)) : getC (.ref b) n μ = some a := by unfold getC; dsimp only; rw [hb]; dsimp only; rw [h]
theorem g_setC {μ : Mu} {ds : List D} {n : Int} {d : D} {b k : Nat} (hb : μ[b]? = some (.ld ds)) (h : ixD ds.length n = some k) : setC b n d μ = some (μ.set b (.ld (ds.set k d))) := by unfold setC; rw [hb]; dsimp only; rw [h]
theorem map2 {α β γ : Type} {f : α → β} {g : β → γ} {xs : List α} : (xs.map f).map g = xs.map fun x => g (f x) := by rw [List.map_map]; rfl
theorem app_len (a b : Str) : (a ++ b).length = a.length + b.length := Array.size_append
theorem o_adds {μ : Mu} {a b : Str} (h : a.length + b.length ≤ 100000) : opV gAddS μ (.dat (.str a)) (.dat (.str b)) = some (.dat (.str (a ++ b))) := by
  show (match gAddS (.str a) (.str b) with | none => none | some f => some (Vx.dat f)) = _
  unfold gAddS; dsimp only; rw [if_pos h]
def num (n : Nat) : Str := Str.ofString (toString (n : Int))
theorem fmt_bd {n : Nat} (h : n < 1000) : -(10 ^ 500) < (n : Int) ∧ (n : Int) < 10 ^ 500 := by
  have h1 : (0 : Int) < 10 ^ 497 := Int.pow_pos (by decide)
  have h2 : (10 : Int) ^ 500 = 10 ^ 497 * 10 ^ 3 := Int.pow_add 10 497 3
  have h3 : (10 : Int) ^ 3 = 1000 := by decide
  rw [h2, h3]
  generalize (10 : Int) ^ 497 = z at h1
  omega
theorem strI {μ : Mu} {n : Nat} (h : n < 1000) : cbO gStrI μ [.dat (.int n)] = some (.str (num n)) := by
  show gStrI [.int n] = _
  unfold gStrI
  dsimp only
  rw [if_pos (fmt_bd h)]
  rfl
theorem dec_nat {a b : Nat} : decide ((a : Int) = (b : Int)) = (a == b) := by
  by_cases h : a = b
  · subst h; simp
  · have : ¬ ((a : Int) = (b : Int)) := by omega
    simp [h, this]
theorem dec_nat' {a b : Nat} : decide ((a : Int) = (b : Int)) = decide (a = b) := by
  rw [dec_nat]; rfl
theorem o_eqI {μ : Mu} {a b : Nat} : opV gEq μ (.dat (.int (a : Int))) (.dat (.int (b : Int))) = some (.dat (.bl (a == b))) := by
  show some (Vx.dat (D.bl (decide ((a : Int) = b)))) = _
  rw [dec_nat]
end Q
namespace Q
section
variable {x y c0 c1 c2 c3 : Cl} {κ κ' : Mu} {n : Nat}
theorem gb : (x :: κ)[0]? = some x := rfl
theorem gk0 (h : κ.length = n) : (x :: (κ ++ (c0 :: κ')))[n + 1]? = some c0 := by subst h; simp
theorem gk1 (h : κ.length = n) : (x :: (κ ++ (c0 :: c1 :: κ')))[n + 2]? = some c1 := by subst h; simp
theorem gk2 (h : κ.length = n) : (x :: (κ ++ (c0 :: c1 :: c2 :: κ')))[n + 3]? = some c2 := by subst h; simp
theorem gk3 (h : κ.length = n) : (x :: (κ ++ (c0 :: c1 :: c2 :: c3 :: κ')))[n + 4]? = some c3 := by subst h; simp
theorem sb : (x :: κ).set 0 y = y :: κ := rfl
theorem sk0 (h : κ.length = n) : (x :: (κ ++ (c0 :: κ'))).set (n + 1) y = x :: (κ ++ (y :: κ')) := by subst h; simp [List.set_append]
theorem sk1 (h : κ.length = n) : (x :: (κ ++ (c0 :: c1 :: κ'))).set (n + 2) y = x :: (κ ++ (c0 :: y :: κ')) := by subst h; simp [List.set_append]
theorem sk2 (h : κ.length = n) : (x :: (κ ++ (c0 :: c1 :: c2 :: κ'))).set (n + 3) y = x :: (κ ++ (c0 :: c1 :: y :: κ')) := by subst h; simp [List.set_append]
theorem sk3 (h : κ.length = n) : (x :: (κ ++ (c0 :: c1 :: c2 :: c3 :: κ'))).set (n + 4) y = x :: (κ ++ (c0 :: c1 :: c2 :: y :: κ')) := by subst h; simp [List.set_append]
theorem tk (y : Cl) (h : κ.length = n) : (x :: (κ ++ κ')).take (y :: κ).length = x :: κ := by simp
end
section
variable {x : Cl} {κ : Mu} {c0 c1 c2 : Cl} {n : Nat} {τ : Ls} {l : ML} {Q : Vx → Mu → Prop} {X : Exc → Mu → Prop}
theorem al0 {x0 : Cl} (h : κ.length = n) (k : WR (l τ (x0 :: κ)) (fun ds μ1 => ∃ x, μ1 = x :: κ ∧ Q (.ref (n + 1)) (x :: (κ ++ [.ld ds]))) X) : WR (mAl l τ (x0 :: κ)) Q X :=
  e_al (WR_mono k (fun ds μ1 z => by obtain ⟨x, rfl, z⟩ := z; rw [List.length_cons, h, List.cons_append]; exact z) fun _ _ z => z)
theorem al1 {x0 d0 : Cl} (h : κ.length = n) (k : WR (l τ (x0 :: (κ ++ [d0]))) (fun ds μ1 => ∃ x c0, μ1 = x :: (κ ++ [c0]) ∧ Q (.ref (n + 2)) (x :: (κ ++ [c0, .ld ds]))) X) : WR (mAl l τ (x0 :: (κ ++ [d0]))) Q X :=
  e_al (WR_mono k (fun ds μ1 z => by
    obtain ⟨x, c0, rfl, z⟩ := z
    rw [List.length_cons, List.length_append, h, List.cons_append, List.append_assoc]; exact z) fun _ _ z => z)
theorem al2 {x0 d0 d1 : Cl} (h : κ.length = n) (k : WR (l τ (x0 :: (κ ++ [d0, d1]))) (fun ds μ1 => ∃ x c0 c1, μ1 = x :: (κ ++ [c0, c1]) ∧ Q (.ref (n + 3)) (x :: (κ ++ [c0, c1, .ld ds]))) X) : WR (mAl l τ (x0 :: (κ ++ [d0, d1]))) Q X :=
  e_al (WR_mono k (fun ds μ1 z => by
    obtain ⟨x, c0, c1, rfl, z⟩ := z
    rw [List.length_cons, List.length_append, h, List.cons_append, List.append_assoc]; exact z) fun _ _ z => z)
theorem am0 {μ : Mu} (h : μ.length = n) (k : WR (l τ μ) (fun ds μ1 => μ1 = μ ∧ Q (.ref n) (μ ++ [.ld ds])) X) : WR (mAl l τ μ) Q X :=
  e_al (WR_mono k (fun ds μ1 z => by obtain ⟨rfl, z⟩ := z; rw [h]; exact z) fun _ _ z => z)
theorem am1 {μ : Mu} (h : μ.length = n) (k : WR (l τ (μ ++ [c0])) (fun ds μ1 => ∃ c0, μ1 = μ ++ [c0] ∧ Q (.ref (n + 1)) (μ ++ [c0, .ld ds])) X) : WR (mAl l τ (μ ++ [c0])) Q X :=
  e_al (WR_mono k (fun ds μ1 z => by obtain ⟨c0, rfl, z⟩ := z; rw [List.length_append, h, List.append_assoc]; exact z) fun _ _ z => z)
end
section
variable {x y : Cl} {κ κ' ν : Mu} {c0 c1 c2 : Cl} {n : Nat} {d : D} {ds : List D} {Q : Vx → Mu → Prop} {X : Exc → Mu → Prop}
theorem ok0 (k : Q (.dat d) (x :: κ)) : WR (outV (x :: κ) (y :: κ).length (.dat d)) Q X := o_dat (by rw [show (y :: κ).length = (x :: κ).length from rfl, List.take_length]; exact k)
theorem ok1 (k : Q (.dat d) (x :: κ)) : WR (outV (x :: (κ ++ κ')) (y :: κ).length (.dat d)) Q X := o_dat (by rw [tk y rfl]; exact k)
theorem om0 (k : Q (.dat d) ν) : WR (outV ν ν.length (.dat d)) Q X := o_dat (by rw [List.take_length]; exact k)
theorem om1 (k : Q (.dat d) ν) : WR (outV (ν ++ κ') ν.length (.dat d)) Q X := o_dat (by rw [List.take_left]; exact k)
theorem on1 (h : κ.length = n) (k : Q (.dat (.lst ds)) (x :: κ)) : WR (outV (x :: (κ ++ (.ld ds :: κ'))) (y :: κ).length (.ref (n + 1))) Q X :=
  o_new (by rw [List.length_cons]; omega) (gk0 h) (by rw [tk y rfl]; exact k)
theorem on2 (h : κ.length = n) (k : Q (.dat (.lst ds)) (x :: κ)) : WR (outV (x :: (κ ++ (c0 :: .ld ds :: κ'))) (y :: κ).length (.ref (n + 2))) Q X :=
  o_new (by rw [List.length_cons]; omega) (gk1 h) (by rw [tk y rfl]; exact k)
theorem on3 (h : κ.length = n) (k : Q (.dat (.lst ds)) (x :: κ)) : WR (outV (x :: (κ ++ (c0 :: c1 :: .ld ds :: κ'))) (y :: κ).length (.ref (n + 3))) Q X :=
  o_new (by rw [List.length_cons]; omega) (gk2 h) (by rw [tk y rfl]; exact k)
theorem of0 (h : ν.length = n) (k : Q (.dat (.lst ds)) ν) : WR (outV (ν ++ (.ld ds :: κ')) ν.length (.ref n)) Q X :=
  o_new (by omega) (get0 h) (by rw [List.take_left]; exact k)
theorem of1 (h : ν.length = n) (k : Q (.dat (.lst ds)) ν) : WR (outV (ν ++ (c0 :: .ld ds :: κ')) ν.length (.ref (n + 1))) Q X :=
  o_new (by omega) (get1 h) (by rw [List.take_left]; exact k)
end
theorem g_set0 {b k : Nat} {κ : Mu} {ds : List D} {n : Int} {d : D} {N : Mu → Prop} (hb : b = 0) (h : ixD ds.length n = some k) (q : N (.ld (ds.set k d) :: κ)) : WM (setC b n d (.ld ds :: κ)) N := by
  subst hb
  exact WM_eq (g_setC (gb) h) q
section
variable {μ : Mu} {i : Nat} {ds : List D}
theorem m_len {N : Vx → Prop} (h : μ[i]? = some (.ld ds)) (k : N (.dat (.int ds.length))) : WM (fLen μ (.ref i)) N := WM_eq (by unfold fLen lenV; dsimp only; rw [h]) k
theorem m_its {N : List D → Prop} (h : μ[i]? = some (.ld ds)) (k : N ds) : WM (its μ (.ref i)) N := WM_eq (by unfold its; dsimp only; rw [h]) k
theorem m_dlst {N : List D → Prop} (h : μ[i]? = some (.ld ds)) (k : N ds) : WM (dlst μ (.ref i)) N := WM_eq (by unfold dlst; dsimp only; rw [h]) k
theorem m_tup {N : Vx → Prop} (h : μ[i]? = some (.ld ds)) (k : N (.dat (.tup ds))) : WM (fTup μ (.ref i)) N := WM_eq (by unfold fTup dlst; dsimp only; rw [h]) k
theorem m_tupN {N : Vx → Prop} (h : μ[i]? = some (.ld ds)) (k : N (.dat (.tpl ds))) : WM (fTupN μ (.ref i)) N := WM_eq (by unfold fTupN dlst; dsimp only; rw [h]; rfl) k
theorem m_row {N : Rw → Prop} (h : μ[i]? = some (.ld ds)) (k : N (.li i)) : WM (rowOf μ (.ref i)) N := WM_eq (by unfold rowOf; dsimp only; rw [h]) k
theorem m_sl {N : List D → Prop} {lo hi : Option Int} (h : μ[i]? = some (.ld ds)) (k : N (cutP ds lo hi)) : WM (nSl μ (.ref i) lo hi) N := WM_eq (by unfold nSl dlst; dsimp only; rw [h]) k
theorem sees_ref (h : μ[i]? = some (.ld ds)) : sees μ (.ref i) = some (.lst ds) := by
  unfold sees fz
  rw [if_pos (Nat.zero_le _), h]
theorem m_op2 {N : Vx → Prop} {g : D → D → Option D} {x : Vx} {d f : D} (h : μ[i]? = some (.ld ds)) (hx : sees μ x = some d) (hg : g d (.lst ds) = some f) (k : N (.dat f)) : WM (opV g μ x (.ref i)) N := WM_eq (by unfold opV; rw [hx, sees_ref h]; dsimp only; rw [hg]) k
theorem m_op1 {N : Vx → Prop} {g : D → D → Option D} {x : Vx} {d f : D} (h : μ[i]? = some (.ld ds)) (hx : sees μ x = some d) (hg : g (.lst ds) d = some f) (k : N (.dat f)) : WM (opV g μ (.ref i) x) N := WM_eq (by unfold opV; rw [hx, sees_ref h]; dsimp only; rw [hg]) k
end
theorem g_put {ν κ : Mu} {n : Nat} {c0 c f : String} {ns ns' : List String} {xs xs' : List D} {d : D} {N : Mu → Prop} (hν : ν.length = n) (hc : c = c0 ∧ ns.length < 900) (e1 : putNP f ns = ns') (e2 : putXP f d ns xs = xs')
   (k : N (ν ++ (.ins c ns' xs' :: κ))) : WM (putFld c0 f (.ref n) (.dat d) (ν ++ (.ins c ns xs :: κ))) N := by
  subst e1 e2
  refine WM_eq ?_ k
  unfold putFld
  dsimp only
  rw [get0 hν]
  dsimp only
  rw [if_pos hc, set0 hν]
theorem m_fld {μ : Mu} {i : Nat} {c0 c f : String} {ns : List String} {xs : List D} {d : D} {N : Vx → Prop} (h : μ[i]? = some (.ins c ns xs)) (hc : c = c0) (e : lkpD ns xs f = some d) (k : N (.dat d)) : WM (fFld c0 f μ (.ref i)) N := by
  refine WM_eq ?_ k
  unfold fFld
  dsimp only
  rw [h]
  dsimp only
  rw [if_pos hc, e]
  rfl
theorem made {ν : Mu} {n : Nat} {c0 : String} {ns : List String} {xs : List D} {Q : Vx → Mu → Prop} {X : Exc → Mu → Prop} (hν : ν.length = n) (k : Q (.dat (.obj c0 ns xs)) ν) : WR (madeO c0 n (.dat .non) (ν ++ [.ins c0 ns xs])) Q X :=
  r_made (get0 hν) (by rw [List.length_append, hν]; rfl) (by rw [take_k hν]; exact k)
section
variable {τ : Ls} {μ : Mu} {Q : Vx → Mu → Prop} {X : Exc → Mu → Prop} {a b : ME}
theorem e_ownEqF {c0 : String} {S : Sem} (k : WR (a τ μ) (fun x μ1 => WR (b τ μ1) (fun y μ2 => ∃ d e, isObj c0 x = some d ∧ y = .dat e ∧ eqKind c0 e = true ∧ WR (S [.dat d, .dat e] μ2) (fun r μ3 => WM (isBl r) fun k => Q (.dat (.bl k)) μ3) X) X) X) : WR (mOwnEq false c0 S a b τ μ) Q X := e_ownEq (neg := false) k
theorem e_ownEqT {c0 : String} {S : Sem} (k : WR (a τ μ) (fun x μ1 => WR (b τ μ1) (fun y μ2 => ∃ d e, isObj c0 x = some d ∧ y = .dat e ∧ eqKind c0 e = true ∧ WR (S [.dat d, .dat e] μ2) (fun r μ3 => WM (isBl r) fun k => Q (.dat (.bl (!k))) μ3) X) X) X) : WR (mOwnEq true c0 S a b τ μ) Q X := e_ownEq (neg := true) k
end
theorem eqD_bl {p q : Bool} : eqD (.bl p) (.bl q) = (p == q) := by cases p <;> cases q <;> rfl
theorem gNe_bl {p q : Bool} : gNe (.bl p) (.bl q) = some (.bl (p != q)) := by cases p <;> cases q <;> rfl
theorem gEq_bl {p q : Bool} : gEq (.bl p) (.bl q) = some (.bl (p == q)) := by cases p <;> cases q <;> rfl
end Q
set_option hygiene false
local macro_rules | `(tactic| walk_at "w") => `(tactic| (first
  | ((with_reducible show Y.Q.WR _ _ _); (first | with_reducible refine Y.Q.e_C ?_ | ((with_reducible refine' Y.Q.e_var ?h0 ?_); (case h0 => first | rfl | assumption)) | with_reducible refine Y.Q.al0 hκ ?_ | with_reducible refine Y.Q.al1 hκ ?_ | with_reducible refine Y.Q.al2 hκ ?_ | with_reducible refine Y.Q.am0 hν ?_ | with_reducible refine Y.Q.am1 hν ?_ | ((with_reducible refine Y.Q.l_lc ?_); simp only [Y.wipeP, List.map_cons, List.foldl, List.set_cons_succ, List.set_cons_zero]) | with_reducible refine Y.Q.ok0 ?_ | with_reducible refine Y.Q.ok1 ?_ | with_reducible refine Y.Q.om0 ?_ | with_reducible refine Y.Q.om1 ?_ | with_reducible refine Y.Q.on1 hκ ?_ | with_reducible refine Y.Q.on2 hκ ?_ | with_reducible refine Y.Q.on3 hκ ?_ | with_reducible refine Y.Q.of0 hν ?_ | with_reducible refine Y.Q.of1 hν ?_ | with_reducible refine Y.Q.e_al ?_ | with_reducible refine Y.Q.e_call ?_ | with_reducible refine Y.Q.e_B ?_ | with_reducible refine Y.Q.e_U ?_ | with_reducible refine Y.Q.a_cons ?_ | with_reducible refine Y.Q.a_nil ?_ | with_reducible refine Y.Q.e_dt ?_ | with_reducible refine Y.Q.t_B ?_ | with_reducible refine Y.Q.e_tup ?_ | with_reducible refine Y.Q.e_meth ?_ | with_reducible refine Y.Q.l_lst ?_ | with_reducible refine Y.Q.l_of ?_ | with_reducible refine Y.Q.l_of2 ?_ | with_reducible refine Y.Q.e_cb ?_ | with_reducible refine Y.Q.e_andV ?_ | with_reducible refine Y.Q.e_orV ?_ | with_reducible refine Y.Q.e_notV ?_ | with_reducible refine Y.Q.e_if ?_ | with_reducible refine Y.Q.e_chain ?_ | with_reducible refine Y.Q.t_and ?_ | with_reducible refine Y.Q.t_or ?_ | with_reducible refine Y.Q.t_not ?_ | with_reducible refine Y.Q.t_yes ?_ | with_reducible refine Y.Q.i_rng ?_ | with_reducible refine Y.Q.i_seq ?_ | with_reducible refine Y.Q.i_enum ?_ | with_reducible refine Y.Q.i_zip ?_ | with_reducible refine Y.Q.e_count ?_ | with_reducible refine Y.Q.e_join ?_ | with_reducible refine Y.Q.o_none ?_ | with_reducible refine Y.Q.o_part ?_ | with_reducible refine Y.Q.e_slT ?_ | with_reducible refine Y.Q.l_sl ?_ | with_reducible refine Y.Q.e_fmt ?_ | with_reducible refine Y.Q.j_nil ?_ | with_reducible refine Y.Q.j_cons ?_ | with_reducible refine Y.Q.e_joined ?_ | with_reducible refine Y.Q.e_pop ?_ | with_reducible refine Y.Q.e_popAt ?_ | with_reducible refine Y.Q.e_app ?_ | with_reducible refine Y.Q.e_clr ?_ | with_reducible refine Y.Q.e_lv ?_ | with_reducible refine Y.Q.e_make ?_ | with_reducible refine Y.Q.e_ownEqF ?_ | with_reducible refine Y.Q.e_ownEqT ?_ | with_reducible refine Y.Q.e_ownEq ?_ | with_reducible refine Y.Q.e_ownLen ?_ | with_reducible refine Y.Q.e_ownRepr ?_ | with_reducible refine Y.Q.o_dat ?_))
  | ((with_reducible show Y.Q.WS _ _ _ _ _ _); (first | with_reducible refine Y.Q.s_seq ?_ | with_reducible refine Y.Q.s_asg ?_ | with_reducible refine Y.Q.s_if ?_ | with_reducible refine Y.Q.s_ret ?_ | with_reducible refine Y.Q.s_for ?_ | with_reducible refine Y.Q.s_next ?_ | with_reducible refine Y.Q.s_drop ?_ | with_reducible refine Y.Q.s_setI ?_ | with_reducible refine Y.Q.s_par ?_ | with_reducible refine Y.Q.s_fld ?_ | with_reducible refine Y.Q.s_retN ?_ | with_reducible refine Y.Q.s_augS ?_ | ((with_reducible refine' Y.Q.s_aug ?h0 ?_); (case h0 => first | rfl | assumption)) | with_reducible refine Y.Q.s_brk ?_ | with_reducible refine Y.Q.s_cont ?_))
  | ((with_reducible show Y.Q.WM _ _); (first | ((with_reducible refine' Y.Q.g_name ?h0 ?_); (case h0 => exact (of_decide_eq_true rfl)); (try simp only [List.set_cons_zero, List.set_cons_succ])) | ((with_reducible refine' Y.Q.WM_eq (Y.Q.o_mod ?h0) ?_); (case h0 => omega)) | ((with_reducible refine' Y.Q.WM_eq (Y.Q.o_div ?h0) ?_); (case h0 => omega)) | ((with_reducible refine' Y.Q.WM_eq (Y.Q.o_mul ?h0) ?_); (case h0 => omega)) | ((with_reducible refine' Y.Q.WM_eq (Y.Q.n_rg ?h0) ?_); (case h0 => omega)) | ((with_reducible refine' Y.Q.WM_eq (Y.Q.strI ?h0) ?_); (case h0 => omega)) | ((with_reducible refine' Y.Q.WM_eq (Y.Q.rg1 ?h0) ?_); (case h0 => omega)) | ((with_reducible refine' Y.Q.WM_eq (Y.Q.rg2 ?h0) ?_); (case h0 => omega)) | with_reducible refine Y.Q.gi_name ?_ | with_reducible refine Y.Q.gi_two ?_ | with_reducible refine Y.Q.gi_tup2 ?_ | ((with_reducible refine' Y.Q.g_tup2 ?h0 ?_); (case h0 => first | rfl | assumption)) | ((with_reducible refine' Y.Q.g_fld ?h0 ?_); (case h0 => first | rfl | assumption)) | ((with_reducible refine Y.Q.m_len (by first | rfl | assumption | exact Y.Q.get0 hν | exact Y.Q.get1 hν | exact Y.Q.get2 hν | exact Y.Q.gk0 hκ | exact Y.Q.gk1 hκ | exact Y.Q.gk2 hκ | exact Y.Q.gk3 hκ) ?_)) | ((with_reducible refine Y.Q.m_its (by first | rfl | assumption | exact Y.Q.get0 hν | exact Y.Q.get1 hν | exact Y.Q.get2 hν | exact Y.Q.gk0 hκ | exact Y.Q.gk1 hκ | exact Y.Q.gk2 hκ | exact Y.Q.gk3 hκ) ?_)) | ((with_reducible refine Y.Q.m_dlst (by first | rfl | assumption | exact Y.Q.get0 hν | exact Y.Q.get1 hν | exact Y.Q.get2 hν | exact Y.Q.gk0 hκ | exact Y.Q.gk1 hκ | exact Y.Q.gk2 hκ | exact Y.Q.gk3 hκ) ?_)) | ((with_reducible refine Y.Q.m_tup (by first | rfl | assumption | exact Y.Q.get0 hν | exact Y.Q.get1 hν | exact Y.Q.get2 hν | exact Y.Q.gk0 hκ | exact Y.Q.gk1 hκ | exact Y.Q.gk2 hκ | exact Y.Q.gk3 hκ) ?_)) | ((with_reducible refine Y.Q.m_tupN (by first | rfl | assumption | exact Y.Q.get0 hν | exact Y.Q.get1 hν | exact Y.Q.get2 hν | exact Y.Q.gk0 hκ | exact Y.Q.gk1 hκ | exact Y.Q.gk2 hκ | exact Y.Q.gk3 hκ) ?_)) | ((with_reducible refine Y.Q.m_row (by first | rfl | assumption | exact Y.Q.get0 hν | exact Y.Q.get1 hν | exact Y.Q.get2 hν | exact Y.Q.gk0 hκ | exact Y.Q.gk1 hκ | exact Y.Q.gk2 hκ | exact Y.Q.gk3 hκ) ?_)) | ((with_reducible refine Y.Q.m_sl (by first | rfl | assumption | exact Y.Q.get0 hν | exact Y.Q.get1 hν | exact Y.Q.get2 hν | exact Y.Q.gk0 hκ | exact Y.Q.gk1 hκ | exact Y.Q.gk2 hκ | exact Y.Q.gk3 hκ) ?_)) | ((with_reducible refine' Y.Q.m_fld ?h0 ?h1 ?h2 ?_); (case h0 => exact (by first | rfl | assumption | exact Y.Q.get0 hν | exact Y.Q.get1 hν | exact Y.Q.get2 hν | exact Y.Q.gk0 hκ | exact Y.Q.gk1 hκ | exact Y.Q.gk2 hκ | exact Y.Q.gk3 hκ)); (case h1 => rfl); (case h2 => rfl)) | ((with_reducible refine' Y.Q.g_put hν ?h0 ?h1 ?h2 ?_); (case h0 => exact (of_decide_eq_true rfl)); (case h1 => rfl); (case h2 => rfl); (simp only [Y.putNP, Y.putXP, String.reduceEq, ↓reduceIte])) | ((with_reducible refine' Y.Q.g_set0 ?h0 ?h1 ?_); (case h0 => rfl); (case h1 => rfl); (simp only [List.set_cons_zero, List.set_cons_succ, Int.reduceToNat])) | ((with_reducible refine' Y.Q.WM_eq ?h0 ?_); (case h0 => rfl))))
  | ((with_reducible show (_ = true → _) ∧ (_ = false → _)); (first | refine Y.Q.br_t rfl ?_ | refine Y.Q.br_f rfl ?_))
  | ((with_reducible show Y.isLstC _ _ = true ∧ _); refine ⟨(by first | rfl | (exact Y.Q.isl (by first | rfl | assumption | exact Y.Q.get0 hν | exact Y.Q.get1 hν | exact Y.Q.get2 hν | exact Y.Q.gk0 hκ | exact Y.Q.gk1 hκ | exact Y.Q.gk2 hκ | exact Y.Q.gk3 hκ))), ?_⟩)
  | ((with_reducible show Y.isInst _ _ _ _ = true ∧ _); refine ⟨rfl, ?_⟩)
  | ((with_reducible show (_ ≠ _ ∧ _) ∧ _); refine ⟨(of_decide_eq_true rfl), ?_⟩; (try simp only [List.set_cons_zero, List.set_cons_succ]))
  | ((with_reducible show (0 ≤ _ ∧ _ ≤ 1000000) ∧ _); refine ⟨by omega, ?_⟩)
  | ((with_reducible show _ ∧ _ = _ ∧ (True → _)); refine ⟨rfl, rfl, fun _ => ?_⟩)
  | ((with_reducible show _ ∧ _ = _ ∧ (true = true → _)); refine ⟨rfl, rfl, fun _ => ?_⟩)
  | ((with_reducible show _ = Y.Vx.dat _ ∧ _ = _); exact ⟨rfl, rfl⟩)
  | ((with_reducible show ∃ x, _ = [x] ∧ _); refine ⟨_, rfl, ?_⟩)
  | ((with_reducible show ∃ x y, _ = [x, y] ∧ _); refine ⟨_, _, rfl, rfl, ?_⟩)
  | ((with_reducible show ∃ p, _ = Y.Vx.dat (Y.D.bl p) ∧ _); refine ⟨_, rfl, ?_⟩)
  | ((with_reducible show ∃ d, Y.isObj _ _ = some d ∧ _); refine ⟨_, rfl, ?_⟩)
  | ((with_reducible show ∃ d e, Y.isObj _ _ = some d ∧ _); refine ⟨_, _, rfl, rfl, rfl, ?_⟩)
  | ((with_reducible show ∃ x, _ = x :: _ ∧ _); refine ⟨_, rfl, ?_⟩)
  | ((with_reducible show ∃ x y, _ = x :: (_ ++ [y]) ∧ _); refine ⟨_, _, rfl, ?_⟩)
  | ((with_reducible show ∃ x y z, _ = x :: (_ ++ [y, z]) ∧ _); refine ⟨_, _, _, rfl, ?_⟩)
  | ((with_reducible show ∃ d i n, _ = Y.Vx.dat d ∧ _ = Y.Vx.ref i ∧ _); refine ⟨_, _, _, rfl, rfl, rfl, ?_⟩)))
local macro_rules | `(tactic| walk_at "0") => `(tactic| simp only [List.map_cons, List.map_nil, List.cons_append, List.nil_append, Nat.reduceAdd, Nat.reduceSub, List.replicate])
local macro_rules | `(tactic| walk_at "b") => `(tactic| first | (refine Y.Q.br_t (by simp; omega) ?_) | (refine Y.Q.br_f (by simp; omega) ?_))
local macro_rules | `(tactic| walk_at "a") => `(tactic| (refine ⟨_, _, _, rfl, rfl, (by first | rfl | assumption | exact Y.Q.get0 hν | exact Y.Q.get1 hν | exact Y.Q.get2 hν | exact Y.Q.gk0 hκ | exact Y.Q.gk1 hκ | exact Y.Q.gk2 hκ | exact Y.Q.gk3 hκ), by (first | omega | (simp only [List.length_append, List.length_map, List.length_cons, List.length_nil]; omega)), ?_⟩; (first | rw [Y.Q.sk0 hκ] | rw [Y.Q.sk1 hκ] | rw [Y.Q.sk2 hκ] | rw [Y.Q.sk3 hκ] | rw [Y.Q.set0 hν] | rw [Y.Q.set1 hν] | rw [Y.Q.set2 hν] | simp only [List.set_cons_zero, List.set_cons_succ])))
local macro_rules | `(tactic| walk_at "p") => `(tactic| (refine ⟨_, _, _, _, rfl, rfl, (by first | rfl | assumption | exact Y.Q.get0 hν | exact Y.Q.get1 hν | exact Y.Q.get2 hν | exact Y.Q.gk0 hκ | exact Y.Q.gk1 hκ | exact Y.Q.gk2 hκ | exact Y.Q.gk3 hκ), by omega, List.getElem?_eq_getElem hj, ?_⟩; (first | rw [Y.Q.sk0 hκ] | rw [Y.Q.sk1 hκ] | rw [Y.Q.sk2 hκ] | rw [Y.Q.sk3 hκ] | rw [Y.Q.set0 hν] | rw [Y.Q.set1 hν] | rw [Y.Q.set2 hν] | simp only [List.set_cons_zero, List.set_cons_succ]); (try simp only [Int.toNat_natCast])))
local macro_rules | `(tactic| walk_at "n") => `(tactic| try simp only [List.append_assoc, List.cons_append, List.nil_append, List.length_append, List.length_cons, List.length_nil, List.length_set, Nat.zero_add, Nat.add_zero, Nat.reduceAdd, List.append_nil, Nat.le_refl, Nat.le_add_right])
local macro_rules | `(tactic| walk_at "e") => `(tactic| all_goals ((repeat' apply And.intro) <;> first | rfl | trivial | assumption))
local macro_rules | `(tactic| walk_at "c") => `(tactic| repeat ((fail_if_success (with_reducible show Y.Q.WS (Y.mSeq (Y.mIfS _ _ _) _ _ _) _ _ _ _ _)); walk_at "w"))
namespace Q
def bagD (ns : List Int) (p rest seed cnt : Int) : List D := [.lst (ns.map .int), .int p, .int rest, .int seed, .int cnt]
def Bag (ds : List D) : Prop := ∃ ns p rest seed cnt, ds = bagD ns p rest seed cnt ∧ 0 ≤ p ∧ p ≤ ns.length
theorem atL_map {α β : Type} {f : α → β} {l : List α} {i : Int} (h0 : 0 ≤ i) (h : i < (l.length : Int)) : atL (l.map f) i = some (f (l[i.toNat]'(by omega))) :=
  atL_pos h0 (by rw [List.getElem?_map, List.getElem?_eq_getElem (show i.toNat < l.length by omega)]; rfl)
theorem c_pull {ds : List D} {κ : Mu} {m : Int} {Q : Vx → Mu → Prop} {X : Exc → Mu → Prop} (hb : Bag ds) (hm : 0 < m) (hm2 : m < 2 ^ 64)
   (k : ∀ (i : Nat) ds', Bag ds' → (i : Int) < m → Q (.dat (.int (i : Nat))) (.ld ds' :: κ)) : WR (sem__law_pull [.ref 0, .dat (.int m)] (.ld ds :: κ)) Q X := by
  obtain ⟨ns, p, rest, seed, cnt, rfl, h0, hp⟩ := hb
  have fin : ∀ (i p rest seed cnt : Int), 0 ≤ p → p ≤ ns.length → Q (.dat (.int (i % m))) (.ld [.lst (ns.map .int), .int p, .int rest, .int seed, .int cnt] :: κ) := fun i p rest seed cnt h1 h2 => by
    have a := Int.emod_nonneg i (show m ≠ 0 by omega)
    have b := Int.emod_lt_of_pos i hm
    have := k (i % m).toNat _ ⟨ns, p, rest, seed, cnt, rfl, h1, h2⟩ (by omega)
    rw [Int.toNat_of_nonneg a] at this
    exact this
  clear k
  unfold sem__law_pull
  refine f_body (by rfl) ?_
  unfold m__law_pull bagD
  walk_at "0"
  repeat walk_at "w"
  refine br_d (fun h => ?_) (fun h => ?_)
  · repeat walk_at "w"
    exact fin _ _ _ _ _ h0 hp
  repeat walk_at "w"
  refine br_d (fun h => ?_) (fun h => ?_)
  · rw [List.length_map] at h
    repeat walk_at "w"
    refine WM_eq (ix_lst (atL_map h0 h)) ?_
    repeat walk_at "w"
    refine br_d (fun h => ?_) (fun h => ?_)
    · repeat walk_at "w"
      exact fin _ _ _ _ _ (by omega) (by omega)
    · repeat walk_at "w"
      exact fin _ _ _ _ _ (by omega) (by omega)
  · repeat walk_at "w"
    refine br_d (fun h => ?_) (fun h => ?_)
    · repeat walk_at "w"
      exact fin _ _ _ _ _ (by omega) (by omega)
    · repeat walk_at "w"
      exact fin _ _ _ _ _ (by omega) (by omega)
theorem perm_at {α : Type} (l : List α) {i : Nat} (h : i < l.length) : (l[i] :: l.eraseIdx i).Perm l := by
  rw [List.eraseIdx_eq_take_drop_succ]
  refine List.perm_middle.symm.trans ?_
  rw [List.getElem_cons_drop, List.take_append_drop]
theorem c_mixed {b es : List D} {κ : Mu} {n : Nat} {x : Vx} {Q : Vx → Mu → Prop} {X : Exc → Mu → Prop} (hκ : κ.length = n) (hb : Bag b) (hl : es.length < 100000)
   (hx : ∀ b κ', its (.ld b :: (κ ++ κ')) x = some es ∧ lenV (.ld b :: (κ ++ κ')) x = some es.length)
   (k : ∀ fs b', fs.Perm es → Bag b' → Q (.dat (.lst fs)) (.ld b' :: κ)) : WR (sem__law_mixed [.ref 0, x] (.ld b :: κ)) Q X := by
  have hx0 : ∀ b, its (.ld b :: κ) x = some es := fun b => by have := (hx b []).1; rwa [List.append_nil] at this
  unfold sem__law_mixed
  refine f_body (by rfl) ?_
  unfold m__law_mixed
  walk_at "0"
  repeat walk_at "w"
  refine WM_eq (hx0 _) ?_
  repeat walk_at "w"
  refine WM_eq (x := .dat (.int es.length)) (by unfold fLen; rw [(hx _ _).2]) ?_
  repeat walk_at "w"
  refine r_rng0 (fun k τ μ => ∃ b left found y, τ = [some (.ref 0), some x, some (.ref (n + 1)), some (.ref (n + 2)), y] ∧ μ = .ld b :: (κ ++ [.ld left, .ld found]) ∧ Bag b ∧ left.length + k = es.length ∧ found.length = k ∧ (found ++ left).Perm es) (by omega) ⟨_, _, _, _, rfl, rfl, hb, rfl, rfl, .refl _⟩ (fun k τ μ hk hI => ?_) (fun τ μ hI => ?_)
  · obtain ⟨b, left, found, y, rfl, rfl, hb, hl1, hl2, hp⟩ := hI
    repeat walk_at "w"
    refine c_pull hb (by omega) (by omega) (fun i b hb hi => ?_)
    have hj : i < left.length := by omega
    have he : (left.eraseIdx i).length + 1 = left.length := by rw [List.length_eraseIdx, if_pos hj]; omega
    walk_at "p"
    walk_at "a"
    refine ⟨_, _, _, _, rfl, rfl, hb, by omega, by simp [hl2], ?_⟩
    rw [List.append_assoc]
    exact (List.Perm.append_left found (perm_at left hj)).trans hp
  · obtain ⟨b, left, found, y, rfl, rfl, hb, hl1, hl2, hp⟩ := hI
    have : left = [] := by
      cases left with
      | nil => rfl
      | cons _ _ => simp only [List.length_cons] at hl1; omega
    subst this
    repeat walk_at "w"
    exact k _ _ (by simpa using hp) hb
theorem perm_map {α β : Type} {f : α → β} {l₁ l₂ : List β} (h : l₁.Perm l₂) : ∀ ps : List α, l₁ = ps.map f → ∃ qs : List α, l₂ = qs.map f ∧ ps.Perm qs := by
  induction h with
  | nil =>
    intro ps e
    cases ps with
    | nil => exact ⟨[], rfl, .refl _⟩
    | cons _ _ => cases e
  | cons x _ ih =>
    intro ps e
    cases ps with
    | nil => cases e
    | cons p ps =>
      rw [List.map_cons, List.cons.injEq] at e
      obtain ⟨rfl, e⟩ := e
      obtain ⟨qs, rfl, h⟩ := ih ps e
      exact ⟨p :: qs, rfl, h.cons _⟩
  | swap x y l =>
    intro ps e
    cases ps with
    | nil => cases e
    | cons p ps =>
      cases ps with
      | nil => cases e
      | cons q ps =>
        rw [List.map_cons, List.map_cons, List.cons.injEq, List.cons.injEq] at e
        obtain ⟨rfl, rfl, rfl⟩ := e
        exact ⟨q :: p :: ps, rfl, .swap _ _ _⟩
  | trans _ _ ih1 ih2 =>
    intro ps e
    obtain ⟨qs, e1, h1⟩ := ih1 ps e
    obtain ⟨rs, e2, h2⟩ := ih2 qs e1
    exact ⟨rs, e2, h1.trans h2⟩
def dp (p : Nat × Nat) : D := .tup [.int p.1, .int p.2]
def GoodW (n : Nat) (ps : List (Nat × Nat)) : Prop := 1 ≤ n ∧ (∀ p ∈ ps, p.1 < n ∧ p.2 < n) ∧ ∀ r < n, ∃ p ∈ ps, p.1 = r
theorem GoodW.perm {n : Nat} {ps qs : List (Nat × Nat)} (h : GoodW n ps) (e : ps.Perm qs) : GoodW n qs :=
  ⟨h.1, fun p hp => h.2.1 p (e.mem_iff.mpr hp), fun r hr => by
    obtain ⟨p, hp, hq⟩ := h.2.2 r hr
    exact ⟨p, e.mem_iff.mp hp, hq⟩⟩
theorem c_web {b : List D} {rm mm : Int} {Q : Vx → Mu → Prop} {X : Exc → Mu → Prop} (hb : Bag b) (h1 : 0 < rm) (h2 : rm ≤ 1000) (h3 : 0 ≤ mm) (h4 : mm ≤ 1000)
   (k : ∀ (n : Nat) (ps : List (Nat × Nat)) b', Bag b' → GoodW n ps → (n : Int) ≤ rm → (ps.length : Int) ≤ rm + mm → Q (.dat (.tup [.int n, .tup (ps.map dp)])) [.ld b']) : WR (sem__law_web [.ref 0, .dat (.int rm), .dat (.int mm)] [.ld b]) Q X := by
  unfold sem__law_web
  refine f_body (by rfl) ?_
  unfold m__law_web
  walk_at "0"
  repeat walk_at "w"
  refine c_pull hb (by omega) (by omega) (fun i b hb hi => ?_)
  repeat walk_at "w"
  obtain ⟨n, hn⟩ : ∃ n : Nat, 1 + (i : Int) = n := ⟨1 + i, by omega⟩
  rw [hn]
  repeat walk_at "w"
  refine r_lc (fun k ds μ => ∃ b qs, μ = [.ld b] ∧ ds = List.map dp qs ∧ Bag b ∧ (∀ p ∈ qs, p.1 < n ∧ p.2 < n) ∧ qs.length = k ∧ ∀ r < k, ∃ p ∈ qs, p.1 = r) n (by omega) ⟨_, [], rfl, rfl, hb, by simp, rfl, by omega⟩ (fun k acc μ hk hI => ?_) (fun acc μ hI => ?_)
  · obtain ⟨b, qs, rfl, rfl, hb, hq, hl, hr⟩ := hI
    refine ⟨_, rng_get hk, ?_⟩
    rw [Int.zero_add]
    repeat walk_at "w"
    refine c_pull hb (by omega) (by omega) (fun j b hb hj => ?_)
    repeat walk_at "w"
    refine ⟨_, rfl, _, qs ++ [(k, j)], rfl, by simp [dp], hb, ?_, by simp [hl], ?_⟩
    · intro p hp
      rcases List.mem_append.mp hp with hp | hp
      · exact hq p hp
      · simp only [List.mem_singleton] at hp
        subst hp
        exact ⟨hk, by omega⟩
    · intro r hr'
      by_cases e : r < k
      · obtain ⟨p, hp, e⟩ := hr r e
        exact ⟨p, by simp [hp], e⟩
      · exact ⟨(k, j), by simp, by omega⟩
  obtain ⟨b, qs, rfl, rfl, hb, hq, hl, hr⟩ := hI
  refine ⟨rng_end, by simp; omega, ?_⟩
  walk_at "n"
  repeat walk_at "w"
  refine c_pull hb (by omega) (by omega) (fun j b hb hj => ?_)
  repeat walk_at "w"
  refine r_rng0 (fun k τ μ => ∃ b ps x, τ = [some (.ref 0), some (.dat (.int rm)), some (.dat (.int mm)), some (.dat (.int n)), some (.ref 1), x, none] ∧ μ = [.ld b, .ld (List.map dp ps)] ∧ Bag b ∧ (∀ p ∈ ps, p.1 < n ∧ p.2 < n) ∧ ps.length = n + k ∧ ∀ r < n, ∃ p ∈ ps, p.1 = r) (by omega) ⟨_, _, _, rfl, rfl, hb, hq, hl, hr⟩ (fun k τ μ hk hI => ?_) (fun τ μ hI => ?_)
  · obtain ⟨b, ps, x, rfl, rfl, hb, hq, hl, hr⟩ := hI
    repeat walk_at "w"
    refine c_pull hb (by omega) (by omega) (fun c b hb hc => ?_)
    repeat walk_at "w"
    refine c_pull hb (by omega) (by omega) (fun d b hb hd => ?_)
    repeat walk_at "w"
    walk_at "a"
    refine ⟨_, ps ++ [(c, d)], _, rfl, by simp [dp], hb, ?_, by simp; omega, fun r h => ?_⟩
    · intro p hp
      rcases List.mem_append.mp hp with hp | hp
      · exact hq p hp
      · simp only [List.mem_singleton] at hp
        subst hp
        exact ⟨by omega, by omega⟩
    · obtain ⟨p, hp, e⟩ := hr r h
      exact ⟨p, by simp [hp], e⟩
  · obtain ⟨b, ps, x, rfl, rfl, hb, hq, hl, hr⟩ := hI
    repeat walk_at "w"
    refine c_mixed (n := 1) (es := List.map dp ps) rfl hb (by simp; omega) (fun _ _ => ⟨rfl, rfl⟩) (fun fs b hp hb => ?_)
    obtain ⟨qs, rfl, hp2⟩ := perm_map hp.symm _ rfl
    repeat walk_at "w"
    exact k n qs b hb (GoodW.perm ⟨by omega, hq, hr⟩ hp2) (by omega) (by rw [← hp2.length_eq]; omega)
theorem cut_all {α : Type} {xs : List α} {m : Nat} (h : xs.length ≤ m) : cutP xs none (some (m : Int)) = xs := by
  unfold cutP sIxD
  dsimp only
  rw [if_neg (by omega), List.drop_zero, List.take_of_length_le (by omega)]
theorem c_bag {ns : List Int} {Q : Vx → Mu → Prop} {X : Exc → Mu → Prop} (h : ns.length ≤ 63) (k : ∀ b, Bag b → Q (.ref 0) [.ld b]) : WR (sem__law_bag [.dat (.scr ns)] []) Q X := by
  have hc : cutP (ns.map D.int) none (some 63) = ns.map .int := cut_all (m := 63) (by simpa using h)
  unfold sem__law_bag
  refine f_bodyN (by rfl) ?_
  unfold m__law_bag
  walk_at "0"
  repeat walk_at "w"
  rw [hc]
  refine r_st (fun k τ μ => ∃ s x, τ = [some (.dat (.scr ns)), some (.dat (.int s)), x] ∧ μ = []) (by simp; omega) ⟨_, _, rfl, rfl⟩ (fun k x τ μ hx hI => ?_) (fun τ μ hI => ?_)
  · obtain ⟨s, x', rfl, rfl⟩ := hI
    simp only [List.getElem?_map, Option.map_eq_some_iff] at hx
    obtain ⟨_, ⟨y, _, rfl⟩, rfl⟩ := hx
    repeat walk_at "w"
    exact ⟨_, _, rfl, trivial⟩
  · obtain ⟨s, x', rfl, rfl⟩ := hI
    repeat walk_at "w"
    rw [hc]
    repeat walk_at "w"
    refine o_newN (ds := bagD ns 0 0 s 0) (Nat.zero_le _) rfl ?_
    exact k _ ⟨_, _, _, _, _, rfl, by omega, by omega⟩
end Q
namespace Q
/-! webs -/
def idx {α : Type} (f : α → Bool) : Nat → List α → List Nat
  | _, [] => []
  | k, x :: xs => if f x = true then k :: idx f (k + 1) xs else idx f (k + 1) xs
theorem idx_map {α β : Type} (f : β → Bool) (g : α → β) : ∀ (xs : List α) (k : Nat), idx f k (xs.map g) = idx (fun x => f (g x)) k xs
  | [], _ => rfl
  | x :: xs, k => by rw [List.map_cons]; unfold idx; rw [idx_map f g xs]
theorem idx_mem {α : Type} (f : α → Bool) : ∀ (xs : List α) (k i : Nat), i ∈ idx f k xs ↔ ∃ x, k ≤ i ∧ xs[i - k]? = some x ∧ f x = true
  | [], k, i => by simp [idx]
  | x :: xs, k, i => by
    have ih := idx_mem f xs (k + 1) i
    have z : ∀ y, (k + 1 ≤ i ∧ xs[i - (k + 1)]? = some y ∧ f y = true) ↔ (k < i ∧ (x :: xs)[i - k]? = some y ∧ f y = true) := fun y => by
      constructor
      · rintro ⟨h1, h2, h3⟩
        exact ⟨by omega, by rw [show i - k = (i - (k + 1)) + 1 by omega, List.getElem?_cons_succ]; exact h2, h3⟩
      · rintro ⟨h1, h2, h3⟩
        exact ⟨by omega, by rw [show i - k = (i - (k + 1)) + 1 by omega, List.getElem?_cons_succ] at h2; exact h2, h3⟩
    unfold idx
    by_cases hf : f x = true
    · rw [if_pos hf, List.mem_cons, ih]
      constructor
      · rintro (rfl | ⟨y, h⟩)
        · exact ⟨x, by omega, by simp, hf⟩
        · have := (z y).mp h
          exact ⟨y, by omega, this.2⟩
      · rintro ⟨y, h1, h2, h3⟩
        by_cases e : i = k
        · exact .inl e
        · exact .inr ⟨y, (z y).mpr ⟨by omega, h2, h3⟩⟩
    · rw [if_neg hf, ih]
      constructor
      · rintro ⟨y, h⟩
        have := (z y).mp h
        exact ⟨y, by omega, this.2⟩
      · rintro ⟨y, h1, h2, h3⟩
        by_cases e : i = k
        · subst e
          rw [Nat.sub_self, List.getElem?_cons_zero] at h2
          cases h2
          exact absurd h3 hf
        · exact ⟨y, (z y).mpr ⟨by omega, h2, h3⟩⟩
theorem enF_idx {α : Type} {p : α → Bool} : ∀ (xs : List α) (k : Nat), enF (fun _ x => p x) (fun k _ => dn k) k xs = (idx p k xs).map dn
  | [], _ => rfl
  | x :: xs, k => by
    unfold enF idx
    by_cases hp : p x = true
    · rw [if_pos hp, if_pos hp, enF_idx xs (k + 1)]
      rfl
    · rw [if_neg hp, if_neg hp, enF_idx xs (k + 1)]
theorem niceDL_all {n : Nat} : ∀ {xs : List D}, (∀ x ∈ xs, niceD n x = true) → niceDL n xs = true
  | [], _ => by simp [niceDL]
  | x :: xs, h => by
    rw [niceDL, h x (List.mem_cons_self ..), niceDL_all fun y hy => h y (List.mem_cons_of_mem _ hy)]
    rfl
theorem nice_dn {n k : Nat} : niceD n (dn k) = true := by unfold dn; simp [niceD]
theorem nice_dns {n : Nat} {ks : List Nat} : niceD (n + 1) (.lst (ks.map dn)) = true := by
  rw [niceD]
  exact niceDL_all fun x hx => by
    obtain ⟨k, _, rfl⟩ := List.mem_map.mp hx
    exact nice_dn
def outsL (ps : List (Nat × Nat)) (r : Nat) : List Nat := idx (fun p => p.1 == r) 0 ps
def insL (ps : List (Nat × Nat)) (r : Nat) : List Nat := idx (fun p => p.2 == r) 0 ps
def wobj (n : Nat) (ps : List (Nat × Nat)) : D := .obj "Web" ["size", "pairs", "leaving", "coming"]
  [.int n, .tpl (ps.map dp), .lst ((List.range n).map fun r => .lst ((outsL ps r).map dn)), .lst ((List.range n).map fun r => .lst ((insL ps r).map dn))]
theorem outs_ne {n : Nat} {ps : List (Nat × Nat)} (h : GoodW n ps) {r : Nat} (hr : r < n) : outsL ps r ≠ [] := by
  obtain ⟨p, hp, e⟩ := h.2.2 r hr
  obtain ⟨i, hi⟩ := List.getElem?_of_mem hp
  have : i ∈ outsL ps r := (idx_mem _ ps 0 i).mpr ⟨p, Nat.zero_le _, hi, by simp [e]⟩
  intro z
  rw [z] at this
  cases this
theorem no_empty {n : Nat} {ps : List (Nat × Nat)} (h : GoodW n ps) : gIn (.lst []) (.lst ((List.range n).map fun r => .lst ((outsL ps r).map dn))) = some (.bl false) := by
  have h1 : nice60 (.lst []) = true := by unfold nice60; simp [niceD, niceDL]
  have h2 : nice60 (.lst ((List.range n).map fun r => .lst ((outsL ps r).map dn))) = true := by
    unfold nice60
    rw [niceD]
    exact niceDL_all fun x hx => by
      obtain ⟨k, _, rfl⟩ := List.mem_map.mp hx
      exact nice_dns
  unfold gIn
  dsimp only
  rw [h1, h2, if_pos (by rfl), Option.some.injEq, D.bl.injEq, List.any_eq_false]
  intro x hx
  obtain ⟨r, hr, rfl⟩ := List.mem_map.mp hx
  have := outs_ne h (List.mem_range.mp hr)
  cases e : outsL ps r with
  | nil => exact absurd e this
  | cons a as => simp [eqD, eqDL]
section
variable {μ : Mu} {Q : Vx → Mu → Prop} {X : Exc → Mu → Prop}
theorem c_within {i a b : Int} (k : Q (.dat (.bl (decide (a ≤ i) && decide (i ≤ b)))) μ) : WR (sem_is_within [.dat (.int i), .dat (.int a), .dat (.int b)] μ) Q X := by
  unfold sem_is_within
  refine f_body (by rfl) ?_
  unfold m_is_within
  walk_at "0"
  repeat walk_at "w"
  refine br_d (fun h => ?_) (fun h => ?_)
  · repeat walk_at "w"
    simpa [h] using k
  · repeat walk_at "w"
    simpa [h] using k
theorem c_listed {d : D} (h : ∃ ds, d = .lst ds ∨ d = .tup ds ∨ d = .tpl ds) (k : Q (.dat (.bl true)) μ) : WR (sem_is_listed [.dat d] μ) Q X := by
  obtain ⟨ds, h⟩ := h
  unfold sem_is_listed
  rcases h with rfl | rfl | rfl <;>
  · refine f_body (by rfl) ?_
    unfold m_is_listed
    walk_at "0"
    repeat walk_at "w"
    exact k
theorem c_pair {p : Nat × Nat} {n : Nat} (ha : p.1 < n) (hb : p.2 < n) (k : Q (.dat (.bl true)) μ) : WR (sem_is_pair [.dat (dp p), .dat (.int n)] μ) Q X := by
  unfold sem_is_pair dp
  refine f_body (by rfl) ?_
  unfold m_is_pair
  walk_at "0"
  repeat walk_at "w"
  refine c_listed ⟨_, .inr (.inl rfl)⟩ ?_
  repeat walk_at "w"
  refine r_lcG (xs := [p.1, p.2]) (fun _ x => .one (.dat (dn x))) (fun _ _ => true) (fun _ x => .bl true) (by simp) ?_ ?_ ?_ ?_
  · rintro (_ | _ | k) x hx
    · cases hx; rfl
    · cases hx; rfl
    · cases hx
  · rfl
  · intro _ x hx
    have hx : x < n := by
      have := List.mem_of_getElem? hx
      simp only [List.mem_cons, List.not_mem_nil, or_false] at this
      rcases this with rfl | rfl
      · exact ha
      · exact hb
    unfold dn
    repeat walk_at "w"
    refine c_within ?_
    rw [decide_eq_true (show (0 : Int) ≤ x by omega), decide_eq_true (show (x : Int) ≤ n - 1 by omega)]
    repeat walk_at "w"
  repeat walk_at "w"
  exact k
theorem c_init {ν : Mu} {n m : Nat} {ps : List (Nat × Nat)} (hν : ν.length = m) (hn : n ≤ 100) (hg : GoodW n ps) (hl : ps.length ≤ 400)
   (k : ∀ ns xs, D.obj "Web" ns xs = wobj n ps → Q (.dat .non) (ν ++ [.ins "Web" ns xs])) : WR (sem_Web___init__ [.ref m, .dat (.int n), .dat (.lst (ps.map dp))] (ν ++ [.ins "Web" [] []])) Q X := by
  have hn1 := hg.1
  unfold sem_Web___init__
  refine f_body (by rfl) ?_
  unfold m_Web___init__
  walk_at "0"
  repeat walk_at "w"
  refine c_within ?_
  repeat walk_at "w"
  refine br_f (by simp; omega) ?_
  repeat walk_at "w"
  refine r_en (fun k τ μ => ∃ x y, τ = [some (.ref m), some (.dat (.int n)), some (.dat (.lst (ps.map dp))), x, y, none] ∧ μ = ν ++ [.ins "Web" [] []]) (by simp; omega) ⟨_, _, rfl, rfl⟩ (fun k x τ μ hx hI => ?_) (fun τ μ hI => ?_)
  · obtain ⟨x1, y1, rfl, rfl⟩ := hI
    rw [List.getElem?_map, List.getElem?_map, Option.map_map, Option.map_eq_some_iff] at hx
    obtain ⟨p, hp, rfl⟩ := hx
    have hk := (List.getElem?_eq_some_iff.mp hp).1
    have hb := hg.2.1 p (List.mem_of_getElem? hp)
    dsimp only [Function.comp]
    repeat walk_at "w"
    refine br_d (fun h => absurd h (by omega)) (fun h => ?_)
    repeat walk_at "w"
    refine c_pair hb.1 hb.2 ?_
    repeat walk_at "w"
    exact ⟨_, _, rfl, rfl⟩
  obtain ⟨x1, y1, rfl, rfl⟩ := hI
  repeat walk_at "w"
  refine r_lcM dp dp (by omega) (fun p hp => ?_) ?_
  · repeat walk_at "w"
  repeat walk_at "w"
  refine r_lcRM (fun r => .lst ((outsL ps r).map dn)) (by omega) (fun r hr => ?_) ?_
  · repeat walk_at "w"
    refine r_lcE dp (fun _ p => p.1 == r) (fun k _ => dn k) (by omega) (fun k p hp => ?_) ?_
    · repeat walk_at "w"
      refine ⟨dec_nat, rfl, fun _ => ?_⟩
      repeat walk_at "w"
    rw [enF_idx]
    repeat walk_at "w"
  repeat walk_at "w"
  refine r_lcRM (fun r => .lst ((insL ps r).map dn)) (by omega) (fun r hr => ?_) ?_
  · repeat walk_at "w"
    refine r_lcE dp (fun _ p => p.2 == r) (fun k _ => dn k) (by omega) (fun k p hp => ?_) ?_
    · repeat walk_at "w"
      refine ⟨dec_nat, rfl, fun _ => ?_⟩
      repeat walk_at "w"
    rw [enF_idx]
    repeat walk_at "w"
  repeat walk_at "w"
  refine WM_eq (x := .dat (.bl false)) ?_ ?_
  · unfold opV
    show (match gIn (.lst []) (.lst ((List.range n).map fun r => .lst ((outsL ps r).map dn))) with | none => none | some f => some (Vx.dat f)) = _
    rw [no_empty hg]
  repeat walk_at "w"
  rw [List.take_of_length_le (by simp)]
  exact k _ _ rfl
end
end Q
namespace Q
section
variable {μ κ : Mu} {Q : Vx → Mu → Prop} {X : Exc → Mu → Prop}
def wT (n : Nat) (ps : List (Nat × Nat)) : D := .tup [.int n, .tup (ps.map dp)]
theorem c_made {n : Nat} {ps : List (Nat × Nat)} (hn : n ≤ 100) (hg : GoodW n ps) (hl : ps.length ≤ 400) (k : Q (.dat (wobj n ps)) μ) : WR (sem__law_made [.dat (wT n ps)] μ) Q X := by
  unfold sem__law_made wT
  refine f_body (by rfl) ?_
  unfold m__law_made
  walk_at "0"
  repeat walk_at "w"
  refine c_init rfl hn hg hl (fun ns xs e => ?_)
  refine made rfl ?_
  rw [e]
  unfold wobj
  repeat walk_at "w"
  exact k
end
end Q
namespace Q
def be (ps : List (Nat × Nat)) (k : Nat) : Nat := (ps.getD k (0, 0)).1
def en (ps : List (Nat × Nat)) (k : Nat) : Nat := (ps.getD k (0, 0)).2
theorem ps_at {ps : List (Nat × Nat)} {k : Nat} (h : k < ps.length) : atL (ps.map dp) (k : Int) = some (.tup [.int (be ps k), .int (en ps k)]) :=
  atL_nat (by rw [List.getElem?_map, List.getElem?_eq_getElem h]; unfold be en; rw [List.getD_eq_getElem?_getD, List.getElem?_eq_getElem h]; rfl)
def rowD (ks : List Nat) : D := .lst (ks.map dn)
theorem row_at {ks : List Nat} {k : Nat} (h : k < ks.length) : atL (ks.map dn) (k : Int) = some (.int (ks[k] : Nat)) :=
  atL_nat (by rw [List.getElem?_map, List.getElem?_eq_getElem h]; rfl)
theorem row_last {ks : List Nat} (h : ks ≠ []) : atL (ks.map dn) (-1) = some (.int (ks.getLast h : Nat)) :=
  atL_last (by
    rw [List.length_map, List.getElem?_map, List.getLast_eq_getElem, List.getElem?_eq_getElem (by have := List.length_pos_iff.mpr h; omega)]; rfl)
section
variable {μ κ : Mu} {Q : Vx → Mu → Prop} {X : Exc → Mu → Prop}
theorem c_outs {n r : Nat} {ps : List (Nat × Nat)} (hl : ps.length ≤ 400) (k : Q (.dat (rowD (outsL ps r))) μ) : WR (sem__law_outs [.dat (wT n ps), .dat (.int r)] μ) Q X := by
  unfold sem__law_outs wT
  refine f_body (by rfl) ?_
  unfold m__law_outs
  walk_at "0"
  repeat walk_at "w"
  refine r_lcE dp (fun _ p => p.1 == r) (fun k _ => dn k) (by omega) (fun k p hp => ?_) ?_
  · repeat walk_at "w"
    refine ⟨dec_nat, rfl, fun _ => ?_⟩
    repeat walk_at "w"
  rw [enF_idx]
  repeat walk_at "w"
  exact k
theorem c_on {n j : Nat} {ps : List (Nat × Nat)} (hl : ps.length ≤ 400) (hj : j < ps.length) (k : Q (.dat (rowD (outsL ps (en ps j)))) μ) : WR (sem__law_on [.dat (wT n ps), .dat (.int j)] μ) Q X := by
  unfold sem__law_on
  refine f_body (by rfl) ?_
  unfold m__law_on
  walk_at "0"
  repeat walk_at "w"
  refine WM_eq (ix_tup (ps_at hj)) ?_
  repeat walk_at "w"
  refine c_outs hl ?_
  unfold rowD at *
  repeat walk_at "w"
  exact k
theorem c_of {b : List D} {ks : List Nat} (hb : Bag b) (h0 : ks ≠ []) (hl : ks.length ≤ 100000) (k : ∀ j ∈ ks, ∀ b', Bag b' → Q (.dat (.int (j : Nat))) (.ld b' :: κ)) : WR (sem__law_of [.ref 0, .dat (rowD ks)] (.ld b :: κ)) Q X := by
  have := List.length_pos_iff.mpr h0
  unfold sem__law_of rowD
  refine f_body (by rfl) ?_
  unfold m__law_of
  walk_at "0"
  repeat walk_at "w"
  refine c_pull hb (by simp; omega) (by simp; omega) (fun j b hb hj => ?_)
  have hj : j < ks.length := by rw [List.length_map] at hj; omega
  repeat walk_at "w"
  refine WM_eq (ix_lst (row_at hj)) ?_
  repeat walk_at "w"
  exact k _ (List.getElem_mem hj) _ hb
end
end Q
namespace Q
/-! comprehensions over a list of the store -/
section
variable {τ : Ls} {μ : Mu} {g : MGI} {p : MT} {e : ME}
theorem li_at {α : Type} {xs : List α} {w : α → D} {i k : Nat} (h : μ[i]? = some (.ld (xs.map w))) : rwAt (.li i) μ k = some ((xs[k]?.map w).map .dat) := by
  unfold rwAt; dsimp only; rw [h]; dsimp only; rw [List.getElem?_map]
theorem r_lcLM {α : Type} {Q : List D → Mu → Prop} {xs : List α} {i : Nat} (w : α → D) (F : α → D) (hz : xs.length ≤ 100000) (h : μ[i]? = some (.ld (xs.map w)))
    (st : ∀ x ∈ xs, WM (g (.one (.dat (w x))) τ μ) fun q => WR (p q.1 q.2) (fun b μ2 => b = true ∧ μ2 = μ ∧ (true = true → WR (e q.1 μ) (fun r μ3 => r = .dat (F x) ∧ μ3 = μ) fun _ _ => False)) fun _ _ => False)
    (en : Q (xs.map F) μ) : WR (runC g p e (.sq (.li i)) τ fuelN 0 μ) (fun ds μ2 => ds.length ≤ 100000 ∧ Q ds μ2) fun _ _ => False :=
  r_lcG (fun _ x => .one (.dat (w x))) (fun _ _ => true) (fun _ => F) hz (fun k x hx => by unfold srcAt; dsimp only; rw [li_at h, hx]; rfl) (by unfold srcAt; dsimp only; rw [li_at h, List.getElem?_eq_none (Nat.le_refl _)]; rfl) (fun k x hx => st x (List.mem_of_getElem? hx)) (by rw [enF_map]; exact en)
theorem r_lcLE {α : Type} {Q : List D → Mu → Prop} {xs : List α} {i : Nat} (w : α → D) (f : Nat → α → Bool) (F : Nat → α → D) (hz : xs.length ≤ 100000) (h : μ[i]? = some (.ld (xs.map w)))
    (st : ∀ (k : Nat) x, xs[k]? = some x → WM (g (.two (.dat (.int (k : Nat))) (.dat (w x))) τ μ) fun q => WR (p q.1 q.2) (fun b μ2 => b = f k x ∧ μ2 = μ ∧ (f k x = true → WR (e q.1 μ) (fun r μ3 => r = .dat (F k x) ∧ μ3 = μ) fun _ _ => False)) fun _ _ => False)
    (en : Q (enF f F 0 xs) μ) : WR (runC g p e (.en (.li i)) τ fuelN 0 μ) (fun ds μ2 => ds.length ≤ 100000 ∧ Q ds μ2) fun _ _ => False :=
  r_lcG (fun k x => .two (.dat (.int (k : Nat))) (.dat (w x))) f F hz (fun k x hx => by unfold srcAt; dsimp only; rw [li_at h, hx]; rfl) (by unfold srcAt; dsimp only; rw [li_at h, List.getElem?_eq_none (Nat.le_refl _)]; rfl) st en
end
theorem nice_dn' {n : Nat} {ks : List Nat} : niceDL n (ks.map dn) = true := niceDL_all fun x hx => by
  obtain ⟨k, _, rfl⟩ := List.mem_map.mp hx
  exact nice_dn
theorem any_dn {k : Nat} {ks : List Nat} : ((ks.map dn).any fun z => eqD z (.int (k : Nat))) = decide (k ∈ ks) := by
  rw [List.any_map, Bool.eq_iff_iff, List.any_eq_true, decide_eq_true_iff]
  constructor
  · rintro ⟨x, hx, e⟩
    have : x = k := by
      unfold dn at e
      simp only [Function.comp, eqD, beq_iff_eq] at e
      omega
    exact this ▸ hx
  · intro h
    exact ⟨k, h, by unfold dn; simp [eqD]⟩
theorem gNotIn_dn {k : Nat} {ks : List Nat} : gNotIn (.int (k : Nat)) (.lst (ks.map dn)) = some (.bl (!decide (k ∈ ks))) := by
  unfold gNotIn
  dsimp only
  rw [show nice60 (.int (k : Nat)) = true by unfold nice60; simp [niceD], show nice60 (.lst (ks.map dn)) = true by unfold nice60; rw [niceD]; exact nice_dn', any_dn]
  rfl
theorem gIn_dn {k : Nat} {ks : List Nat} : gIn (.int (k : Nat)) (.lst (ks.map dn)) = some (.bl (decide (k ∈ ks))) := by
  unfold gIn
  dsimp only
  rw [show nice60 (.int (k : Nat)) = true by unfold nice60; simp [niceD], show nice60 (.lst (ks.map dn)) = true by unfold nice60; rw [niceD]; exact nice_dn', any_dn]
  rfl
theorem cut_take {α : Type} {xs : List α} {m : Nat} : cutP xs none (some (m : Int)) = xs.take m := by
  unfold cutP sIxD
  dsimp only
  rw [if_neg (by omega), List.drop_zero, Nat.sub_zero, Int.toNat_natCast, List.take_eq_take_iff]
  omega
theorem cut_drop {α : Type} {xs : List α} {m : Nat} : cutP xs (some (m : Int)) none = xs.drop m := by
  unfold cutP sIxD
  dsimp only
  rw [if_neg (by omega), Int.toNat_natCast]
  by_cases h : m ≤ xs.length
  · rw [Nat.min_eq_left h, List.take_of_length_le (by simp)]
  · rw [Nat.min_eq_right (by omega), List.drop_length, List.drop_eq_nil_of_le (by omega), List.take_nil]
/-! rows of arrows -/
def Row (ps : List (Nat × Nat)) (row : List Nat) : Prop := (∀ k ∈ row, k < ps.length) ∧ ∀ i x y, row[i]? = some x → row[i + 1]? = some y → en ps x = be ps y
def Walk (ps : List (Nat × Nat)) (a r : List Nat) : Prop := Row ps (a ++ r) ∧ ∃ h : r ≠ [], en ps (r.getLast h) = be ps (r.head h)
def wkD (a r : List Nat) : D := .tup [rowD a, rowD r]
theorem Row.one {ps : List (Nat × Nat)} {j : Nat} (h : j < ps.length) : Row ps [j] := ⟨fun k hk => by simp only [List.mem_singleton] at hk; subst hk; exact h, fun i x y h1 h2 => by simp at h2⟩
theorem Row.snoc {ps : List (Nat × Nat)} {row : List Nat} {j : Nat} (h : Row ps row) (h0 : row ≠ []) (hj : j < ps.length) (e : en ps (row.getLast h0) = be ps j) : Row ps (row ++ [j]) := by
  refine ⟨fun k hk => ?_, fun i x y h1 h2 => ?_⟩
  · rcases List.mem_append.mp hk with hk | hk
    · exact h.1 k hk
    · simp only [List.mem_singleton] at hk
      exact hk ▸ hj
  · by_cases hi : i + 1 < row.length
    · rw [List.getElem?_append_left (by omega)] at h1 h2
      exact h.2 i x y h1 h2
    · have hl := (List.getElem?_eq_some_iff.mp h2).1
      simp only [List.length_append, List.length_singleton] at hl
      have e1 : i + 1 = row.length := by omega
      rw [e1, List.getElem?_append_right (Nat.le_refl _), Nat.sub_self] at h2
      cases h2
      rw [List.getElem?_append_left (by omega)] at h1
      rw [← e, List.getLast_eq_getElem]
      have : x = row[row.length - 1]'(by omega) := by
        have := (List.getElem?_eq_some_iff.mp h1).2
        rw [← this]; congr 1; omega
      rw [this]
theorem outs_be {ps : List (Nat × Nat)} {r j : Nat} (h : j ∈ outsL ps r) : j < ps.length ∧ be ps j = r := by
  obtain ⟨p, _, h2, h3⟩ := (idx_mem _ ps 0 j).mp h
  have := List.getElem?_eq_some_iff.mp h2
  refine ⟨this.1, ?_⟩
  unfold be
  rw [List.getD_eq_getElem?_getD, show ps[j]? = some p from h2]
  simpa using h3
theorem en_lt {n : Nat} {ps : List (Nat × Nat)} (h : GoodW n ps) {j : Nat} (hj : j < ps.length) : en ps j < n := by
  unfold en
  rw [List.getD_eq_getElem?_getD, List.getElem?_eq_getElem hj]
  exact (h.2.1 _ (List.getElem_mem hj)).2
theorem be_lt {n : Nat} {ps : List (Nat × Nat)} (h : GoodW n ps) {j : Nat} (hj : j < ps.length) : be ps j < n := by
  unfold be
  rw [List.getD_eq_getElem?_getD, List.getElem?_eq_getElem hj]
  exact (h.2.1 _ (List.getElem_mem hj)).1
theorem idx_len {α : Type} (f : α → Bool) : ∀ (xs : List α) (k : Nat), (idx f k xs).length ≤ xs.length
  | [], _ => Nat.le_refl _
  | x :: xs, k => by
    unfold idx
    have := idx_len f xs (k + 1)
    split <;> simp only [List.length_cons] <;> omega
def miss (n : Nat) (bs : List Nat) : Nat := ((List.range n).filter fun r => !decide (r ∈ bs)).length
theorem miss_le {n : Nat} {bs : List Nat} : miss n bs ≤ n := by
  have := List.length_filter_le (fun r => !decide (r ∈ bs)) (List.range n)
  rw [List.length_range] at this
  exact this
theorem miss_lt {n e : Nat} {bs : List Nat} (h : e < n) (hb : e ∉ bs) : miss n (bs ++ [e]) < miss n bs := by
  unfold miss
  have : ((List.range n).filter fun r => !decide (r ∈ bs ++ [e])) = ((List.range n).filter fun r => !decide (r ∈ bs)).filter fun r => !decide (r = e) := by
    rw [List.filter_filter]
    refine List.filter_congr fun x _ => ?_
    simp [Bool.and_comm]
  rw [this]
  refine List.length_filter_lt_length_iff_exists.mpr ⟨e, ?_, by simp⟩
  simp [h, hb]
end Q
namespace Q
section
variable {μ κ : Mu} {Q : Vx → Mu → Prop} {X : Exc → Mu → Prop}
theorem c_walk {b : List D} {n : Nat} {ps : List (Nat × Nat)} (hb : Bag b) (hg : GoodW n ps) (hn : n ≤ 100) (hp0 : 0 < ps.length) (hl : ps.length ≤ 400)
   (K : ∀ a r b', Bag b' → Walk ps a r → a.length + r.length ≤ 5 + n → Q (.dat (wkD a r)) [.ld b']) : WR (sem__law_walk [.ref 0, .dat (wT n ps)] [.ld b]) Q X := by
  unfold sem__law_walk
  refine f_body (by rfl) ?_
  unfold m__law_walk
  walk_at "0"
  repeat walk_at "w"
  rw [List.length_map]
  repeat walk_at "w"
  refine c_pull hb (by omega) (by omega) (fun j b hb hj => ?_)
  repeat walk_at "w"
  refine c_pull hb (by omega) (by omega) (fun s b hb hs => ?_)
  repeat walk_at "w"
  refine r_rng0 (fun k τ μ => ∃ b row y, τ = [some (.ref 0), some (.dat (wT n ps)), some (.dat (.int j)), some (.ref 1), y, none, none, none, none] ∧ μ = [.ld b, .ld (row.map dn)] ∧ Bag b ∧ Row ps row ∧ row ≠ [] ∧ row.length = k + 1) (by omega) ⟨_, [j], _, rfl, rfl, hb, Row.one (by omega), by simp, rfl⟩ (fun k τ μ hk hI => ?_) (fun τ μ hI => ?_)
  · obtain ⟨b, row, y, rfl, rfl, hb, hr, h0, hl1⟩ := hI
    have hz := hr.1 _ (List.getLast_mem h0)
    repeat walk_at "w"
    refine WM_eq (ix_ref rfl (row_last h0)) ?_
    repeat walk_at "w"
    refine c_on hl hz ?_
    repeat walk_at "w"
    refine c_of hb (outs_ne hg (en_lt hg hz)) (by have := idx_len (fun p : Nat × Nat => p.1 == en ps (row.getLast h0)) ps 0; unfold outsL; omega) (fun i hi b hb => ?_)
    repeat walk_at "w"
    walk_at "a"
    have := outs_be hi
    exact ⟨_, row ++ [i], _, rfl, by simp [dn], hb, hr.snoc h0 this.1 this.2.symm, by simp, by simp [hl1]⟩
  obtain ⟨b, row, y, rfl, rfl, hb, hr, h0, hl1⟩ := hI
  repeat walk_at "w"
  refine r_lcLM dn (fun i => dn (be ps i)) (by omega) rfl (fun i hi => ?_) ?_
  · have hi := hr.1 i hi
    unfold wT dn
    repeat walk_at "w"
    refine WM_eq (ix_tup (ps_at hi)) ?_
    repeat walk_at "w"
  repeat walk_at "w"
  refine s_while (fun k τ μ => ∃ b row y, τ = [some (.ref 0), some (.dat (wT n ps)), some (.dat (.int j)), some (.ref 1), y, some (.ref 2), none, none, none] ∧ μ = [.ld b, .ld (row.map dn), .ld ((row.map (be ps)).map dn)] ∧ Bag b ∧ Row ps row ∧ row ≠ [] ∧ row.length + k ≤ 5 + n ∧ miss n (row.map (be ps)) ≤ k) (m := n) ⟨_, _, _, rfl, by rw [List.map_map]; rfl, hb, hr, h0, by omega, miss_le⟩ (by omega) (fun k τ μ hI => ?_)
  obtain ⟨b, row, y, rfl, rfl, hb, hr, h0, hl1, hm⟩ := hI
  have hz := hr.1 _ (List.getLast_mem h0)
  have he := en_lt hg hz
  repeat walk_at "w"
  refine WM_eq (ix_ref rfl (row_last h0)) ?_
  repeat walk_at "w"
  refine WM_eq (ix_tup (ps_at hz)) ?_
  repeat walk_at "w"
  refine m_op2 rfl rfl gNotIn_dn ?_
  repeat walk_at "w"
  refine ⟨fun hc => ?_, fun hc => ?_⟩
  · have hc : en ps (row.getLast h0) ∉ row.map (be ps) := by simpa using hc
    have hk := miss_lt he hc
    refine ⟨by omega, ?_⟩
    repeat walk_at "w"
    refine WM_eq (ix_ref rfl (row_last h0)) ?_
    repeat walk_at "w"
    refine c_on hl hz ?_
    repeat walk_at "w"
    refine c_of hb (outs_ne hg he) (by have := idx_len (fun p : Nat × Nat => p.1 == en ps (row.getLast h0)) ps 0; unfold outsL; omega) (fun i hi b hb => ?_)
    repeat walk_at "w"
    walk_at "a"
    have hi := outs_be hi
    repeat walk_at "w"
    refine WM_eq (x := .dat (.int (i : Nat))) ?_ ?_
    · refine ix_ref rfl ?_
      rw [show List.map dn row ++ [D.int (i : Nat)] = (row ++ [i]).map dn by simp [dn], row_last (by simp)]
      simp
    repeat walk_at "w"
    refine WM_eq (ix_tup (ps_at hi.1)) ?_
    repeat walk_at "w"
    walk_at "a"
    refine ⟨_, row ++ [i], _, rfl, by simp [dn], hb, hr.snoc h0 hi.1 hi.2.symm, by simp, by simp; omega, ?_⟩
    rw [List.map_append, List.map_singleton, hi.2]
    omega
  have hc : en ps (row.getLast h0) ∈ row.map (be ps) := by simpa using hc
  repeat walk_at "w"
  refine r_lcLE dn (fun _ r => r == en ps (row.getLast h0)) (fun k _ => dn k) (by simp; omega) rfl (fun k r hr => ?_) ?_
  · unfold dn
    repeat walk_at "w"
    refine WM_eq (ix_ref rfl (row_last h0)) ?_
    repeat walk_at "w"
    refine WM_eq (ix_tup (ps_at hz)) ?_
    repeat walk_at "w"
    refine ⟨dec_nat, rfl, fun _ => ?_⟩
    repeat walk_at "w"
  rw [enF_idx]
  have hne : idx (fun r => r == en ps (row.getLast h0)) 0 (row.map (be ps)) ≠ [] := by
    obtain ⟨t, ht⟩ := List.getElem?_of_mem hc
    have := (idx_mem (fun r => r == en ps (row.getLast h0)) (row.map (be ps)) 0 t).mpr ⟨_, Nat.zero_le _, ht, by simp⟩
    intro z
    rw [z] at this
    cases this
  obtain ⟨r, _, h2, h3⟩ := (idx_mem _ _ _ _).mp (List.getLast_mem hne)
  generalize hat : (idx (fun r => r == en ps (row.getLast h0)) 0 (row.map (be ps))).getLast hne = t at h2
  repeat walk_at "w"
  refine WM_eq (ix_lst (row_last hne)) ?_
  rw [hat]
  repeat walk_at "w"
  rw [cut_take, cut_drop, ← List.map_take, ← List.map_drop]
  have h2' := List.getElem?_eq_some_iff.mp h2
  have ht : t < row.length := by simpa using h2'.1
  refine K (row.take t) (row.drop t) b hb ⟨by rw [List.take_append_drop]; exact hr, ?_, ?_⟩ ?_
  · intro z
    have := List.drop_eq_nil_iff.mp z
    omega
  · rw [List.getLast_drop, List.head_drop]
    have := h2'.2
    rw [List.getElem_map] at this
    rw [beq_iff_eq] at h3
    rw [← h3]
    exact this.symm
  · rw [List.length_take, List.length_drop]
    omega
end
end Q
namespace Q
section
variable {μ κ : Mu} {Q : Vx → Mu → Prop} {X : Exc → Mu → Prop} {n : Nat} {ps : List (Nat × Nat)}
theorem c_has {j : Nat} (hj : j < ps.length) (k : Q (.dat (.bl true)) μ) : WR (sem_Web_has_arrow [.dat (wobj n ps), .dat (.int j)] μ) Q X := by
  unfold sem_Web_has_arrow wobj
  refine f_body (by rfl) ?_
  unfold m_Web_has_arrow
  walk_at "0"
  repeat walk_at "w"
  refine c_within ?_
  rw [List.length_map, decide_eq_true (show (0 : Int) ≤ j by omega), decide_eq_true (show (j : Int) ≤ ps.length - 1 by omega)]
  repeat walk_at "w"
  exact k
theorem c_end {j : Nat} (hj : j < ps.length) (k : Q (.dat (.int (en ps j))) μ) : WR (sem_Web_end [.dat (wobj n ps), .dat (.int j)] μ) Q X := by
  unfold sem_Web_end
  refine f_body (by rfl) ?_
  unfold m_Web_end
  walk_at "0"
  repeat walk_at "w"
  refine c_has hj ?_
  repeat walk_at "w"
  refine WM_eq (ix_tpl (ps_at hj)) ?_
  repeat walk_at "w"
  exact k
theorem c_begin {j : Nat} (hj : j < ps.length) (k : Q (.dat (.int (be ps j))) μ) : WR (sem_Web_begin [.dat (wobj n ps), .dat (.int j)] μ) Q X := by
  unfold sem_Web_begin
  refine f_body (by rfl) ?_
  unfold m_Web_begin
  walk_at "0"
  repeat walk_at "w"
  refine c_has hj ?_
  repeat walk_at "w"
  refine WM_eq (ix_tpl (ps_at hj)) ?_
  repeat walk_at "w"
  exact k
theorem c_fw {row : List Nat} (hr : Row ps row) (hl : row.length ≤ 100000) (K : Q (.dat .non) μ) : WR (sem_Web_first_wrong [.dat (wobj n ps), .dat (rowD row)] μ) Q X := by
  unfold sem_Web_first_wrong rowD
  refine f_body (by rfl) ?_
  unfold m_Web_first_wrong
  walk_at "0"
  repeat walk_at "w"
  refine r_en (fun k τ μ' => ∃ x y, τ = [some (.dat (wobj n ps)), some (.dat (.lst (row.map dn))), x, y] ∧ μ' = μ) (by simp; omega) ⟨_, _, rfl, rfl⟩ (fun k x τ μ' hx hI => ?_) (fun τ μ' hI => ?_)
  · obtain ⟨x1, y1, rfl, rfl⟩ := hI
    rw [List.getElem?_map, List.getElem?_map, Option.map_map, Option.map_eq_some_iff] at hx
    obtain ⟨j, hj, rfl⟩ := hx
    have hk := (List.getElem?_eq_some_iff.mp hj).1
    have hj' := hr.1 j (List.mem_of_getElem? hj)
    dsimp only [Function.comp]
    unfold dn
    repeat walk_at "w"
    refine c_has hj' ?_
    repeat walk_at "w"
    refine br_d (fun h => ?_) (fun h => ?_)
    · obtain ⟨k, rfl⟩ : ∃ m, k = m + 1 := ⟨k - 1, by omega⟩
      repeat walk_at "w"
      rw [show (((k + 1 : Nat) : Int) - 1) = (k : Nat) by omega]
      refine WM_eq (ix_lst (row_at (show k < row.length by omega))) ?_
      have hk' := hr.1 _ (List.getElem_mem (show k < row.length by omega))
      repeat walk_at "w"
      refine WM_eq (ix_tpl (ps_at hk')) ?_
      repeat walk_at "w"
      refine WM_eq (ix_tpl (ps_at hj')) ?_
      repeat walk_at "w"
      have := hr.2 k _ _ (List.getElem?_eq_getElem (by omega)) hj
      refine br_f (by rw [this]; simp) ?_
      repeat walk_at "w"
      exact ⟨_, _, rfl, rfl⟩
    · repeat walk_at "w"
      exact ⟨_, _, rfl, rfl⟩
  · obtain ⟨x1, y1, rfl, rfl⟩ := hI
    repeat walk_at "w"
    exact K
end
end Q
namespace Q
theorem int_beq {a b : Nat} : ((a : Int) == (b : Int)) = (a == b) := by
  by_cases h : a = b
  · subst h; simp
  · rw [beq_eq_false_iff_ne.mpr h, beq_eq_false_iff_ne.mpr (by omega)]
theorem eqDL_dn : ∀ {a b : List Nat}, eqDL (a.map dn) (b.map dn) = (a == b)
  | [], [] => by simp [eqDL]
  | [], _ :: _ => by simp [eqDL]
  | _ :: _, [] => by simp [eqDL]
  | x :: a, y :: b => by
    simp only [List.map_cons, eqDL]
    rw [eqDL_dn, List.cons_beq_cons]
    unfold dn
    rw [eqD, int_beq]
theorem nice_row {ks : List Nat} : nice60 (.lst (ks.map dn)) = true := by unfold nice60; rw [niceD]; exact nice_dn'
theorem nice_trow {ks : List Nat} : nice60 (.tup (ks.map dn)) = true := by unfold nice60; rw [niceD]; exact nice_dn'
theorem gEq_row {a b : List Nat} : gEq (.lst (a.map dn)) (.lst (b.map dn)) = some (.bl (a == b)) := by
  unfold gEq; dsimp only; rw [nice_row, nice_row, if_pos (by rfl), eqD, eqDL_dn]
theorem gEq_trow {a b : List Nat} : gEq (.tup (a.map dn)) (.tup (b.map dn)) = some (.bl (a == b)) := by
  unfold gEq; dsimp only; rw [nice_trow, nice_trow, if_pos (by rfl), eqD, eqDL_dn]
theorem o_data {g : D → D → Option D} {μ : Mu} {d e f : D} (h : g d e = some f) : opV g μ (.dat d) (.dat e) = some (.dat f) := by
  show (match g d e with | none => none | some f => some (Vx.dat f)) = _
  rw [h]
def per (r : List Nat) (s : Nat) : Bool := r.length % s == 0 && r == (List.replicate (r.length / s) (r.take s)).flatten
def Ring (r g : List Nat) : Prop := ∃ s, 1 ≤ s ∧ s ≤ r.length ∧ per r s = true ∧ (∀ t, 1 ≤ t → t < s → per r t = false) ∧ g = r.take s
theorem per_full {r : List Nat} (h : r ≠ []) : per r r.length = true := by
  have := List.length_pos_iff.mpr h
  unfold per
  rw [Nat.mod_self, Nat.div_self this, List.take_length]
  simp
/-- a list of data: standing, or in the store -/
def IsL (μ : Mu) (x : Vx) (ds : List D) : Prop := x = .dat (.lst ds) ∨ ∃ i, x = .ref i ∧ μ[i]? = some (.ld ds)
section
variable {μ : Mu} {x : Vx} {ds : List D} {N : Vx → Prop}
theorem IsL.len (h : IsL μ x ds) (k : N (.dat (.int ds.length))) : WM (fLen μ x) N := by
  rcases h with rfl | ⟨i, rfl, h⟩
  · exact WM_eq rfl k
  · exact m_len h k
theorem IsL.ix {i : Int} {d : D} (h : IsL μ x ds) (hd : atL ds i = some d) (k : N (.dat d)) : WM (fIx μ x (.dat (.int i))) N := by
  rcases h with rfl | ⟨i, rfl, h⟩
  · exact WM_eq (ix_lst hd) k
  · exact WM_eq (ix_ref h hd) k
theorem IsL.tup (h : IsL μ x ds) (k : N (.dat (.tup ds))) : WM (fTup μ x) N := by
  rcases h with rfl | ⟨i, rfl, h⟩
  · exact WM_eq rfl k
  · exact m_tup h k
theorem IsL.dl (h : IsL μ x ds) : dlst μ x = some ds := by
  rcases h with rfl | ⟨i, rfl, h⟩
  · rfl
  · unfold dlst; dsimp only; rw [h]
end
def drawR : List Nat → List Nat → List Nat × List Nat
  | [], r => ([], r)
  | x :: a, r => if r.getLast? = some x then drawR a (x :: r.dropLast) else ((x :: a).reverse, r)
section
variable {μ κ : Mu} {Q : Vx → Mu → Prop} {X : Exc → Mu → Prop} {n : Nat} {ps : List (Nat × Nat)}
theorem nRep_row {a : List Nat} {m : Nat} (h1 : m ≤ 100000) (h2 : a.length * m ≤ 100000) : nRep μ (.dat (.lst (a.map dn))) (.dat (.int (m : Nat))) = some ((List.replicate m a).flatten.map dn) := by
  unfold nRep dlst
  dsimp only
  rw [Int.toNat_natCast, List.length_map, if_pos ⟨by omega, by omega, h2⟩, List.map_flatten, List.map_replicate]
theorem cut_butlast {α : Type} {xs : List α} : cutP xs none (some (-1)) = xs.dropLast := by
  unfold cutP sIxD
  dsimp only
  rw [if_pos (by omega), List.drop_zero, List.dropLast_eq_take]
  congr 1
  omega
theorem nCat_data {a b : List D} (h : a.length + b.length ≤ 100000) : nCat μ (.dat (.lst a)) (.dat (.lst b)) = some (a ++ b) := by
  unfold nCat dlst
  dsimp only
  rw [if_pos h]
theorem c_ring {r : List Nat} (h0 : r ≠ []) (hl : r.length ≤ 1000) (K : ∀ g, Ring r g → Q (.dat (rowD g)) μ) : WR (sem_shortest_ring [.dat (rowD r)] μ) Q X := by
  have hp := List.length_pos_iff.mpr h0
  unfold sem_shortest_ring rowD
  refine f_body (by rfl) ?_
  unfold m_shortest_ring
  walk_at "0"
  repeat walk_at "w"
  rw [List.length_map]
  refine WM_eq (x := rngD 1 (r.length - 1)) (rg2 (m := 1) ⟨by omega, by omega⟩) ?_
  repeat walk_at "w"
  refine r_rng (fun k τ μ' => ∃ y, τ = [some (.dat (.lst (r.map dn))), y] ∧ μ' = μ ∧ ∀ t, 1 ≤ t → t < k + 1 → per r t = false) (by omega) ⟨_, rfl, rfl, by omega⟩ (fun k τ μ' hk hI => ?_) (fun τ μ' hI => ?_)
  · obtain ⟨y, rfl, rfl, hI⟩ := hI
    rw [show (1 : Int) + (k : Nat) = ((k + 1 : Nat) : Int) by omega]
    repeat walk_at "w"
    rw [List.length_map, ← Int.natCast_emod]
    refine br_d (fun h => ?_) (fun h => ?_)
    · have h : r.length % (k + 1) = 0 := by omega
      repeat walk_at "w"
      rw [cut_take, List.length_map, ← Int.natCast_ediv, ← List.map_take]
      have hd := Nat.div_le_self r.length (k + 1)
      refine WM_eq (nRep_row (by omega) ?_) ?_
      · have := Nat.mul_div_le r.length (k + 1)
        rw [List.length_take, Nat.min_eq_left (by omega)]
        omega
      repeat walk_at "w"
      refine WM_eq (o_data gEq_row) ?_
      repeat walk_at "w"
      have hx : (r == (List.replicate (r.length / (k + 1)) (r.take (k + 1))).flatten) = per r (k + 1) := by
        unfold per
        rw [h]
        rfl
      rw [hx]
      refine ⟨fun hc => ?_, fun hc => ?_⟩
      · repeat walk_at "w"
        rw [cut_take, ← List.map_take]
        exact K _ ⟨k + 1, by omega, by omega, hc, hI, rfl⟩
      · repeat walk_at "w"
        refine ⟨_, rfl, rfl, fun t h1 h2 => ?_⟩
        by_cases e : t = k + 1
        · exact e ▸ hc
        · exact hI t h1 (by omega)
    · have h : ¬ r.length % (k + 1) = 0 := by omega
      have hc : per r (k + 1) = false := by
        unfold per
        rw [beq_eq_false_iff_ne.mpr h]
        rfl
      repeat walk_at "w"
      refine ⟨_, rfl, rfl, fun t h1 h2 => ?_⟩
      by_cases e : t = k + 1
      · exact e ▸ hc
      · exact hI t h1 (by omega)
  · obtain ⟨y, rfl, rfl, hI⟩ := hI
    repeat walk_at "w"
    exact K _ ⟨r.length, hp, Nat.le_refl _, per_full h0, fun t h1 h2 => hI t h1 (by omega), by rw [List.take_length]⟩
theorem ring_ne {r g : List Nat} (h : Ring r g) : g ≠ [] ∧ g.length ≤ r.length := by
  obtain ⟨s, h1, h2, _, _, rfl⟩ := h
  refine ⟨fun z => ?_, by rw [List.length_take]; omega⟩
  have := congrArg List.length z
  rw [List.length_take, Nat.min_eq_left h2] at this
  simp only [List.length_nil] at this
  omega
theorem c_drawn {a r : List Nat} (h0 : r ≠ []) (hl : a.length + r.length ≤ 1000) (K : ∀ g, Ring r g → ∀ f g', drawR a.reverse g = (f, g') → Q (.dat (.tup [.tup (f.map dn), .tup (g'.map dn)])) μ) : WR (sem_drawn_in [.dat (rowD a), .dat (rowD r)] μ) Q X := by
  unfold sem_drawn_in rowD
  refine f_body (by rfl) ?_
  unfold m_drawn_in
  walk_at "0"
  repeat walk_at "w"
  refine c_ring h0 (by omega) (fun g hg => ?_)
  have hg0 := ring_ne hg
  have K := K g hg
  clear hg
  repeat walk_at "w"
  refine s_while (fun k τ μ' => ∃ x a' g' y κ, τ = [some x, some (.dat (.lst (g'.map dn))), y] ∧ μ' = μ ++ κ ∧ IsL (μ ++ κ) x (a'.reverse.map dn) ∧ drawR a.reverse g = drawR a' g' ∧ a'.length = k ∧ k ≤ 1000 ∧ g' ≠ [] ∧ g'.length ≤ 1000) (m := a.length) ⟨_, a.reverse, g, _, [], rfl, (List.append_nil _).symm, .inl (by rw [List.reverse_reverse]), rfl, by simp, by omega, hg0.1, by omega⟩ (by omega) (fun k τ μ' hI => ?_)
  obtain ⟨x, a', g', y, κ, rfl, rfl, hx, hd, hk, hk2, hg, hg2⟩ := hI
  repeat walk_at "w"
  refine hx.len ?_
  repeat walk_at "w"
  rw [List.length_map, List.length_reverse]
  cases a' with
  | nil =>
    refine br_f (by simp) ?_
    repeat walk_at "w"
    refine hx.tup ?_
    repeat walk_at "w"
    exact K [] g' hd
  | cons z a' =>
    refine br_t (by simp) ?_
    have hlast : atL ((z :: a').reverse.map dn) (-1) = some (.int (z : Nat)) := by
      rw [row_last (by simp)]
      simp
    repeat walk_at "w"
    refine hx.ix hlast ?_
    repeat walk_at "w"
    refine WM_eq (ix_lst (row_last hg)) ?_
    repeat walk_at "w"
    refine br_d (fun h => ?_) (fun h => ?_)
    · have h : g'.getLast hg = z := by omega
      have hd' : drawR (z :: a') g' = drawR a' (z :: g'.dropLast) := by
        conv => lhs; unfold drawR
        rw [if_pos (by rw [List.getLast?_eq_some_getLast hg, h])]
      refine ⟨by rw [← hk]; simp, ?_⟩
      repeat walk_at "w"
      refine g_star hx.dl (by simp at hk ⊢; omega) (d := .int (z : Nat)) (by simp [dn]) ?_
      repeat walk_at "w"
      rw [cut_butlast]
      refine WM_eq (nCat_data (by simp; omega)) ?_
      repeat walk_at "w"
      refine ⟨.ref (μ ++ κ).length, a', z :: g'.dropLast, some (.dat (.int (z : Nat))), κ ++ [.ld (a'.reverse.map dn)], ?_, ?_, .inr ⟨(μ ++ κ).length, rfl, ?_⟩, hd.trans hd', by rw [← hk]; simp, by omega, by simp, by simp; omega⟩
      · rw [List.map_cons, List.map_dropLast]
        rfl
      · rw [List.append_assoc]; simp
      · rw [← List.append_assoc]
        exact get0 rfl
    · have h : ¬ g'.getLast hg = z := by omega
      have hd' : drawR (z :: a') g' = ((z :: a').reverse, g') := by
        conv => lhs; unfold drawR
        rw [if_neg (by rw [List.getLast?_eq_some_getLast hg]; simpa using h)]
      repeat walk_at "w"
      refine hx.tup ?_
      repeat walk_at "w"
      exact K _ g' (hd.trans hd')
end
end Q
namespace Q
def kobj (n : Nat) (ps : List (Nat × Nat)) (f g : List Nat) : D := .obj "Walker" ["home", "front", "round"] [wobj n ps, .tup (f.map dn), .tup (g.map dn)]
section
variable {μ κ : Mu} {Q : Vx → Mu → Prop} {X : Exc → Mu → Prop} {n : Nat} {ps : List (Nat × Nat)}
theorem c_winit {ν : Mu} {m : Nat} {a r : List Nat} (hν : ν.length = m) (hw : Walk ps a r) (hl : a.length + r.length ≤ 1000)
   (K : ∀ g f g', Ring r g → drawR a.reverse g = (f, g') → ∀ ns xs, D.obj "Walker" ns xs = kobj n ps f g' → Q (.dat .non) (ν ++ [.ins "Walker" ns xs])) :
    WR (sem_Walker___init__ [.ref m, .dat (wobj n ps), .dat (rowD a), .dat (rowD r)] (ν ++ [.ins "Walker" [] []])) Q X := by
  obtain ⟨hr, h0, he⟩ := hw
  have h0' : a ++ r ≠ [] := by simp [h0]
  have hp := List.length_pos_iff.mpr h0
  have hlast := hr.1 _ (List.getLast_mem h0')
  unfold sem_Walker___init__ rowD
  refine f_body (by rfl) ?_
  unfold m_Walker___init__
  walk_at "0"
  repeat walk_at "w"
  refine WM_eq (nCat_data (by simp; omega)) ?_
  repeat walk_at "w"
  rw [← List.map_append]
  refine c_fw hr (by simp; omega) ?_
  repeat walk_at "w"
  rw [List.length_map]
  refine br_f (by simp [h0]) ?_
  repeat walk_at "w"
  refine WM_eq (ix_lst (row_last h0')) ?_
  repeat walk_at "w"
  refine c_end hlast ?_
  repeat walk_at "w"
  refine WM_eq (ix_lst (row_at (k := 0) hp)) ?_
  repeat walk_at "w"
  refine c_begin (hr.1 _ (by simp)) ?_
  repeat walk_at "w"
  refine br_f ?_ ?_
  · have : (a ++ r).getLast h0' = r.getLast h0 := by rw [List.getLast_append_of_ne_nil _ h0]
    rw [this, he, List.head_eq_getElem]
    simp
  repeat walk_at "w"
  refine c_drawn h0 hl (fun g hg f g' hd => ?_)
  repeat walk_at "w"
  rw [List.take_of_length_le (by simp)]
  exact K g f g' hg hd _ _ rfl
end
end Q
namespace Q
theorem eqDL_dp : ∀ {a b : List (Nat × Nat)}, eqDL (a.map dp) (b.map dp) = (a == b)
  | [], [] => by simp [eqDL]
  | [], _ :: _ => by simp [eqDL]
  | _ :: _, [] => by simp [eqDL]
  | (x, x') :: a, (y, y') :: b => by
    simp only [List.map_cons, eqDL]
    rw [eqDL_dp, List.cons_beq_cons]
    unfold dp
    simp only [eqD, eqDL, int_beq, Bool.and_true]
    rfl
theorem nice_dp {n : Nat} {p : Nat × Nat} : niceD (n + 1) (dp p) = true := by unfold dp; simp [niceD, niceDL]
theorem nice_tpl {ps : List (Nat × Nat)} : nice60 (.tpl (ps.map dp)) = true := by
  unfold nice60; rw [niceD]
  exact niceDL_all fun x hx => by
    obtain ⟨p, _, rfl⟩ := List.mem_map.mp hx
    exact nice_dp
theorem gEq_tpl {a b : List (Nat × Nat)} : gEq (.tpl (a.map dp)) (.tpl (b.map dp)) = some (.bl (a == b)) := by
  unfold gEq; dsimp only; rw [nice_tpl, nice_tpl, if_pos (by rfl), eqD, eqDL_dp]
section
variable {μ κ : Mu} {Q : Vx → Mu → Prop} {X : Exc → Mu → Prop} {n : Nat} {ps : List (Nat × Nat)}
theorem c_weq {m : Nat} {qs : List (Nat × Nat)} (K : Q (.dat (.bl (n == m && ps == qs))) μ) : WR (sem_Web___eq__ [.dat (wobj n ps), .dat (wobj m qs)] μ) Q X := by
  unfold sem_Web___eq__
  refine f_body (by rfl) ?_
  unfold m_Web___eq__
  walk_at "0"
  repeat walk_at "w"
  refine br_d (fun h => ?_) (fun h => ?_)
  · repeat walk_at "w"
    refine WM_eq (o_data gEq_tpl) ?_
    repeat walk_at "w"
    rw [show (n == m) = true by simp; omega] at K
    exact K
  · repeat walk_at "w"
    rw [show (n == m) = false by simp; omega] at K
    exact K
theorem c_keq {m : Nat} {qs : List (Nat × Nat)} {f g f' g' : List Nat} (K : Q (.dat (.bl ((n == m && ps == qs) && (f == f' && g == g')))) μ) : WR (sem_Walker___eq__ [.dat (kobj n ps f g), .dat (kobj m qs f' g')] μ) Q X := by
  unfold sem_Walker___eq__
  refine f_body (by rfl) ?_
  unfold m_Walker___eq__
  walk_at "0"
  repeat walk_at "w"
  refine c_weq ?_
  repeat walk_at "w"
  generalize (n == m && ps == qs) = p at K ⊢
  cases p with
  | false =>
    repeat walk_at "w"
    exact K
  | true =>
    repeat walk_at "w"
    refine WM_eq (o_data gEq_trow) ?_
    repeat walk_at "w"
    generalize (f == f') = p at K ⊢
    cases p with
    | false =>
      repeat walk_at "w"
      exact K
    | true =>
      repeat walk_at "w"
      refine WM_eq (o_data gEq_trow) ?_
      repeat walk_at "w"
      exact K
theorem c_arrow {f g : List Nat} {m : Nat} (hf : f.length ≤ m) (hg : g ≠ []) (hl : g.length < 1000) (K : Q (.dat (.int (g[(m - f.length) % g.length]'(Nat.mod_lt _ (List.length_pos_iff.mpr hg)) : Nat))) μ) : WR (sem_Walker_arrow [.dat (kobj n ps f g), .dat (.int (m : Nat))] μ) Q X := by
  have hp := List.length_pos_iff.mpr hg
  unfold sem_Walker_arrow
  refine f_body (by rfl) ?_
  unfold m_Walker_arrow
  walk_at "0"
  repeat walk_at "w"
  unfold sem_Walker_arrow_at
  refine f_body (by rfl) ?_
  unfold m_Walker_arrow_at
  walk_at "0"
  repeat walk_at "w"
  rw [List.length_map]
  refine br_f (by simp; omega) ?_
  repeat walk_at "w"
  rw [List.length_map, show ((m : Nat) : Int) - (f.length : Nat) = ((m - f.length : Nat) : Int) by omega]
  repeat walk_at "w"
  rw [← Int.natCast_emod]
  refine WM_eq (ix_tup (row_at (Nat.mod_lt _ hp))) ?_
  repeat walk_at "w"
  exact K
theorem c_walker {a r : List Nat} (hn : n ≤ 100) (hg : GoodW n ps) (hl : ps.length ≤ 400) (hw : Walk ps a r) (hl2 : a.length + r.length ≤ 1000)
   (K : ∀ g f g', Ring r g → drawR a.reverse g = (f, g') → Q (.dat (kobj n ps f g')) μ) : WR (sem__law_walker [.dat (wT n ps), .dat (wkD a r)] μ) Q X := by
  unfold sem__law_walker
  refine f_body (by rfl) ?_
  unfold m__law_walker
  walk_at "0"
  repeat walk_at "w"
  refine c_made hn hg hl ?_
  unfold wkD
  repeat walk_at "w"
  refine c_winit rfl hw hl2 (fun g f g' hg hd ns xs e => ?_)
  refine made rfl ?_
  rw [e]
  unfold kobj
  repeat walk_at "w"
  exact K g f g' hg hd
end
end Q
namespace Q
/-- the beats of a walk -/
def bt (a r : List Nat) (i : Nat) : Nat := if i < a.length then a.getD i 0 else r.getD ((i - a.length) % r.length) 0
def bts (a r : List Nat) (m : Nat) : List Nat := (List.range m).map (bt a r)
theorem bts_a {a r : List Nat} : bts a r a.length = a := by
  unfold bts
  refine List.ext_getElem (by simp) fun i h1 h2 => ?_
  rw [List.getElem_map, List.getElem_range]
  unfold bt
  rw [if_pos h2, List.getD_eq_getElem?_getD, List.getElem?_eq_getElem h2]
  rfl
theorem bts_r {a r : List Nat} {k : Nat} : bts a r (a.length + k * r.length) ++ r = bts a r (a.length + (k + 1) * r.length) := by
  unfold bts
  have e : a.length + (k + 1) * r.length = (a.length + k * r.length) + r.length := by rw [Nat.succ_mul]; omega
  have hb : ∀ i (h : i < r.length), bt a r (a.length + k * r.length + i) = r[i] := fun i h => by
    unfold bt
    rw [if_neg (by omega), show a.length + k * r.length + i - a.length = i + r.length * k by rw [Nat.mul_comm]; omega, Nat.add_mul_mod_self_left, Nat.mod_eq_of_lt h, List.getD_eq_getElem?_getD, List.getElem?_eq_getElem h]
    rfl
  rw [e]
  generalize a.length + k * r.length = L at hb
  rw [List.range_add, List.map_append]
  congr 1
  refine List.ext_getElem (by simp) fun i h1 h2 => ?_
  simp only [List.getElem_map, List.getElem_range]
  exact (hb i h1).symm
theorem bts_len {a r : List Nat} {m : Nat} : (bts a r m).length = m := by unfold bts; simp
theorem bts_take {a r : List Nat} {m n : Nat} (h : m ≤ n) : (bts a r n).take m = bts a r m := by
  unfold bts
  rw [← List.map_take, List.take_range, Nat.min_eq_left h]
section
variable {μ κ : Mu} {Q : Vx → Mu → Prop} {X : Exc → Mu → Prop} {n : Nat} {ps : List (Nat × Nat)}
theorem c_beats {a r : List Nat} {m : Nat} (hr : r ≠ []) (hm : m ≤ 1000) (hl : a.length + r.length ≤ 1000) (K : Q (.dat (rowD (bts a r m))) μ) : WR (sem__law_beats [.dat (wkD a r), .dat (.int (m : Nat))] μ) Q X := by
  have hp := List.length_pos_iff.mpr hr
  unfold sem__law_beats wkD rowD
  refine f_body (by rfl) ?_
  unfold m__law_beats
  walk_at "0"
  repeat walk_at "w"
  refine s_while (fun k τ μ' => ∃ j, τ = [some (.dat (wkD a r)), some (.dat (.int (m : Nat))), some (.dat (rowD a)), some (.dat (rowD r)), some (.dat (rowD (bts a r (a.length + j * r.length))))] ∧ μ' = μ ∧ a.length + j * r.length ≤ 2000 ∧ m ≤ a.length + j * r.length + k) (m := m) ⟨0, by rw [Nat.zero_mul, Nat.add_zero, bts_a]; rfl, rfl, by omega, by omega⟩ (by omega) (fun k τ μ' hI => ?_)
  obtain ⟨j, rfl, rfl, h1, h2⟩ := hI
  generalize hL : a.length + j * r.length = L at h1 h2
  unfold rowD
  repeat walk_at "w"
  rw [List.length_map, bts_len]
  refine br_d (fun h => ?_) (fun h => ?_)
  · refine ⟨by omega, ?_⟩
    repeat walk_at "w"
    refine WM_eq (nCat_data (by rw [List.length_map, List.length_map, bts_len]; omega)) ?_
    repeat walk_at "w"
    have e : a.length + (j + 1) * r.length = L + r.length := by rw [Nat.succ_mul]; omega
    refine ⟨j + 1, ?_, by first | rfl | trivial, by omega, by omega⟩
    rw [← bts_r, hL, List.map_append]
  · repeat walk_at "w"
    rw [cut_take, ← List.map_take, bts_take (by omega)]
    exact K
end
end Q
namespace Q
/-! normal forms of walks -/
def cyc (r : List Nat) (i : Nat) : Nat := r.getD (i % r.length) 0
theorem cyc_at {r : List Nat} {i : Nat} (h : i < r.length) : cyc r i = r[i] := by
  unfold cyc
  rw [Nat.mod_eq_of_lt h, List.getD_eq_getElem?_getD, List.getElem?_eq_getElem h]
  rfl
theorem cyc_mod {r : List Nat} {i : Nat} : cyc r (i % r.length) = cyc r i := by unfold cyc; rw [Nat.mod_mod]
theorem cyc_add {r : List Nat} {i : Nat} : cyc r (i + r.length) = cyc r i := by unfold cyc; rw [Nat.add_mod_right]
def Pd (c : Nat → Nat) (p : Nat) : Prop := ∀ i, c (i + p) = c i
theorem Pd.mul {c : Nat → Nat} {p : Nat} (h : Pd c p) : ∀ k i, c (i + p * k) = c i
  | 0, i => rfl
  | k + 1, i => by rw [Nat.mul_succ, ← Nat.add_assoc, h, h.mul k]
theorem Pd.gcd {c : Nat → Nat} (p q : Nat) : Pd c p → Pd c q → Pd c (Nat.gcd p q) := by
  refine Nat.gcd.induction p q (fun n => ?_) (fun m n hm ih => ?_)
  · intro _ h
    rw [Nat.gcd_zero_left]
    exact h
  · intro h1 h2
    rw [Nat.gcd_rec]
    refine ih (fun i => ?_) h1
    rw [← h1.mul (n / m), Nat.add_assoc, Nat.mod_add_div]
    exact h2 i
theorem cyc_pd {r : List Nat} : Pd (cyc r) r.length := fun _ => cyc_add
def Prim (g : List Nat) : Prop := g ≠ [] ∧ ∀ d, 1 ≤ d → d ∣ g.length → Pd (cyc g) d → d = g.length
theorem flat_len {l : List Nat} : ∀ {k : Nat}, (List.replicate k l).flatten.length = k * l.length
  | 0 => by simp
  | k + 1 => by rw [List.replicate_succ, List.flatten_cons, List.length_append, flat_len, Nat.succ_mul, Nat.add_comm]
theorem flat_at {l : List Nat} : ∀ {k i : Nat}, i < k * l.length → (List.replicate k l).flatten[i]? = l[i % l.length]?
  | 0, i, h => by omega
  | k + 1, i, h => by
    rw [List.replicate_succ, List.flatten_cons]
    by_cases hi : i < l.length
    · rw [List.getElem?_append_left hi, Nat.mod_eq_of_lt hi]
    · rw [List.getElem?_append_right (by omega), flat_at (by rw [Nat.succ_mul] at h; omega), ← Nat.mod_eq_sub_mod (by omega)]
theorem cyc_take {r : List Nat} {s i : Nat} (h0 : 1 ≤ s) (h : s ≤ r.length) : cyc (r.take s) i = cyc r (i % s) := by
  have hl : (r.take s).length = s := by rw [List.length_take, Nat.min_eq_left h]
  have hi := Nat.mod_lt i (show s > 0 by omega)
  rw [← cyc_mod, hl, cyc_at (by omega), cyc_at (by omega), List.getElem_take]
theorem per_iff {r : List Nat} {s : Nat} (h0 : 1 ≤ s) (h : s ≤ r.length) : per r s = true ↔ s ∣ r.length ∧ Pd (cyc r) s := by
  have hl : (r.take s).length = s := by rw [List.length_take, Nat.min_eq_left h]
  unfold per
  rw [Bool.and_eq_true, beq_iff_eq, beq_iff_eq, ← Nat.dvd_iff_mod_eq_zero]
  refine and_congr_right fun hd => ?_
  have hk : r.length / s * s = r.length := Nat.div_mul_cancel hd
  constructor
  · intro e
    have hc : ∀ i, cyc r i = cyc r (i % s) := fun i => by
      have hi := Nat.mod_lt i (show r.length > 0 by omega)
      have h1 : r[i % r.length]? = (r.take s)[(i % r.length) % s]? := by
        have := flat_at (l := r.take s) (k := r.length / s) (i := i % r.length) (by rw [hl, hk]; exact hi)
        rw [← e, hl] at this
        exact this
      rw [Nat.mod_mod_of_dvd _ hd] at h1
      have h2 := Nat.mod_lt i (show s > 0 by omega)
      rw [List.getElem?_take_of_lt h2] at h1
      rw [cyc_at (show i % s < r.length by omega)]
      unfold cyc
      rw [List.getD_eq_getElem?_getD, h1, List.getElem?_eq_getElem (by omega)]
      rfl
    intro i
    rw [hc, Nat.add_mod_right, ← hc]
  · intro hp
    refine List.ext_getElem? fun i => ?_
    by_cases hi : i < r.length
    · have h2 := Nat.mod_lt i (show s > 0 by omega)
      rw [flat_at (by rw [hl, hk]; exact hi), hl, List.getElem?_take_of_lt h2, List.getElem?_eq_getElem hi, List.getElem?_eq_getElem (show i % s < r.length by omega), Option.some.injEq, ← cyc_at hi, ← cyc_at (show i % s < r.length by omega)]
      conv => lhs; rw [← Nat.mod_add_div i s]
      exact hp.mul _ _
    · rw [List.getElem?_eq_none (by omega), List.getElem?_eq_none]
      rw [flat_len, hl, hk]
      omega
theorem ring_prim {r g : List Nat} (h : Ring r g) : Prim g ∧ ∀ i, cyc g i = cyc r i := by
  have hg := (ring_ne h).1
  obtain ⟨s, h1, h2, h3, h4, rfl⟩ := h
  have hl : (r.take s).length = s := by rw [List.length_take, Nat.min_eq_left h2]
  have hp := (per_iff h1 h2).mp h3
  have hc : ∀ i, cyc (r.take s) i = cyc r i := fun i => by
    rw [cyc_take h1 h2]
    conv => rhs; rw [← Nat.mod_add_div i s]
    exact (hp.2.mul _ _).symm
  refine ⟨⟨hg, fun d hd1 hd2 hd3 => ?_⟩, hc⟩
  rw [hl] at hd2 ⊢
  have hle := Nat.le_of_dvd h1 hd2
  have hpd : Pd (cyc r) d := fun i => by rw [← hc, ← hc]; exact hd3 i
  by_cases e : d < s
  · have := (per_iff hd1 (by omega)).mpr ⟨Nat.dvd_trans hd2 hp.1, hpd⟩
    rw [h4 d hd1 e] at this
    cases this
  · omega
theorem Prim.rot {x : Nat} {g : List Nat} (h : Prim g) (e : g.getLast? = some x) : Prim (x :: g.dropLast) ∧ (x :: g.dropLast).length = g.length ∧ ∀ i, cyc (x :: g.dropLast) (i + 1) = cyc g i := by
  have hp := List.length_pos_iff.mpr h.1
  have hl : (x :: g.dropLast).length = g.length := by rw [List.length_cons, List.length_dropLast]; omega
  have hlast : g[g.length - 1]? = some x := by rw [← List.getLast?_eq_getElem?]; exact e
  have hc : ∀ i, cyc (x :: g.dropLast) (i + 1) = cyc g i := fun i => by
    have hi := Nat.mod_lt i hp
    have e1 : cyc (x :: g.dropLast) (i + 1) = cyc (x :: g.dropLast) (i % g.length + 1) := by
      unfold cyc
      rw [hl, Nat.add_mod, Nat.add_mod (i % g.length) 1, Nat.mod_mod]
    rw [e1, ← cyc_mod (r := g)]
    generalize i % g.length = j at hi
    by_cases hj : j + 1 = g.length
    · have : cyc (x :: g.dropLast) (j + 1) = x := by
        rw [hj, ← hl]
        have := cyc_add (r := x :: g.dropLast) (i := 0)
        rw [Nat.zero_add] at this
        rw [this]
        rfl
      rw [this, cyc_at hi]
      have h3 := (List.getElem?_eq_some_iff.mp hlast).2
      rw [← h3]
      congr 1
      omega
    · rw [cyc_at hi, cyc_at (show j + 1 < (x :: g.dropLast).length by omega), List.getElem_cons_succ, List.getElem_dropLast]
  refine ⟨⟨by simp, fun d h1 h2 h3 => ?_⟩, hl, hc⟩
  rw [hl] at h2 ⊢
  refine h.2 d h1 h2 fun i => ?_
  rw [← hc, ← hc, Nat.add_right_comm]
  exact h3 (i + 1)
theorem bt_cyc {a r : List Nat} {i : Nat} : bt a r (a.length + i) = cyc r i := by
  unfold bt cyc
  rw [if_neg (by omega), Nat.add_sub_cancel_left]
theorem bt_lt {a r : List Nat} {i : Nat} (h : i < a.length) : bt a r i = a[i] := by
  unfold bt
  rw [if_pos h, List.getD_eq_getElem?_getD, List.getElem?_eq_getElem h]
  rfl
theorem bt_per {a r : List Nat} {i : Nat} (h : a.length ≤ i) : bt a r (i + r.length) = bt a r i := by
  obtain ⟨j, rfl⟩ := Nat.exists_eq_add_of_le h
  rw [Nat.add_assoc, bt_cyc, bt_cyc, cyc_add]
/-- a normal form -/
def NF (f g : List Nat) : Prop := Prim g ∧ (f = [] ∨ f.getLast? ≠ g.getLast?)
theorem draw_nf : ∀ (ra g f g' : List Nat), Prim g → drawR ra g = (f, g') → NF f g' ∧ ∀ i, bt f g' i = bt ra.reverse g i
  | [], g, f, g', h, e => by
    cases e
    exact ⟨⟨h, .inl rfl⟩, fun _ => rfl⟩
  | x :: a, g, f, g', h, e => by
    unfold drawR at e
    by_cases hx : g.getLast? = some x
    · rw [if_pos hx] at e
      obtain ⟨h1, h2, h3⟩ := h.rot hx
      obtain ⟨h4, h5⟩ := draw_nf a _ f g' h1 e
      refine ⟨h4, fun i => (h5 i).trans ?_⟩
      rw [List.reverse_cons]
      by_cases hi : i < a.reverse.length
      · rw [bt_lt hi, bt_lt (by rw [List.length_append]; omega), List.getElem_append_left]
      · obtain ⟨j, rfl⟩ := Nat.exists_eq_add_of_le (Nat.le_of_not_lt hi)
        rw [bt_cyc]
        cases j with
        | zero =>
          rw [bt_lt (by rw [List.length_append, List.length_singleton]; omega), List.getElem_append_right (by omega)]
          simp [cyc]
        | succ j =>
          rw [h3, show a.reverse.length + (j + 1) = (a.reverse ++ [x]).length + j by rw [List.length_append, List.length_singleton]; omega, bt_cyc]
    · rw [if_neg hx] at e
      cases e
      refine ⟨⟨h, .inr ?_⟩, fun _ => rfl⟩
      rw [List.getLast?_reverse]
      exact fun z => hx z.symm
theorem nf_le {f1 g1 f2 g2 : List Nat} (h1 : NF f1 g1) (h2 : NF f2 g2) (h : ∀ i, bt f1 g1 i = bt f2 g2 i) : ¬ f1.length < f2.length := by
  intro hl
  have p1 := List.length_pos_iff.mpr h1.1.1
  have p2 := List.length_pos_iff.mpr h2.1.1
  have pm : ∀ k i, f1.length ≤ i → bt f1 g1 (i + k * g1.length) = bt f1 g1 i := fun k => by
    induction k with
    | zero => intro i _; rw [Nat.zero_mul]; rfl
    | succ k ih => intro i hi; rw [Nat.succ_mul, ← Nat.add_assoc, bt_per (by omega), ih i hi]
  rcases h2.2 with rfl | hne
  · simp at hl
  · refine hne ?_
    have e1 := pm g2.length (f2.length - 1) (by omega)
    have hm : 1 ≤ g2.length * g1.length := Nat.mul_pos p2 p1
    rw [h, h, bt_lt (show f2.length - 1 < f2.length by omega), show f2.length - 1 + g2.length * g1.length = f2.length + (g2.length * g1.length - 1) by omega, bt_cyc] at e1
    obtain ⟨k, hk⟩ : ∃ k, g1.length = k + 1 := ⟨g1.length - 1, by omega⟩
    have e2 : cyc g2 (g2.length * g1.length - 1) = g2[g2.length - 1] := by
      rw [hk, Nat.mul_succ, show g2.length * k + g2.length - 1 = (g2.length - 1) + g2.length * k by omega, (cyc_pd (r := g2)).mul, cyc_at (by omega)]
    rw [List.getLast?_eq_getElem?, List.getLast?_eq_getElem?, List.getElem?_eq_getElem (by omega), List.getElem?_eq_getElem (by omega), ← e1, e2]
theorem nf_uniq {f1 g1 f2 g2 : List Nat} (h1 : NF f1 g1) (h2 : NF f2 g2) (h : ∀ i, bt f1 g1 i = bt f2 g2 i) : f1 = f2 ∧ g1 = g2 := by
  have hl : f1.length = f2.length := by
    have a := nf_le h1 h2 h
    have b := nf_le h2 h1 fun i => (h i).symm
    omega
  have hf : f1 = f2 := List.ext_getElem hl fun i a b => by rw [← bt_lt (r := g1) a, ← bt_lt (r := g2) b, h]
  subst hf
  have hc : ∀ i, cyc g1 i = cyc g2 i := fun i => by rw [← bt_cyc (a := f1), ← bt_cyc (a := f1), h]
  have p1 := List.length_pos_iff.mpr h1.1.1
  have q1 : Pd (cyc g1) g2.length := fun i => by rw [hc, hc]; exact cyc_add
  have q2 : Pd (cyc g2) g1.length := fun i => by rw [← hc, ← hc]; exact cyc_add
  have d0 : 1 ≤ Nat.gcd g1.length g2.length := Nat.gcd_pos_of_pos_left _ p1
  have e1 := h1.1.2 _ d0 (Nat.gcd_dvd_left ..) (Pd.gcd _ _ cyc_pd q1)
  have e2 := h2.1.2 _ d0 (Nat.gcd_dvd_right ..) (Pd.gcd _ _ q2 cyc_pd)
  refine ⟨rfl, List.ext_getElem (e1.symm.trans e2) fun i a b => ?_⟩
  rw [← cyc_at a, ← cyc_at b, hc]
/-- walks that agree for long are equal -/
theorem fine {a1 r1 a2 r2 : List Nat} (h1 : r1 ≠ []) (h2 : r2 ≠ []) (h : ∀ i, i < a1.length + a2.length + r1.length + r2.length → bt a1 r1 i = bt a2 r2 i) : ∀ i, bt a1 r1 i = bt a2 r2 i := by
  have p1 := List.length_pos_iff.mpr h1
  have p2 := List.length_pos_iff.mpr h2
  intro i
  induction i using Nat.strongRecOn with
  | _ i ih =>
    by_cases hi : i < a1.length + a2.length + r1.length + r2.length
    · exact h i hi
    · obtain ⟨j, hj, rfl⟩ : ∃ j, a1.length + a2.length ≤ j ∧ i = j + r1.length + r2.length := ⟨i - r1.length - r2.length, by omega, by omega⟩
      rw [Nat.add_right_comm, bt_per (by omega), ih _ (by omega), bt_per (by omega), ← ih _ (by omega), ← bt_per (r := r1) (by omega), ih _ (by omega), Nat.add_right_comm, bt_per (by omega)]
end Q
namespace Q
theorem Row.left {ps : List (Nat × Nat)} {x y : List Nat} (h : Row ps (x ++ y)) : Row ps x :=
  ⟨fun k hk => h.1 k (List.mem_append.mpr (.inl hk)), fun i a b h1 h2 => by
    have a1 := (List.getElem?_eq_some_iff.mp h1).1
    have a2 := (List.getElem?_eq_some_iff.mp h2).1
    exact h.2 i a b (by rw [List.getElem?_append_left a1]; exact h1) (by rw [List.getElem?_append_left a2]; exact h2)⟩
theorem Row.right {ps : List (Nat × Nat)} {x y : List Nat} (h : Row ps (x ++ y)) : Row ps y :=
  ⟨fun k hk => h.1 k (List.mem_append.mpr (.inr hk)), fun i a b h1 h2 => by
    refine h.2 (x.length + i) a b ?_ ?_
    · rw [List.getElem?_append_right (by omega), Nat.add_sub_cancel_left]; exact h1
    · rw [List.getElem?_append_right (by omega), show x.length + i + 1 - x.length = i + 1 by omega]; exact h2⟩
theorem Row.app {ps : List (Nat × Nat)} {x y : List Nat} (h : Row ps x) (h' : Row ps y) (j : ∀ (a : x ≠ []) (b : y ≠ []), en ps (x.getLast a) = be ps (y.head b)) : Row ps (x ++ y) := by
  refine ⟨fun k hk => (List.mem_append.mp hk).elim (h.1 k) (h'.1 k), fun i a b h1 h2 => ?_⟩
  by_cases hi : i + 1 < x.length
  · rw [List.getElem?_append_left (by omega)] at h1 h2
    exact h.2 i a b h1 h2
  · by_cases hi2 : i + 1 = x.length
    · have hx : x ≠ [] := by intro z; rw [z] at hi2; simp at hi2
      rw [List.getElem?_append_left (by omega)] at h1
      rw [List.getElem?_append_right (by omega), hi2, Nat.sub_self] at h2
      have hy : y ≠ [] := by intro z; rw [z] at h2; cases h2
      have := j hx hy
      rw [List.getLast_eq_getElem, List.head_eq_getElem] at this
      have e1 : a = x[x.length - 1]'(by omega) := by
        have := (List.getElem?_eq_some_iff.mp h1).2
        rw [← this]; congr 1; omega
      have e2 := (List.getElem?_eq_some_iff.mp h2).2
      rw [e1, ← e2]; exact this
    · rw [List.getElem?_append_right (by omega)] at h1 h2
      rw [show i + 1 - x.length = i - x.length + 1 by omega] at h2
      exact h'.2 _ a b h1 h2
theorem Walk.more {ps : List (Nat × Nat)} {a r : List Nat} (h : Walk ps a r) : Walk ps (a ++ r) r := by
  obtain ⟨hr, h0, he⟩ := h
  refine ⟨hr.app hr.right fun a b => ?_, h0, he⟩
  rw [List.getLast_append_of_ne_nil _ h0]
  exact he
theorem Walk.twice {ps : List (Nat × Nat)} {a r : List Nat} (h : Walk ps a r) : Walk ps a (r ++ r) := by
  have h2 := h.more.1
  obtain ⟨hr, h0, he⟩ := h
  rw [List.append_assoc] at h2
  refine ⟨h2, by simp [h0], ?_⟩
  rw [List.getLast_append_of_ne_nil _ h0, List.head_append_of_ne_nil h0]
  exact he
theorem Walk.loop {ps : List (Nat × Nat)} {a r : List Nat} {t : Nat} (h : Walk ps a r) (ht : t < ps.length) (h1 : be ps t = en ps (r.getLast h.2.1)) (h2 : en ps t = be ps t) : Walk ps (a ++ r ++ [t]) [t] := by
  obtain ⟨hr, h0, he⟩ := h
  have h3 : Row ps (a ++ r ++ [t]) := hr.snoc (by simp [h0]) ht (by rw [List.getLast_append_of_ne_nil _ h0]; exact h1.symm)
  exact ⟨h3.snoc (by simp) ht (by simpa using h2), by simp, by simpa using h2⟩
theorem be_app {ps : List (Nat × Nat)} {p : Nat × Nat} {k : Nat} (h : k < ps.length) : be (ps ++ [p]) k = be ps k := by
  unfold be
  rw [List.getD_eq_getElem?_getD, List.getD_eq_getElem?_getD, List.getElem?_append_left h]
theorem en_app {ps : List (Nat × Nat)} {p : Nat × Nat} {k : Nat} (h : k < ps.length) : en (ps ++ [p]) k = en ps k := by
  unfold en
  rw [List.getD_eq_getElem?_getD, List.getD_eq_getElem?_getD, List.getElem?_append_left h]
theorem Walk.wide {ps : List (Nat × Nat)} {a r : List Nat} {p : Nat × Nat} (h : Walk ps a r) : Walk (ps ++ [p]) a r := by
  obtain ⟨hr, h0, he⟩ := h
  refine ⟨⟨fun k hk => by rw [List.length_append]; have := hr.1 k hk; omega, fun i x y h1 h2 => ?_⟩, h0, ?_⟩
  · rw [en_app (hr.1 _ (List.mem_of_getElem? h1)), be_app (hr.1 _ (List.mem_of_getElem? h2))]
    exact hr.2 i x y h1 h2
  · rw [en_app (hr.right.1 _ (List.getLast_mem h0)), be_app (hr.right.1 _ (List.head_mem h0))]
    exact he
theorem GoodW.wide {n : Nat} {ps : List (Nat × Nat)} (h : GoodW n ps) : GoodW n (ps ++ [(0, 0)]) :=
  ⟨h.1, fun p hp => by
    rcases List.mem_append.mp hp with hp | hp
    · exact h.2.1 p hp
    · simp only [List.mem_singleton] at hp
      subst hp
      exact ⟨h.1, h.1⟩, fun r hr => by
    obtain ⟨p, hp, e⟩ := h.2.2 r hr
    exact ⟨p, by simp [hp], e⟩⟩
theorem draw_len : ∀ (ra g f g' : List Nat), drawR ra g = (f, g') → g ≠ [] → f.length ≤ ra.length ∧ g'.length = g.length
  | [], g, f, g', e, _ => by cases e; exact ⟨Nat.le_refl _, rfl⟩
  | x :: a, g, f, g', e, h0 => by
    have := List.length_pos_iff.mpr h0
    unfold drawR at e
    by_cases hx : g.getLast? = some x
    · rw [if_pos hx] at e
      have h := draw_len a _ f g' e (by simp)
      rw [List.length_cons, List.length_dropLast] at h
      rw [List.length_cons]
      omega
    · rw [if_neg hx] at e
      cases e
      exact ⟨by simp, rfl⟩
theorem wk_nf {a r g f g' : List Nat} (h1 : Ring r g) (h2 : drawR a.reverse g = (f, g')) : NF f g' ∧ ∀ i, bt f g' i = bt a r i := by
  obtain ⟨p, q⟩ := ring_prim h1
  obtain ⟨h3, h4⟩ := draw_nf _ _ _ _ p h2
  refine ⟨h3, fun i => (h4 i).trans ?_⟩
  rw [List.reverse_reverse]
  by_cases hi : i < a.length
  · rw [bt_lt hi, bt_lt hi]
  · obtain ⟨j, rfl⟩ := Nat.exists_eq_add_of_le (Nat.le_of_not_lt hi)
    rw [bt_cyc, bt_cyc, q]
theorem due_iff {a1 r1 a2 r2 g1 f1 G1 g2 f2 G2 : List Nat} {m : Nat} (n1 : r1 ≠ []) (n2 : r2 ≠ []) (h1 : Ring r1 g1) (e1 : drawR a1.reverse g1 = (f1, G1)) (h2 : Ring r2 g2) (e2 : drawR a2.reverse g2 = (f2, G2))
   (hm : m = a1.length + a2.length + r1.length + r2.length) : (f1 == f2 && G1 == G2) = (bts a1 r1 m == bts a2 r2 m) := by
  obtain ⟨u1, v1⟩ := wk_nf h1 e1
  obtain ⟨u2, v2⟩ := wk_nf h2 e2
  rw [Bool.eq_iff_iff, Bool.and_eq_true, beq_iff_eq, beq_iff_eq, beq_iff_eq]
  constructor
  · rintro ⟨rfl, rfl⟩
    unfold bts
    exact List.map_congr_left fun i _ => by rw [← v1, ← v2]
  · intro h
    refine nf_uniq u1 u2 fun i => ?_
    rw [v1, v2]
    refine fine n1 n2 (fun i hi => ?_) i
    have := congrArg (fun l => l[i]?) h
    unfold bts at this
    simp only [List.getElem?_map] at this
    rw [List.getElem?_range (by omega)] at this
    exact Option.some.inj this
end Q
namespace Q
theorem cut_take1 {α : Type} {xs : List α} : cutP xs none (some 1) = xs.take 1 := cut_take (m := 1)
section
variable {X : Exc → Mu → Prop}
/-- the states of a turn -/
def T9 (ns : List Int) (x : List (Option Vx)) (b : List D) (τ : Ls) (μ : Mu) : Prop := τ = some (.dat (.scr ns)) :: some (.ref 0) :: x ∧ μ = [.ld b] ∧ Bag b
theorem law_turn {ns : List Int} (hns : ns.length ≤ 63) : WR (sem_law [.dat (.scr ns)] []) (fun r _ => r = .dat (.bl true)) fun _ _ => False := by
  unfold sem_law
  refine f_body (by rfl) ?_
  unfold m_law
  walk_at "0"
  repeat walk_at "w"
  refine c_bag hns (fun b hb => ?_)
  repeat walk_at "w"
  refine r_rng0 (fun k τ μ => ∃ b x2 x3 x4 x5 x6 x7 x8 x9 x10 x11 x12 x13, τ = [some (.dat (.scr ns)), some (.ref 0), x2, x3, x4, x5, x6, x7, x8, x9, x10, x11, x12, x13] ∧ μ = [.ld b] ∧ Bag b) (n := 6) (by omega) ⟨_, _, _, _, _, _, _, _, _, _, _, _, _, rfl, rfl, hb⟩ (fun k τ μ hk hI => ?_) (fun τ μ hI => ?_)
  · obtain ⟨b, x2, x3, x4, x5, x6, x7, x8, x9, x10, x11, x12, x13, rfl, rfl, hb⟩ := hI
    repeat walk_at "w"
    refine c_web hb (by omega) (by omega) (by omega) (by omega) (fun n ps b hb hg hn hl => ?_)
    have hl : ps.length ≤ 6 := by omega
    have hn : n ≤ 3 := by omega
    have hp0 : 0 < ps.length := by
      obtain ⟨p, hp, _⟩ := hg.2.2 0 hg.1
      exact List.length_pos_of_mem hp
    repeat walk_at "w"
    refine c_walk hb hg (by omega) hp0 (by omega) (fun a1 r1 b hb hw1 hl1 => ?_)
    repeat walk_at "w"
    refine c_walk hb hg (by omega) hp0 (by omega) (fun a2 r2 b hb hw2 hl2 => ?_)
    walk_at "c"
    have hr1 := List.length_pos_iff.mpr hw1.2.1
    refine s_cut (fun τ μ => ∃ a2 r2 b x6 x7, τ = [some (.dat (.scr ns)), some (.ref 0), some (.dat (.int (k : Nat))), some (.dat (wT n ps)), some (.dat (wkD a1 r1)), some (.dat (wkD a2 r2)), x6, x7, x8, x9, x10, x11, x12, x13] ∧ μ = [.ld b] ∧ Bag b ∧ Walk ps a2 r2 ∧ a2.length + r2.length ≤ 50) ?_ ?_
    · repeat walk_at "w"
      refine c_pull hb (by omega) (by omega) (fun i b hb hi => ?_)
      repeat walk_at "w"
      refine br_d (fun hi => ?_) (fun hi => ?_)
      · repeat walk_at "w"
        rw [List.length_map, List.length_map, show ((a1.length : Nat) : Int) + (r1.length : Nat) = ((a1.length + r1.length : Nat) : Int) by omega]
        refine c_beats hw1.2.1 (by omega) (by omega) ?_
        repeat walk_at "w"
        refine WM_eq (nRep_row (m := 2) (by omega) (by omega)) ?_
        repeat walk_at "w"
        refine ⟨a1 ++ r1, r1 ++ r1, b, x6, x7, ?_, rfl, hb, hw1.more.twice, by simp; omega⟩
        have := bts_r (a := a1) (r := r1) (k := 0)
        rw [Nat.zero_mul, Nat.add_zero, bts_a, Nat.zero_add, Nat.one_mul] at this
        rw [← this]
        simp [wkD, rowD, List.replicate, wT]
      repeat walk_at "w"
      refine c_pull hb (by omega) (by omega) (fun i b hb hi => ?_)
      repeat walk_at "w"
      refine br_d (fun hi => ?_) (fun hi => ?_)
      · have hz := hw1.1.right.1 _ (List.getLast_mem hw1.2.1)
        repeat walk_at "w"
        refine WM_eq (ix_lst (row_last hw1.2.1)) ?_
        repeat walk_at "w"
        refine WM_eq (ix_tup (ps_at hz)) ?_
        repeat walk_at "w"
        refine c_outs (by omega) ?_
        unfold rowD
        repeat walk_at "w"
        have hol := idx_len (fun p : Nat × Nat => p.1 == en ps (r1.getLast hw1.2.1)) ps 0
        refine r_lcF dn (fun j => en ps j == en ps (r1.getLast hw1.2.1)) dn (by unfold outsL; omega) (fun j hj => ?_) ?_
        · have hj := outs_be hj
          unfold dn
          repeat walk_at "w"
          refine WM_eq (ix_tup (ps_at hj.1)) ?_
          repeat walk_at "w"
          refine ⟨dec_nat, rfl, fun _ => ?_⟩
          repeat walk_at "w"
        repeat walk_at "w"
        rw [cut_take1, ← List.map_take]
        have hfl := List.length_filter_le (fun j => en ps j == en ps (r1.getLast hw1.2.1)) (outsL ps (en ps (r1.getLast hw1.2.1)))
        refine WM_eq (nCat_data (by rw [List.length_map, List.length_map, List.length_take]; unfold outsL at hfl ⊢; omega)) ?_
        rw [← List.map_append]
        obtain ⟨t, tl, htl⟩ : ∃ t tl, (outsL ps (en ps (r1.getLast hw1.2.1))).filter (fun j => en ps j == en ps (r1.getLast hw1.2.1)) ++ r1.take 1 = t :: tl := by
          cases h : (outsL ps (en ps (r1.getLast hw1.2.1))).filter (fun j => en ps j == en ps (r1.getLast hw1.2.1)) ++ r1.take 1 with
          | nil =>
            have := congrArg List.length h
            rw [List.length_append, List.length_take, List.length_nil] at this
            omega
          | cons t tl => exact ⟨t, tl, rfl⟩
        have ht : t < ps.length ∧ be ps t = en ps (r1.getLast hw1.2.1) := by
          have : t ∈ (outsL ps (en ps (r1.getLast hw1.2.1))).filter (fun j => en ps j == en ps (r1.getLast hw1.2.1)) ++ r1.take 1 := by rw [htl]; simp
          rcases List.mem_append.mp this with h | h
          · exact outs_be (List.mem_filter.mp h).1
          · have : t = r1.head hw1.2.1 := by
              cases r1 with
              | nil => exact absurd rfl hw1.2.1
              | cons y r1 => simpa using h
            subst this
            exact ⟨hw1.1.right.1 _ (List.head_mem _), hw1.2.2.symm⟩
        rw [htl]
        repeat walk_at "w"
        rw [List.length_map, List.length_map, show ((a1.length : Nat) : Int) + 2 * (r1.length : Nat) = ((a1.length + 2 * r1.length : Nat) : Int) by omega]
        refine c_beats hw1.2.1 (by omega) (by omega) ?_
        unfold rowD
        repeat walk_at "w"
        rw [cut_take1, ← List.map_take]
        refine WM_eq (nCat_data (by rw [List.length_map, List.length_map, bts_len, List.length_take]; omega)) ?_
        rw [← List.map_append]
        repeat walk_at "w"
        refine WM_eq (ix_lst (row_at (k := 0) (by simp))) ?_
        simp only [List.getElem_cons_zero]
        refine WM_eq (ix_tup (ps_at ht.1)) ?_
        repeat walk_at "w"
        refine br_d (fun he => ?_) (fun he => ?_)
        · repeat walk_at "w"
          rw [cut_take1, ← List.map_take]
          repeat walk_at "w"
          have h1 := bts_r (a := a1) (r := r1) (k := 0)
          have h2 := bts_r (a := a1) (r := r1) (k := 1)
          rw [Nat.zero_mul, Nat.add_zero, bts_a, Nat.zero_add] at h1
          rw [← h1] at h2
          rw [← h2]
          exact ⟨a1 ++ r1 ++ r1 ++ [t], [t], b, _, _, rfl, rfl, hb, hw1.more.loop ht.1 ht.2 (by omega), by simp; omega⟩
        · repeat walk_at "w"
          exact ⟨a1, r1, b, _, _, rfl, rfl, hb, hw1, by omega⟩
      · repeat walk_at "w"
        exact ⟨a2, r2, b, x6, x7, rfl, rfl, hb, hw2, by omega⟩
    rintro τ μ ⟨a2, r2, b, x6, x7, rfl, rfl, hb, hw2, hl2⟩
    have hr2 := List.length_pos_iff.mpr hw2.2.1
    repeat walk_at "w"
    obtain ⟨m, hm⟩ : ∃ m, m = a1.length + a2.length + r1.length + r2.length := ⟨_, rfl⟩
    simp only [List.length_map]
    rw [show ((a1.length : Nat) : Int) + (a2.length : Nat) + (r1.length : Nat) + (r2.length : Nat) = (m : Nat) by omega]
    refine c_beats hw1.2.1 (by omega) (by omega) ?_
    repeat walk_at "w"
    refine c_beats hw2.2.1 (by omega) (by omega) ?_
    repeat walk_at "w"
    refine WM_eq (o_data gEq_row) ?_
    repeat walk_at "w"
    refine c_walker (by omega) hg (by omega) hw1 (by omega) (fun g1 f1 G1 hg1 hd1 => ?_)
    repeat walk_at "w"
    refine c_walker (by omega) hg (by omega) hw2 (by omega) (fun g2 f2 G2 hg2 hd2 => ?_)
    have hdue := due_iff hw1.2.1 hw2.2.1 hg1 hd1 hg2 hd2 hm
    have hdue' : (f2 == f1 && G2 == G1) = (bts a1 r1 m == bts a2 r2 m) := by rw [← hdue, Bool.beq_comm (a := f2), Bool.beq_comm (a := G2)]
    repeat walk_at "w"
    have ww : ∀ p : Bool, (n == n && ps == ps && p) = p := fun p => by simp
    refine c_keq ?_
    rw [ww, hdue]
    repeat walk_at "w"
    refine br_f (by rw [eqD_bl]; simp) ?_
    repeat walk_at "w"
    refine c_keq ?_
    rw [ww, hdue']
    repeat walk_at "w"
    refine br_f (by rw [eqD_bl]; simp) ?_
    repeat walk_at "w"
    refine c_keq ?_
    rw [ww, hdue]
    repeat walk_at "w"
    refine br_f (by rw [eqD_bl]; simp) ?_
    repeat walk_at "w"
    refine WM_eq (x := .dat (.tup ((ps ++ [(0, 0)]).map dp))) ?_ ?_
    · unfold fCatT dtup
      dsimp only
      rw [if_pos (by rw [List.length_map, List.length_singleton]; omega)]
      simp [dp]
    repeat walk_at "w"
    refine c_walker (by omega) hg.wide (by rw [List.length_append, List.length_singleton]; omega) hw1.wide (by omega) (fun g3 f3 G3 hg3 hd3 => ?_)
    repeat walk_at "w"
    refine c_keq ?_
    repeat walk_at "w"
    have hne : (ps == ps ++ [(0, 0)]) = false := by
      refine beq_eq_false_iff_ne.mpr fun h => ?_
      have := congrArg List.length h
      rw [List.length_append, List.length_singleton] at this
      omega
    refine br_f (by rw [hne]; simp) ?_
    repeat walk_at "w"
    refine c_walker (by omega) hg (by omega) hw1 (by omega) (fun g3 f3 G3 hg3 hd3 => ?_)
    repeat walk_at "w"
    refine c_keq ?_
    have hs := due_iff (m := a1.length + a1.length + r1.length + r1.length) hw1.2.1 hw1.2.1 hg1 hd1 hg3 hd3 rfl
    rw [ww, hs]
    repeat walk_at "w"
    refine br_f (by simp) ?_
    repeat walk_at "w"
    refine br_b (fun hd => ?_) (fun hd => ?_)
    · rw [hd, Bool.and_eq_true, beq_iff_eq, beq_iff_eq] at hdue
      obtain ⟨rfl, rfl⟩ := hdue
      repeat walk_at "w"
      have big : (10 : Int) ^ Int.toNat 20 = ((100000000000000000000 : Nat) : Int) := by decide +kernel
      have hz := draw_len _ _ _ _ hd1 (ring_ne hg1).1
      have hy := (ring_ne hg1).2
      have hG : G1 ≠ [] := by
        intro z
        rw [z] at hz
        exact (ring_ne hg1).1 (List.length_eq_zero_iff.mp hz.2.symm)
      rw [List.length_reverse] at hz
      rw [big]
      refine c_arrow (by omega) hG (by omega) ?_
      repeat walk_at "w"
      rw [big]
      refine c_arrow (by omega) hG (by omega) ?_
      repeat walk_at "w"
      refine br_f (by simp) ?_
      repeat walk_at "w"
      exact ⟨b, _, _, _, _, _, _, _, _, _, _, _, _, rfl, rfl, hb⟩
    · repeat walk_at "w"
      exact ⟨b, _, _, _, _, _, _, _, _, _, _, _, _, rfl, rfl, hb⟩
  · obtain ⟨b, x2, x3, x4, x5, x6, x7, x8, x9, x10, x11, x12, x13, rfl, rfl, hb⟩ := hI
    repeat walk_at "w"
    rfl
theorem plain {ns : List Int} (h : ns.length ≤ 63) : ∃ μ, sem_law [.dat (.scr ns)] [] = .v (.dat (.bl true)) μ := by
  obtain ⟨r, μ, e, rfl⟩ := WR_get (law_turn h)
  exact ⟨μ, e⟩
end
end Q
end Y
set_option Elab.async false
set_option linter.all false
set_option maxRecDepth 100000
/-! A2: the store in the heap: what is held, and how steps keep it. -/
namespace Y
open PySem PySem.Spec PyProof.Rows L2 Z
/-- the script -/
def scrD (K : PySem.W.Frag) (ns : List Int) : DD := .abs (fun v G => ∃ a, v = V.ref a ∧ SqL K G a (ns.map V.int)) fun _ _ _ e h => by
  obtain ⟨a, h1, h2⟩ := h
  exact ⟨a, h1, Same.seq e h2⟩
def dicD (ks : List Ky) (es : List DD) : DD := .abs (fun v G => ∃ a ws, v = V.ref a ∧ G a = some (.dK (ks.zip ws)) ∧ ks.length = ws.length ∧ Z.RepL G es ws) fun _ _ _ e h => by
  obtain ⟨a, ws, h1, h2, h3, h4⟩ := h
  exact ⟨a, ws, h1, e _ _ h2, h3, h4.mono e _ _⟩
def ditD (ks : List (List Ky)) (es : List DD) : DD := .abs (fun v G => ∃ a ws, v = V.ref a ∧ G a = some (.dT (ks.zip ws)) ∧ ks.length = ws.length ∧ Z.RepL G es ws) fun _ _ _ e h => by
  obtain ⟨a, ws, h1, h2, h3, h4⟩ := h
  exact ⟨a, ws, h1, e _ _ h2, h3, h4.mono e _ _⟩
section
variable (K : PySem.W.Frag)
mutual
def dd : D → DD
  | .non => .non
  | .bl b => .bl b
  | .int i => .int i
  | .str s => .str s
  | .ty n => .ty n
  | .tup xs => .tup (ddL xs)
  | .tpl xs => .tpl (ddL xs)
  | .lst xs => .lst (ddL xs)
  | .dic ks vs => dicD ks (ddL vs)
  | .dit ks vs => ditD ks (ddL vs)
  | .obj c ns xs => .obj (He.ga K (Str.ofString c)) (ns.map Str.ofString) (ddL xs)
  | .scr ns => scrD K ns
def ddL : List D → List DD
  | [] => []
  | x :: xs => dd x :: ddL xs
end
/-! a value in the heap: references stand below n -/
mutual
def RV (G : Hp) (m : Nat → Addr) (n : Nat) : Vx → V → Prop
  | .dat d, v => Z.Rep G (dd K d) v
  | .ref i, v => i < n ∧ v = V.ref (m i)
  | .tup xs, v => ∃ a vs, v = V.ref a ∧ Rd G a (.tup vs) ∧ RVL G m n xs vs
def RVL (G : Hp) (m : Nat → Addr) (n : Nat) : List Vx → List V → Prop
  | [], vs => vs = []
  | x :: xs, vs => ∃ v r, vs = v :: r ∧ RV G m n x v ∧ RVL G m n xs r
end
def RC (G H : Hp) (m : Nat → Addr) (i : Nat) : Cl → Prop
  | .ld ds => ∃ vs, H (m i) = some (.lst vs) ∧ Z.RepL G (ddL K ds) vs
  | .lv xs => ∃ vs, H (m i) = some (.lst vs) ∧ RVL K G m i xs vs
  | .ins c ns xs => ∃ dx vs, H (m i) = some (.ins (He.ga K (Str.ofString c)) dx ((ns.map Str.ofString).zip vs)) ∧ ns.length = vs.length ∧ Z.RepL G (ddL K xs) vs
  | .dic ks es => ∃ ws, H (m i) = some (.dK (ks.zip ws)) ∧ ks.length = ws.length ∧ Z.RepL G (ddL K es) ws
  | .dit ks es => ∃ ws, H (m i) = some (.dT (ks.zip ws)) ∧ ks.length = ws.length ∧ Z.RepL G (ddL K es) ws
end
variable {K : PySem.W.Frag}
def Ag (n : Nat) (m m' : Nat → Addr) : Prop := ∀ i, i < n → m' i = m i
theorem Ag.refl {n : Nat} {m : Nat → Addr} : Ag n m m := fun _ _ => rfl
theorem Ag.trans {n n' : Nat} {m m1 m2 : Nat → Addr} (a : Ag n m m1) (b : Ag n' m1 m2) (h : n ≤ n') : Ag n m m2 := fun i hi => (b i (by omega)).trans (a i hi)
mutual
theorem RV.mono {G G' : Hp} {m m' : Nat → Addr} {n n' : Nat} (e : Same G G') (a : Ag n m m') (h : n ≤ n') : ∀ (x : Vx) (v : V), RV K G m n x v → RV K G' m' n' x v
  | .dat d, v, r => Z.Rep.mono e _ _ r
  | .ref i, v, r => ⟨by have := r.1; omega, by rw [a i r.1]; exact r.2⟩
  | .tup xs, v, r => by
    obtain ⟨p, vs, h1, h2, h3⟩ := r
    exact ⟨p, vs, h1, rd_mono e h2, RVL.mono e a h xs vs h3⟩
theorem RVL.mono {G G' : Hp} {m m' : Nat → Addr} {n n' : Nat} (e : Same G G') (a : Ag n m m') (h : n ≤ n') : ∀ (xs : List Vx) (vs : List V), RVL K G m n xs vs → RVL K G' m' n' xs vs
  | [], _, r => r
  | x :: xs, _, r => by
    obtain ⟨v, q, h1, h2, h3⟩ := r
    exact ⟨v, q, h1, RV.mono e a h x v h2, RVL.mono e a h xs q h3⟩
end
theorem RVL.cons {G : Hp} {m : Nat → Addr} {n : Nat} {x : Vx} {xs : List Vx} {v : V} {vs : List V} (h : RV K G m n x v) (t : RVL K G m n xs vs) : RVL K G m n (x :: xs) (v :: vs) := ⟨v, vs, rfl, h, t⟩
theorem RVL.length {G : Hp} {m : Nat → Addr} {n : Nat} : ∀ {xs : List Vx} {vs : List V}, RVL K G m n xs vs → vs.length = xs.length
  | [], _, h => congrArg List.length (show _ = [] from h)
  | x :: xs, _, h => by
    obtain ⟨v, r, h1, h2, h3⟩ := h
    rw [h1, List.length_cons, List.length_cons, RVL.length h3]
theorem RVL.get {G : Hp} {m : Nat → Addr} {n : Nat} : ∀ {xs : List Vx} {vs : List V} {i : Nat} {x : Vx}, RVL K G m n xs vs → xs[i]? = some x → ∃ v, vs[i]? = some v ∧ RV K G m n x v
  | [], _, i, x, _, h => by simp at h
  | y :: xs, _, 0, x, h, q => by
    obtain ⟨v, r, rfl, h2, h3⟩ := h
    cases q
    exact ⟨v, rfl, h2⟩
  | y :: xs, _, i + 1, x, h, q => by
    obtain ⟨v, r, rfl, h2, h3⟩ := h
    obtain ⟨u, h4, h5⟩ := RVL.get (i := i) h3 (by simpa using q)
    exact ⟨u, by simpa using h4, h5⟩
theorem RVL.append {G : Hp} {m : Nat → Addr} {n : Nat} : ∀ {xs ys : List Vx} {vs ws : List V}, RVL K G m n xs vs → RVL K G m n ys ws → RVL K G m n (xs ++ ys) (vs ++ ws)
  | [], _, _, _, h, q => by
    have e : _ = [] := h
    rw [e]
    exact q
  | x :: xs, _, _, _, h, q => by
    obtain ⟨v, r, rfl, h2, h3⟩ := h
    exact RVL.cons h2 (RVL.append h3 q)
mutual
theorem RV.below {G : Hp} {m : Nat → Addr} {n k : Nat} : ∀ (x : Vx) (v : V), bel k x = true → RV K G m n x v → RV K G m k x v
  | .dat d, v, _, r => r
  | .ref i, v, h, r => ⟨by unfold bel at h; exact of_decide_eq_true h, r.2⟩
  | .tup xs, v, h, r => by
    obtain ⟨p, vs, h1, h2, h3⟩ := r
    unfold bel at h
    exact ⟨p, vs, h1, h2, RVL.below xs vs h h3⟩
theorem RVL.below {G : Hp} {m : Nat → Addr} {n k : Nat} : ∀ (xs : List Vx) (vs : List V), belL k xs = true → RVL K G m n xs vs → RVL K G m k xs vs
  | [], _, _, r => r
  | x :: xs, _, h, r => by
    obtain ⟨v, q, h1, h2, h3⟩ := r
    unfold belL at h
    rw [Bool.and_eq_true] at h
    exact ⟨v, q, h1, RV.below x v h.1 h2, RVL.below xs q h.2 h3⟩
end
theorem RC.mono {G G' H H' : Hp} {m m' : Nat → Addr} {i : Nat} {cl : Cl} (e : Same G G') (a : ∀ j, j ≤ i → m' j = m j) (h : H' (m i) = H (m i)) (r : RC K G H m i cl) : RC K G' H' m' i cl := by
  have hi := a i (Nat.le_refl _)
  cases cl with
  | ld ds => obtain ⟨vs, h1, h2⟩ := r; exact ⟨vs, by rw [hi, h]; exact h1, h2.mono e _ _⟩
  | lv xs => obtain ⟨vs, h1, h2⟩ := r; exact ⟨vs, by rw [hi, h]; exact h1, h2.mono e (fun j hj => a j (by omega)) (Nat.le_refl _)⟩
  | ins c ns xs => obtain ⟨dx, vs, h1, h3, h2⟩ := r; exact ⟨dx, vs, by rw [hi, h]; exact h1, h3, h2.mono e _ _⟩
  | dic ks es => obtain ⟨ws, h1, h3, h2⟩ := r; exact ⟨ws, by rw [hi, h]; exact h1, h3, h2.mono e _ _⟩
  | dit ks es => obtain ⟨ws, h1, h3, h2⟩ := r; exact ⟨ws, by rw [hi, h]; exact h1, h3, h2.mono e _ _⟩
/-! ### growth -/
structure FrY (X : Addr → Prop) (G H G' H' : Hp) : Prop where
  g : Same G G'
  h : ∀ a o, H a = some o → ¬ X a → H' a = some o
  n : ∀ a, G a = none → H a ≠ none → G' a = none
  t : ∀ a, H a ≠ none → H' a ≠ none
theorem FrY.refl {X : Addr → Prop} {G H : Hp} : FrY X G H G H := ⟨Same.refl G, fun _ _ h _ => h, fun _ h _ => h, fun _ h => h⟩
theorem FrY.trans {X Y : Addr → Prop} {G H G1 H1 G2 H2 : Hp} (a : FrY X G H G1 H1) (b : FrY Y G1 H1 G2 H2) (s : ∀ a, Y a → X a ∨ H a = none) : FrY X G H G2 H2 :=
  ⟨a.g.trans b.g, fun p o h nx => b.h p o (a.h p o h nx) fun y => (s p y).elim nx fun z => (by rw [h] at z; cases z), fun p h q => b.n p (a.n p h q) (a.t p q), fun p h => b.t p (a.t p h)⟩
structure Cfg where
  n0 : Nat
  m0 : Nat → Addr
  G0 : Hp
  H0 : Hp
  T : List (Addr × Str)
def Cfg.X (c : Cfg) : Addr → Prop := fun a => (∃ i, i < c.n0 ∧ a = c.m0 i) ∨ ∃ p ∈ c.T, a = p.1
structure Ok (K : PySem.W.Frag) (c : Cfg) (τ : Ls) (μ : Mu) (m : Nat → Addr) (σ : L2.St) (G H : Hp) : Prop where
  ex : Same G H
  tu : Tu G H
  fr : FrY c.X c.G0 c.H0 G H
  len : σ.length = τ.length
  sl : ∀ (i : Nat) (x : Vx), τ[i]? = some (some x) → ∃ v, σ[i]? = some (some v) ∧ RV K G m μ.length x v
  ce : ∀ (i : Nat) (cl : Cl), μ[i]? = some cl → RC K G H m i cl
  sp : ∀ i, i < μ.length → G (m i) = none ∧ H (m i) ≠ none ∧ (i < c.n0 ∧ m i = c.m0 i ∨ c.n0 ≤ i ∧ c.H0 (m i) = none)
  inj : ∀ i j, i < μ.length → j < μ.length → m i = m j → i = j
  low : c.n0 ≤ μ.length
  tb : LamX.Tabs c.T H
  tg : ∀ p ∈ c.T, G p.1 = none ∧ c.H0 p.1 ≠ none ∧ ∀ i, i < c.n0 → c.m0 i ≠ p.1
section
variable {c : Cfg} {τ τ' : Ls} {μ μ' : Mu} {m m' : Nat → Addr} {σ σ' : L2.St} {G H G' H' : Hp}
theorem Ok.ne_tab (o : Ok K c τ μ m σ G H) {p : Addr × Str} (hp : p ∈ c.T) {i : Nat} (hi : i < μ.length) : m i ≠ p.1 := fun e => by
  obtain ⟨_, h2, h3⟩ := o.tg p hp
  rcases (o.sp i hi).2.2 with ⟨h4, h5⟩ | ⟨_, h5⟩
  · exact h3 i h4 (by rw [← h5]; exact e)
  · rw [e] at h5; exact h2 h5
theorem Ok.new0 (o : Ok K c τ μ m σ G H) {p : Addr} (hp : H p = none) : c.H0 p = none := by
  cases z : c.H0 p with
  | none => rfl
  | some w => exact absurd hp (o.fr.t p (ne_none z))
theorem Ok.newG (o : Ok K c τ μ m σ G H) {p : Addr} (hp : H p = none) : G p = none := by
  cases z : G p with
  | none => rfl
  | some w => have := o.ex _ _ z; rw [hp] at this; cases this
theorem Ok.nem (o : Ok K c τ μ m σ G H) {p : Addr} (hp : H p = none) {i : Nat} (hi : i < μ.length) : m i ≠ p := fun e => (o.sp i hi).2.1 (by rw [e]; exact hp)
/-- a new object, in both parts -/
theorem Ok.both (o : Ok K c τ μ m σ G H) {p : Addr} {u : HO} (hp : H p = none) : Ok K c τ μ m σ (upd G p u) (upd H p u) where
  ex := same_both o.ex
  tu := o.tu.both
  fr := ⟨fun a w z => by
      rw [upd_ne (ne_of_none (o.ex _ _ (o.fr.g a w z)) hp)]
      exact o.fr.g a w z, fun a w z nx => by
      have := o.fr.h a w z nx
      rw [upd_ne (ne_of_none this hp)]
      exact this, fun a z w => by
      rw [upd_ne (fun e => w (by rw [e]; exact o.new0 hp))]
      exact o.fr.n a z w, fun a w => by
      rw [upd_ne (fun e => w (by rw [e]; exact o.new0 hp))]
      exact o.fr.t a w⟩
  len := o.len
  sl := fun i x h => by
    obtain ⟨v, h1, h2⟩ := o.sl i x h
    exact ⟨v, h1, h2.mono (same_own (Same.refl G) (o.newG hp)) Ag.refl (Nat.le_refl _)⟩
  ce := fun i cl h => (o.ce i cl h).mono (same_own (Same.refl G) (o.newG hp)) (fun _ _ => rfl) (upd_ne (o.nem hp (List.getElem?_eq_some_iff.mp h).1))
  sp := fun i hi => by
    have e := o.nem hp hi
    rw [upd_ne e, upd_ne e]
    exact o.sp i hi
  inj := o.inj
  low := o.low
  tb := o.tb.ext fun b w z => by rw [upd_ne (ne_of_none z hp)]; exact z
  tg := fun q hq => by
    obtain ⟨h1, h2, h3⟩ := o.tg q hq
    refine ⟨?_, h2, h3⟩
    rw [upd_ne (fun e => h2 (by rw [e]; exact o.new0 hp))]
    exact h1
/-- a new object that is neither data nor a cell -/
theorem Ok.side (o : Ok K c τ μ m σ G H) {p : Addr} {u : HO} (hp : H p = none) (hu : ¬ isTp u) : Ok K c τ μ m σ G (upd H p u) where
  ex := same_own o.ex (o.newG hp)
  tu := o.tu.new hu
  fr := ⟨o.fr.g, fun a w z nx => by
      have := o.fr.h a w z nx
      rw [upd_ne (ne_of_none this hp)]
      exact this, o.fr.n, fun a w => by
      rw [upd_ne (fun e => w (by rw [e]; exact o.new0 hp))]
      exact o.fr.t a w⟩
  len := o.len
  sl := o.sl
  ce := fun i cl h => (o.ce i cl h).mono (Same.refl _) (fun _ _ => rfl) (upd_ne (o.nem hp (List.getElem?_eq_some_iff.mp h).1))
  sp := fun i hi => by
    rw [upd_ne (o.nem hp hi)]
    exact o.sp i hi
  inj := o.inj
  low := o.low
  tb := o.tb.ext fun b w z => by rw [upd_ne (ne_of_none z hp)]; exact z
  tg := o.tg
/-- no code object -/
def NoC (w : HO) : Prop := ∀ (φ : Heap → Prop), w ≠ .ext φ
theorem noc_lst {vs : List V} : NoC (.lst vs) := fun _ z => nomatch z
/-- such an object is written -/
theorem Ok.put (o : Ok K c τ μ m σ G H) {p : Addr} {u w0 : HO} (h0 : H p = some w0) (hn : NoC w0) (h1 : G p = none) (h2 : ∀ i, i < μ.length → m i ≠ p) (h3 : c.H0 p = none) (hu : ¬ isTp u) : Ok K c τ μ m σ G (upd H p u) where
  ex := same_own o.ex h1
  tu := o.tu.new hu
  fr := ⟨o.fr.g, fun a w z nx => by
      have := o.fr.h a w z nx
      rw [upd_ne (fun e => by rw [e, h3] at z; cases z)]
      exact this, o.fr.n, fun a w => by
      rw [upd_ne (fun e => w (by rw [e]; exact h3))]
      exact o.fr.t a w⟩
  len := o.len
  sl := o.sl
  ce := fun i cl h => (o.ce i cl h).mono (Same.refl _) (fun _ _ => rfl) (upd_ne (h2 i (List.getElem?_eq_some_iff.mp h).1))
  sp := fun i hi => by
    rw [upd_ne (h2 i hi)]
    exact o.sp i hi
  inj := o.inj
  low := o.low
  tb := fun q hq => by
    obtain ⟨_, h5, _⟩ := o.tg q hq
    obtain ⟨ps, t1, t2, t3⟩ := o.tb q hq
    refine ⟨ps, by rw [upd_ne (fun e => h5 (by rw [e]; exact h3))]; exact t1, t2, fun pos cv hc => ?_⟩
    obtain ⟨cc, e1, e2⟩ := t3 pos cv hc
    by_cases z : cc = p
    · exact absurd (by rw [z, h0] at e2; exact Option.some.inj e2) (hn _)
    · exact ⟨cc, e1, by rw [upd_ne z]; exact e2⟩
  tg := o.tg
theorem RC.at {i : Nat} {cl : Cl} (r : RC K G H m i cl) : ∃ w, H (m i) = some w ∧ NoC w ∧ ¬ isTp w := by
  cases cl with
  | ld ds => obtain ⟨vs, h1, h2⟩ := r; exact ⟨_, h1, (fun _ z => nomatch z), (fun z => z)⟩
  | lv xs => obtain ⟨vs, h1, h2⟩ := r; exact ⟨_, h1, (fun _ z => nomatch z), (fun z => z)⟩
  | ins c ns xs => obtain ⟨dx, vs, h1, h3, h2⟩ := r; exact ⟨_, h1, (fun _ z => nomatch z), (fun z => z)⟩
  | dic ks es => obtain ⟨ws, h1, h3, h2⟩ := r; exact ⟨_, h1, (fun _ z => nomatch z), (fun z => z)⟩
  | dit ks es => obtain ⟨ws, h1, h3, h2⟩ := r; exact ⟨_, h1, (fun _ z => nomatch z), (fun z => z)⟩
def upN (m : Nat → Addr) (n : Nat) (p : Addr) : Nat → Addr := fun i => if i = n then p else m i
theorem upN_same {n : Nat} {p : Addr} : upN m n p n = p := if_pos rfl
theorem upN_ne {n i : Nat} {p : Addr} (h : i ≠ n) : upN m n p i = m i := if_neg h
theorem upN_ag {n : Nat} {p : Addr} : Ag n m (upN m n p) := fun i hi => upN_ne (by omega)
/-- a new cell -/
theorem Ok.alloc (o : Ok K c τ μ m σ G H) {p : Addr} {u : HO} {cl : Cl} (hp : H p = none) (hu : ¬ isTp u) (r : RC K G (upd H p u) (upN m μ.length p) μ.length cl) : Ok K c τ (μ ++ [cl]) (upN m μ.length p) σ G (upd H p u) := by
  have s := o.side hp hu
  have hl : (μ ++ [cl]).length = μ.length + 1 := by rw [List.length_append]; rfl
  exact {
    ex := s.ex
    tu := s.tu
    fr := s.fr
    len := s.len
    sl := fun i x h => by
      obtain ⟨v, h1, h2⟩ := s.sl i x h
      exact ⟨v, h1, h2.mono (Same.refl _) upN_ag (by omega)⟩
    ce := fun i cl' h => by
      by_cases hi : i < μ.length
      · rw [List.getElem?_append_left hi] at h
        exact (s.ce i cl' h).mono (Same.refl _) (fun j hj => upN_ne (by omega)) rfl
      · rw [List.getElem?_append_right (by omega)] at h
        have e : i = μ.length := by
          have := (List.getElem?_eq_some_iff.mp h).1
          simp at this
          omega
        subst e
        rw [Nat.sub_self] at h
        cases h
        exact r
    sp := fun i hi => by
      by_cases e : i = μ.length
      · subst e
        rw [upN_same, upd_same]
        exact ⟨o.newG hp, (fun z => nomatch z), .inr ⟨o.low, o.new0 hp⟩⟩
      · rw [upN_ne e]
        exact s.sp i (by omega)
    inj := fun i j hi hj e => by
      by_cases ei : i = μ.length
      · by_cases ej : j = μ.length
        · rw [ei, ej]
        · rw [ei, upN_same, upN_ne ej] at e
          exact absurd e.symm (o.nem hp (by omega))
      · by_cases ej : j = μ.length
        · rw [ej, upN_same, upN_ne ei] at e
          exact absurd e (o.nem hp (by omega))
        · rw [upN_ne ei, upN_ne ej] at e
          exact o.inj i j (by omega) (by omega) e
    low := by have := o.low; omega
    tb := s.tb
    tg := s.tg }
/-- a cell is written -/
theorem Ok.setC (o : Ok K c τ μ m σ G H) {i : Nat} {u : HO} {cl cl0 : Cl} (hi : μ[i]? = some cl0) (hu : ¬ isTp u) (r : RC K G (upd H (m i) u) m i cl) : Ok K c τ (μ.set i cl) m σ G (upd H (m i) u) := by
  have il := (List.getElem?_eq_some_iff.mp hi).1
  obtain ⟨w, h1, h2, h3⟩ := (o.ce i cl0 hi).at
  obtain ⟨g1, g2, g3⟩ := o.sp i il
  exact {
    ex := same_own o.ex g1
    tu := o.tu.new hu
    fr := ⟨o.fr.g, fun a w z nx => by
      by_cases e : a = m i
      · subst e
        rcases g3 with ⟨g4, g5⟩ | ⟨_, g5⟩
        · exact absurd (.inl ⟨i, g4, g5⟩) nx
        · rw [g5] at z; cases z
      · rw [upd_ne e]
        exact o.fr.h a w z nx, o.fr.n, fun a w => by
      by_cases e : a = m i
      · rw [e, upd_same]; exact fun z => nomatch z
      · rw [upd_ne e]; exact o.fr.t a w⟩
    len := o.len
    sl := fun j x h => by rw [List.length_set]; exact o.sl j x h
    ce := fun j cl' h => by
      by_cases e : j = i
      · subst e
        rw [List.getElem?_set_self il] at h
        cases h
        exact r
      · rw [List.getElem?_set_ne (fun z => e z.symm)] at h
        exact (o.ce j cl' h).mono (Same.refl _) (fun _ _ => rfl) (upd_ne fun z => e (o.inj j i (List.getElem?_eq_some_iff.mp h).1 il z))
    sp := fun j hj => by
      rw [List.length_set] at hj
      obtain ⟨k1, k2, k3⟩ := o.sp j hj
      refine ⟨k1, ?_, k3⟩
      by_cases e : m j = m i
      · rw [e, upd_same]; exact fun z => nomatch z
      · rw [upd_ne e]; exact k2
    inj := fun j k hj hk => by rw [List.length_set] at hj hk; exact o.inj j k hj hk
    low := by rw [List.length_set]; exact o.low
    tb := fun q hq => by
      have hne := o.ne_tab hq il
      obtain ⟨ps, t1, t2, t3⟩ := o.tb q hq
      refine ⟨ps, by rw [upd_ne (fun e => hne e.symm)]; exact t1, t2, fun pos cv hc => ?_⟩
      obtain ⟨cc, e1, e2⟩ := t3 pos cv hc
      by_cases z : cc = m i
      · exact absurd (by rw [z, h1] at e2; exact Option.some.inj e2) (h2 _)
      · exact ⟨cc, e1, by rw [upd_ne z]; exact e2⟩
    tg := o.tg }
theorem Ok.slot (o : Ok K c τ μ m σ G H) {i : Nat} {x : Vx} {v : V} (hi : i < τ.length) (r : RV K G m μ.length x v) : Ok K c (τ.set i (some x)) μ m (σ.set i (some v)) G H :=
  { o with
    len := by rw [List.length_set, List.length_set]; exact o.len
    sl := fun j y h => by
      by_cases e : i = j
      · subst e
        rw [List.getElem?_set_self hi] at h
        cases h
        exact ⟨v, List.getElem?_set_self (by rw [o.len]; exact hi), r⟩
      · rw [List.getElem?_set_ne e] at h ⊢
        exact o.sl j y h }
theorem Ok.slotN (o : Ok K c τ μ m σ G H) {i : Nat} : Ok K c (τ.set i none) μ m (σ.set i none) G H :=
  { o with
    len := by rw [List.length_set, List.length_set]; exact o.len
    sl := fun j y h => by
      by_cases e : i = j
      · subst e
        by_cases hi : i < τ.length
        · rw [List.getElem?_set_self hi] at h; cases h
        · rw [List.getElem?_eq_none (by rw [List.length_set]; omega)] at h; cases h
      · rw [List.getElem?_set_ne e] at h ⊢
        exact o.sl j y h }
theorem Ok.wipe (o : Ok K c τ μ m σ G H) : ∀ (vs : List Nat), Ok K c (wipeP τ vs) μ m (L2.wipe σ vs) G H
  | [] => o
  | v :: vs => (o.wipe vs).slotN
/-- the slots of one, the heap of the other -/
theorem Ok.retau {σ2 : L2.St} (o : Ok K c τ μ m σ G H) (o' : Ok K c τ' μ' m' σ2 G' H') (e : Same G G') (a : Ag μ.length m m') (h : μ.length ≤ μ'.length) : Ok K c τ μ' m' σ G' H' :=
  { o' with
    len := o.len
    sl := fun i x z => by
      obtain ⟨v, h1, h2⟩ := o.sl i x z
      exact ⟨v, h1, h2.mono e a h⟩ }
/-! ### reading through the store; local cells frozen -/
theorem fzL_rep {J : Hp} {f : Vx → Option D} (hf : ∀ (x : Vx) (v : V) (d : D) (l : Nat), f x = some d → RV K G m l x v → Z.Rep J (dd K d) v) : ∀ (xs : List Vx) (vs : List V) (ds : List D) (l : Nat), fzL f xs = some ds → RVL K G m l xs vs → Z.RepL J (ddL K ds) vs
  | [], vs, ds, l, h, r => by cases h; exact r
  | x :: xs, vs, ds, l, h, r => by
    obtain ⟨v, q, rfl, h2, h3⟩ := r
    unfold fzL at h
    split at h
    · cases h
    · rename_i d hd
      split at h <;> cases h
      rename_i ds' hd'
      exact ⟨v, q, rfl, hf x v d _ hd h2, fzL_rep hf xs q ds' _ hd' h3⟩
theorem fz_rep {J : Hp} {n : Nat} (o : ∀ i cl, μ[i]? = some cl → RC K G H m i cl) (e : Same G J) (hc : ∀ i cl, n ≤ i → μ[i]? = some cl → J (m i) = H (m i)) : ∀ (k : Nat) (x : Vx) (v : V) (d : D) (l : Nat), fz μ n k x = some d → RV K G m l x v → Z.Rep J (dd K d) v
  | 0, .dat d, v, d', l, h, r => by cases h; exact Z.Rep.mono e _ _ r
  | k + 1, .dat d, v, d', l, h, r => by cases h; exact Z.Rep.mono e _ _ r
  | 0, .ref i, v, d, l, h, r => by cases h
  | 0, .tup xs, v, d, l, h, r => by cases h
  | k + 1, .ref i, v, d, l, h, r => by
    obtain ⟨r1, rfl⟩ := r
    unfold fz at h
    split at h
    · rename_i hn
      split at h
      · cases h
        rename_i ds hi
        obtain ⟨vs, h1, h2⟩ := o i _ hi
        exact ⟨_, vs, rfl, by rw [hc i _ hn hi]; exact h1, h2.mono e _ _⟩
      · rename_i xs hi
        split at h <;> cases h
        rename_i ds hd
        obtain ⟨vs, h1, h2⟩ := o i _ hi
        exact ⟨_, vs, rfl, by rw [hc i _ hn hi]; exact h1, fzL_rep (fz_rep o e hc k) xs vs ds _ hd h2⟩
      · cases h
        rename_i ks es hi
        obtain ⟨ws, h1, h3, h2⟩ := o i _ hi
        exact ⟨_, ws, rfl, by rw [hc i _ hn hi]; exact h1, h3, h2.mono e _ _⟩
      · cases h
        rename_i ks es hi
        obtain ⟨ws, h1, h3, h2⟩ := o i _ hi
        exact ⟨_, ws, rfl, by rw [hc i _ hn hi]; exact h1, h3, h2.mono e _ _⟩
      · cases h
    · cases h
  | k + 1, .tup xs, v, d, l, h, r => by
    obtain ⟨a, vs, rfl, h1, h2⟩ := r
    unfold fz at h
    split at h <;> cases h
    rename_i ds hd
    exact ⟨a, vs, rfl, rd_mono e h1, fzL_rep (fz_rep o e hc k) xs vs ds _ hd h2⟩
theorem Ok.see (o : Ok K c τ μ m σ G H) {x : Vx} {v : V} {d : D} (h : sees μ x = some d) (r : RV K G m μ.length x v) : Z.Rep H (dd K d) v :=
  fz_rep (J := H) (n := 0) o.ce o.ex (fun _ _ _ _ => rfl) 5 x v d _ h r
theorem Ok.seeA (o : Ok K c τ μ m σ G H) : ∀ {xs : List Vx} {vs : List V} {ds : List D}, allSee μ xs = some ds → RVL K G m μ.length xs vs → Z.RepL H (ddL K ds) vs
  | [], vs, ds, h, r => by cases h; exact r
  | x :: xs, vs, ds, h, r => by
    obtain ⟨v, q, rfl, h2, h3⟩ := r
    unfold allSee at h
    split at h
    · cases h
    · split at h <;> cases h
      exact ⟨v, q, rfl, o.see (by assumption) h2, o.seeA (by assumption) h3⟩
theorem allDat_rep : ∀ {xs : List Vx} {vs : List V} {ds : List D} {n : Nat}, allDat xs = some ds → RVL K G m n xs vs → Z.RepL G (ddL K ds) vs
  | [], vs, ds, n, h, r => by cases h; exact r
  | x :: xs, vs, ds, n, h, r => by
    obtain ⟨v, q, rfl, h2, h3⟩ := r
    cases x with
    | dat d =>
      unfold allDat at h
      split at h <;> cases h
      exact ⟨v, q, rfl, h2, allDat_rep (by assumption) h3⟩
    | ref i => cases h
    | tup xs => cases h
open Classical in
noncomputable def frzG (μ : Mu) (m : Nat → Addr) (n : Nat) (G H : Hp) : Hp := fun a => if ∃ i cl, n ≤ i ∧ μ[i]? = some cl ∧ a = m i then H a else G a
theorem frz_at {i n : Nat} {cl : Cl} (h : n ≤ i) (k : μ[i]? = some cl) : frzG μ m n G H (m i) = H (m i) := if_pos ⟨i, cl, h, k, rfl⟩
theorem Ok.frz_sub (o : Ok K c τ μ m σ G H) {n : Nat} : Same G (frzG μ m n G H) := fun a u z => by
  unfold frzG
  split
  · exact o.ex a u z
  · exact z
theorem Ok.frz_ex (o : Ok K c τ μ m σ G H) {n : Nat} : Same (frzG μ m n G H) H := fun a u z => by
  unfold frzG at z
  split at z
  · exact z
  · exact o.ex a u z
theorem Ok.frz_none (o : Ok K c τ μ m σ G H) {n : Nat} {a : Addr} (h : G a = none) (k : ∀ i, n ≤ i → i < μ.length → m i ≠ a) : frzG μ m n G H a = none := by
  unfold frzG
  split
  · rename_i z
    obtain ⟨i, cl, h1, h2, h3⟩ := z
    exact absurd h3.symm (k i h1 (List.getElem?_eq_some_iff.mp h2).1)
  · exact h
theorem Ok.cut {σ0 : L2.St} {τ0 : Ls} (o : Ok K c τ μ m σ G H) {n : Nat} (hn : c.n0 ≤ n) (hn2 : n ≤ μ.length) (hl : σ0.length = τ0.length) (hs : ∀ (i : Nat) (x : Vx), τ0[i]? = some (some x) → ∃ v, σ0[i]? = some (some v) ∧ RV K G m n x v) :
    Ok K c τ0 (μ.take n) m σ0 (frzG μ m n G H) H where
  ex := o.frz_ex
  tu := fun a u t z => o.frz_sub a u (o.tu a u t z)
  fr := ⟨o.fr.g.trans o.frz_sub, o.fr.h, fun a z w => o.frz_none (o.fr.n a z w) fun i h1 h2 e => by
    rcases (o.sp i h2).2.2 with ⟨h4, _⟩ | ⟨_, h5⟩
    · omega
    · rw [e] at h5; exact w h5, o.fr.t⟩
  len := hl
  sl := fun i x h => by
    obtain ⟨v, h1, h2⟩ := hs i x h
    exact ⟨v, h1, h2.mono o.frz_sub Ag.refl (by rw [List.length_take]; omega)⟩
  ce := fun i cl h => by
    have hi : i < n := by
      have := (List.getElem?_eq_some_iff.mp h).1
      rw [List.length_take] at this
      omega
    rw [List.getElem?_take_of_lt hi] at h
    exact (o.ce i cl h).mono o.frz_sub (fun _ _ => rfl) rfl
  sp := fun i hi => by
    rw [List.length_take] at hi
    obtain ⟨h1, h2, h3⟩ := o.sp i (by omega)
    exact ⟨o.frz_none h1 fun j j1 j2 e => by have := o.inj j i j2 (by omega) e; omega, h2, h3⟩
  inj := fun i j hi hj => by
    rw [List.length_take] at hi hj
    exact o.inj i j (by omega) (by omega)
  low := by rw [List.length_take]; omega
  tb := o.tb
  tg := fun q hq => by
    obtain ⟨h1, h2, h3⟩ := o.tg q hq
    exact ⟨o.frz_none h1 fun i _ h4 => o.ne_tab hq h4, h2, h3⟩
end
end Y
set_option Elab.async false
set_option linter.all false
set_option maxRecDepth 100000
/-! A3: operators and built-ins on data. -/
namespace Y
open PySem PySem.Spec PyProof.Rows L2 Z
section
variable {K : PySem.W.Frag}
theorem ddL_map {xs : List D} : ddL K xs = xs.map (dd K) := by
  induction xs with
  | nil => rfl
  | cons x xs ih => rw [ddL, ih, List.map_cons]
theorem ddL_length {xs : List D} : (ddL K xs).length = xs.length := by rw [ddL_map, List.length_map]
theorem ddL_get {xs : List D} {i : Nat} {d : D} (h : xs[i]? = some d) : (ddL K xs)[i]? = some (dd K d) := by rw [ddL_map, List.getElem?_map, h]; rfl
theorem ddL_append {xs ys : List D} : ddL K (xs ++ ys) = ddL K xs ++ ddL K ys := by rw [ddL_map, ddL_map, ddL_map, List.map_append]
theorem ddL_set {xs : List D} {i : Nat} {d : D} : ddL K (xs.set i d) = (ddL K xs).set i (dd K d) := by rw [ddL_map, ddL_map, List.map_set]
theorem ddL_erase {xs : List D} {i : Nat} : ddL K (xs.eraseIdx i) = (ddL K xs).eraseIdx i := by
  rw [ddL_map, ddL_map]
  induction xs generalizing i with
  | nil => rfl
  | cons x xs ih => cases i with
    | zero => rfl
    | succ i => rw [List.eraseIdx_cons_succ, List.map_cons, ih, List.map_cons, List.eraseIdx_cons_succ]
theorem ddL_dropLast {xs : List D} : ddL K xs.dropLast = (ddL K xs).dropLast := by rw [ddL_map, ddL_map, List.map_dropLast]
theorem ddL_ints {ns : List Int} : ddL K (ns.map .int) = ns.map DD.int := by
  rw [ddL_map, List.map_map]
  rfl
mutual
theorem nice_dd : ∀ (n : Nat) (d : D), niceD n d = true → Nice n (dd K d)
  | n, .non, h => nice_non
  | n, .bl _, h => nice_bl
  | n, .int _, h => nice_int
  | n, .str s, h => by
    have h : s.cps.all (· < 0x110000) = true := by cases n <;> exact h
    cases n <;> (unfold dd Nice; exact h)
  | 0, .tup _, h => by cases h
  | 0, .tpl _, h => by cases h
  | 0, .lst _, h => by cases h
  | n + 1, .tup xs, h => by
    unfold dd Nice
    exact nice_ddL n xs h
  | n + 1, .tpl xs, h => by
    unfold dd Nice
    exact nice_ddL n xs h
  | n + 1, .lst xs, h => by
    unfold dd Nice
    exact nice_ddL n xs h
  | n, .ty _, h => by cases n <;> cases h
  | n, .obj _ _ _, h => by cases n <;> cases h
  | n, .dic _ _, h => by cases n <;> cases h
  | n, .dit _ _, h => by cases n <;> cases h
  | n, .scr _, h => by cases n <;> cases h
theorem nice_ddL : ∀ (n : Nat) (ds : List D), niceDL n ds = true → NiceL n (ddL K ds)
  | n, [], h => by unfold ddL NiceL; exact True.intro
  | n, x :: xs, h => by
    unfold niceDL at h
    rw [Bool.and_eq_true] at h
    unfold ddL NiceL
    exact ⟨nice_dd n x h.1, nice_ddL n xs h.2⟩
end
mutual
theorem eqv_dd : ∀ (n m : Nat) (d e : D), niceD n d = true → niceD m e = true → PyData.eqv (py (dd K d)) (py (dd K e)) = eqD d e
  | n, m, .tup xs, .tup ys, h, k => by
    cases n with
    | zero => cases h
    | succ n => cases m with
      | zero => cases k
      | succ m =>
        unfold dd py PyData.eqv eqD
        exact eqv_ddL n m xs ys h k
  | n, m, .tup xs, .tpl ys, h, k => by
    cases n with
    | zero => cases h
    | succ n => cases m with
      | zero => cases k
      | succ m =>
        unfold dd py PyData.eqv eqD
        exact eqv_ddL n m xs ys h k
  | n, m, .tpl xs, .tup ys, h, k => by
    cases n with
    | zero => cases h
    | succ n => cases m with
      | zero => cases k
      | succ m =>
        unfold dd py PyData.eqv eqD
        exact eqv_ddL n m xs ys h k
  | n, m, .tpl xs, .tpl ys, h, k => by
    cases n with
    | zero => cases h
    | succ n => cases m with
      | zero => cases k
      | succ m =>
        unfold dd py PyData.eqv eqD
        exact eqv_ddL n m xs ys h k
  | n, m, .lst xs, .lst ys, h, k => by
    cases n with
    | zero => cases h
    | succ n => cases m with
      | zero => cases k
      | succ m =>
        unfold dd py PyData.eqv eqD
        exact eqv_ddL n m xs ys h k
  | n, m, .ty _, e, h, k => by cases n <;> cases h
  | n, m, .obj _ _ _, e, h, k => by cases n <;> cases h
  | n, m, .dic _ _, e, h, k => by cases n <;> cases h
  | n, m, .dit _ _, e, h, k => by cases n <;> cases h
  | n, m, .scr _, e, h, k => by cases n <;> cases h
  | n, m, d, .ty _, h, k => by cases m <;> cases k
  | n, m, d, .obj _ _ _, h, k => by cases m <;> cases k
  | n, m, d, .dic _ _, h, k => by cases m <;> cases k
  | n, m, d, .dit _ _, h, k => by cases m <;> cases k
  | n, m, d, .scr _, h, k => by cases m <;> cases k
  | n, m, .non, .non, h, k => by simp [dd, py, PyData.eqv, eqD]
  | n, m, .non, .bl _, h, k => by simp [dd, py, PyData.eqv, eqD]
  | n, m, .non, .int _, h, k => by simp [dd, py, PyData.eqv, eqD]
  | n, m, .non, .str _, h, k => by simp [dd, py, PyData.eqv, eqD]
  | n, m, .non, .tup _, h, k => by simp [dd, py, PyData.eqv, eqD]
  | n, m, .non, .tpl _, h, k => by simp [dd, py, PyData.eqv, eqD]
  | n, m, .non, .lst _, h, k => by simp [dd, py, PyData.eqv, eqD]
  | n, m, .bl _, .non, h, k => by simp [dd, py, PyData.eqv, eqD]
  | n, m, .bl _, .bl _, h, k => by simp [dd, py, PyData.eqv, eqD]
  | n, m, .bl _, .int _, h, k => by simp [dd, py, PyData.eqv, eqD]
  | n, m, .bl _, .str _, h, k => by simp [dd, py, PyData.eqv, eqD]
  | n, m, .bl _, .tup _, h, k => by simp [dd, py, PyData.eqv, eqD]
  | n, m, .bl _, .tpl _, h, k => by simp [dd, py, PyData.eqv, eqD]
  | n, m, .bl _, .lst _, h, k => by simp [dd, py, PyData.eqv, eqD]
  | n, m, .int _, .non, h, k => by simp [dd, py, PyData.eqv, eqD]
  | n, m, .int _, .bl _, h, k => by simp [dd, py, PyData.eqv, eqD]
  | n, m, .int _, .int _, h, k => by simp [dd, py, PyData.eqv, eqD]
  | n, m, .int _, .str _, h, k => by simp [dd, py, PyData.eqv, eqD]
  | n, m, .int _, .tup _, h, k => by simp [dd, py, PyData.eqv, eqD]
  | n, m, .int _, .tpl _, h, k => by simp [dd, py, PyData.eqv, eqD]
  | n, m, .int _, .lst _, h, k => by simp [dd, py, PyData.eqv, eqD]
  | n, m, .str _, .non, h, k => by simp [dd, py, PyData.eqv, eqD]
  | n, m, .str _, .bl _, h, k => by simp [dd, py, PyData.eqv, eqD]
  | n, m, .str _, .int _, h, k => by simp [dd, py, PyData.eqv, eqD]
  | n, m, .str _, .str _, h, k => by simp [dd, py, PyData.eqv, eqD]
  | n, m, .str _, .tup _, h, k => by simp [dd, py, PyData.eqv, eqD]
  | n, m, .str _, .tpl _, h, k => by simp [dd, py, PyData.eqv, eqD]
  | n, m, .str _, .lst _, h, k => by simp [dd, py, PyData.eqv, eqD]
  | n, m, .tup _, .non, h, k => by simp [dd, py, PyData.eqv, eqD]
  | n, m, .tup _, .bl _, h, k => by simp [dd, py, PyData.eqv, eqD]
  | n, m, .tup _, .int _, h, k => by simp [dd, py, PyData.eqv, eqD]
  | n, m, .tup _, .str _, h, k => by simp [dd, py, PyData.eqv, eqD]
  | n, m, .tup _, .lst _, h, k => by simp [dd, py, PyData.eqv, eqD]
  | n, m, .tpl _, .non, h, k => by simp [dd, py, PyData.eqv, eqD]
  | n, m, .tpl _, .bl _, h, k => by simp [dd, py, PyData.eqv, eqD]
  | n, m, .tpl _, .int _, h, k => by simp [dd, py, PyData.eqv, eqD]
  | n, m, .tpl _, .str _, h, k => by simp [dd, py, PyData.eqv, eqD]
  | n, m, .tpl _, .lst _, h, k => by simp [dd, py, PyData.eqv, eqD]
  | n, m, .lst _, .non, h, k => by simp [dd, py, PyData.eqv, eqD]
  | n, m, .lst _, .bl _, h, k => by simp [dd, py, PyData.eqv, eqD]
  | n, m, .lst _, .int _, h, k => by simp [dd, py, PyData.eqv, eqD]
  | n, m, .lst _, .str _, h, k => by simp [dd, py, PyData.eqv, eqD]
  | n, m, .lst _, .tup _, h, k => by simp [dd, py, PyData.eqv, eqD]
  | n, m, .lst _, .tpl _, h, k => by simp [dd, py, PyData.eqv, eqD]
theorem eqv_ddL : ∀ (n m : Nat) (d e : List D), niceDL n d = true → niceDL m e = true → PyData.eqvAll (pyL (ddL K d)) (pyL (ddL K e)) = eqDL d e
  | n, m, [], [], h, k => by simp [ddL, pyL, PyData.eqvAll, eqDL]
  | n, m, [], _ :: _, h, k => by simp [ddL, pyL, PyData.eqvAll, eqDL]
  | n, m, _ :: _, [], h, k => by simp [ddL, pyL, PyData.eqvAll, eqDL]
  | n, m, x :: xs, y :: ys, h, k => by
    unfold niceDL at h k
    rw [Bool.and_eq_true] at h k
    unfold ddL pyL PyData.eqvAll eqDL
    rw [eqv_dd n m x y h.1 k.1, eqv_ddL n m xs ys h.2 k.2]
end
theorem deqv_dd {d e : D} (h : nice60 d = true) (k : nice60 e = true) : deqv (dd K d) (dd K e) = eqD d e := eqv_dd 60 60 d e h k
theorem ff {k : Bool} (h : ¬ k = true) : k = false := by simpa using h
/-- an operator that does on data what g does -/
def OpS (K : PySem.W.Frag) (R : R2) (g : D → D → Option D) : Prop := ∀ d e f, g d e = some f → Op2 R (dd K d) (dd K e) (dd K f)
theorem os_add : OpS K rAddI gAdd := fun d e f h => by
  unfold gAdd at h
  split at h <;> cases h
  exact o2_add
theorem os_sub : OpS K rSubI gSubI := fun d e f h => by
  unfold gSubI at h
  split at h <;> cases h
  exact o2_sub
theorem os_mul : OpS K rMulI gMul := fun d e f h => by
  unfold gMul at h
  split at h
  · split at h <;> cases h
    rename_i hh
    exact o2_mul hh.symm
  · cases h
theorem os_mod : OpS K rModI gMod := fun d e f h => by
  unfold gMod at h
  split at h
  · split at h <;> cases h
    exact o2_mod (by assumption)
  · cases h
theorem log_small {j : Int} {n : Nat} (h0 : 0 < j) (h : j < 2 ^ n) : j.natAbs.log2 < n := by
  have h1 : j.natAbs < 2 ^ n := by
    have : ((j.natAbs : Nat) : Int) < ((2 ^ n : Nat) : Int) := by
      rw [Int.natAbs_of_nonneg (by omega)]
      simpa using h
    exact Int.ofNat_lt.mp this
  exact (Nat.log2_lt (by omega)).mpr h1
theorem os_div : OpS K rDivI gDiv := fun d e f h => by
  unfold gDiv at h
  split at h
  · split at h <;> cases h
    rename_i hh
    exact o2_fdiv ⟨hh.1, Nat.lt_of_lt_of_le (log_small hh.1 hh.2) (by decide)⟩
  · cases h
theorem os_pow : OpS K rPowI gPow := fun d e f h => by
  unfold gPow at h
  split at h
  · split at h <;> cases h
    exact o2_pow (by assumption)
  · cases h
theorem os_lt : OpS K rLtI gLt := fun d e f h => by
  unfold gLt at h
  split at h <;> cases h
  exact o2_lt
theorem os_le : OpS K rLeI gLe := fun d e f h => by
  unfold gLe at h
  split at h <;> cases h
  exact o2_le
theorem os_gt : OpS K rGtI gGt := fun d e f h => by
  unfold gGt at h
  split at h <;> cases h
  exact o2_gt
theorem os_ge : OpS K rGeI gGe := fun d e f h => by
  unfold gGe at h
  split at h <;> cases h
  exact o2_ge
theorem os_eq : OpS K (rEqD K) gEq := fun d e f h => by
  unfold gEq at h
  split at h
  · cases h
    rename_i i j
    have z := o2_eq (K := K) (d := .int i) (e := .int j) nice_int nice_int (Nat.zero_le 64) (Nat.zero_le 64)
    rw [deqv_int] at z
    exact z
  · split at h
    · cases h
      rename_i hh
      rw [Bool.and_eq_true] at hh
      show Op2 _ _ _ (.bl _)
      rw [← deqv_dd (K := K) hh.1 hh.2]
      exact o2_eq (nice_dd 60 _ hh.1) (nice_dd 60 _ hh.2) (by decide) (by decide)
    · cases h
theorem os_ne : OpS K (rNeD K) gNe := fun d e f h => by
  unfold gNe at h
  split at h
  · cases h
    rename_i i j
    have z := o2_ne (K := K) (d := .int i) (e := .int j) nice_int nice_int (Nat.zero_le 64) (Nat.zero_le 64)
    rw [deqv_int] at z
    exact z
  · split at h
    · cases h
      rename_i hh
      rw [Bool.and_eq_true] at hh
      show Op2 _ _ _ (.bl _)
      rw [← deqv_dd (K := K) hh.1 hh.2]
      exact o2_ne (nice_dd 60 _ hh.1) (nice_dd 60 _ hh.2) (by decide) (by decide)
    · cases h
theorem niceDL_mem {n : Nat} {x : D} : ∀ {xs : List D}, niceDL n xs = true → x ∈ xs → niceD n x = true
  | [], _, h => by simp at h
  | y :: ys, h, hx => by
    unfold niceDL at h
    rw [Bool.and_eq_true] at h
    rcases List.mem_cons.mp hx with rfl | hx
    · exact h.1
    · exact niceDL_mem h.2 hx
theorem any_dd {d : D} {es : List D} (h : nice60 d = true) (k : nice60 (.lst es) = true) : ((ddL K es).any fun z => deqv z (dd K d)) = es.any fun z => eqD z d := by
  rw [ddL_map, List.any_map]
  have hk : niceDL 59 es = true := k
  induction es with
  | nil => rfl
  | cons x xs ih =>
    have hk2 := hk
    unfold niceDL at hk2
    rw [Bool.and_eq_true] at hk2
    rw [List.any_cons, List.any_cons, ih hk2.2 hk2.2]
    exact congrArg (· || _) (eqv_dd 59 60 x d hk2.1 h)
theorem os_in : OpS K (rInD K) gIn := fun d e f h => by
  unfold gIn at h
  split at h
  · split at h
    · cases h
      rename_i hh
      rw [Bool.and_eq_true] at hh
      show Op2 _ _ _ (.bl _)
      rw [← any_dd (K := K) hh.1 hh.2]
      exact o2_inD (nice_dd 60 _ hh.1) (nice_dd 60 _ hh.2) (by decide) (by decide)
    · cases h
  · cases h
theorem os_notIn : OpS K (rNotInD K) gNotIn := fun d e f h => by
  unfold gNotIn at h
  split at h
  · split at h
    · cases h
      rename_i hh
      rw [Bool.and_eq_true] at hh
      show Op2 _ _ _ (.bl _)
      rw [← any_dd (K := K) hh.1 hh.2]
      exact o2_notInD (nice_dd 60 _ hh.1) (nice_dd 60 _ hh.2) (by decide) (by decide)
    · cases h
  · cases h
theorem isNon_dd {d : D} {k : Bool} (h : isNon d = some k) : ∀ G v, Rep G (dd K d) v → decide (v = V.non) = k := fun G v r => by
  cases d with
  | non => cases h; exact decide_eq_true r
  | bl b => cases h; cases (show v = V.bl b from r); rfl
  | int b => cases h; cases (show v = V.int b from r); rfl
  | str b => cases h; cases (show v = V.str b from r); rfl
  | ty b => cases h; cases (show v = V.ty b from r); rfl
  | tup xs => cases h; obtain ⟨a, vs, rfl, _⟩ := r; rfl
  | tpl xs => cases h; obtain ⟨a, vs, o, rfl, _⟩ := r; rfl
  | lst xs => cases h; obtain ⟨a, vs, rfl, _⟩ := r; rfl
  | obj C ns xs => cases h; obtain ⟨a, dx, vs, rfl, _⟩ := r; rfl
  | scr ns => cases h
  | dic _ _ => cases h
  | dit _ _ => cases h
theorem os_is : OpS K rIsN gIs := fun d e f h => by
  unfold gIs at h
  split at h
  · cases z : isNon d with
    | none => rw [z] at h; cases h
    | some k =>
      rw [z] at h
      cases h
      exact o2_isN (isNon_dd z)
  · cases h
theorem os_isNot : OpS K rNotN gIsNot := fun d e f h => by
  unfold gIsNot at h
  split at h
  · cases z : isNon d with
    | none => rw [z] at h; cases h
    | some k =>
      rw [z] at h
      cases h
      exact o2_notN (isNon_dd z)
  · cases h
theorem os_adds : OpS K rAddS gAddS := fun d e f h => by
  unfold gAddS at h
  split at h
  · split at h <;> cases h
    exact o2_adds (by assumption)
  · cases h
def CbS (K : PySem.W.Frag) (R : List V → Hp → VK → Prop) (g : List D → Option D) : Prop := ∀ ds f, g ds = some f → OpA R (ddL K ds) (dd K f)
theorem cs_lenS : CbS K rLenS gLenS := fun ds f h => by
  unfold gLenS at h
  split at h
  · split at h <;> cases h
    exact oa_lenS (by assumption)
  · cases h
theorem bls_dd : ∀ {xs : List D} {bs : List Bool}, bls xs = some bs → ddL K xs = bs.map DD.bl
  | [], bs, h => by cases h; rfl
  | x :: xs, bs, h => by
    cases x with
    | bl k =>
      unfold bls at h
      split at h
      · cases h
        rw [ddL, bls_dd (by assumption)]
        rfl
      · cases h
    | _ => simp [bls] at h
theorem intsD_dd : ∀ {xs : List D} {bs : List Int}, intsD xs = some bs → ddL K xs = bs.map DD.int
  | [], bs, h => by cases h; rfl
  | x :: xs, bs, h => by
    cases x with
    | int k =>
      unfold intsD at h
      split at h
      · cases h
        rw [ddL, intsD_dd (by assumption)]
        rfl
      · cases h
    | _ => simp [intsD] at h
theorem strsD_dd : ∀ {xs : List D} {bs : List Str}, strsD xs = some bs → ddL K xs = bs.map DD.str
  | [], bs, h => by cases h; rfl
  | x :: xs, bs, h => by
    cases x with
    | str k =>
      unfold strsD at h
      split at h
      · cases h
        rw [ddL, strsD_dd (by assumption)]
        rfl
      · cases h
    | _ => simp [strsD] at h
theorem cs_all : CbS K (rAll K) gAll := fun ds f h => by
  unfold gAll at h
  split at h
  · split at h <;> cases h
    rename_i hb
    show OpA _ [.lst (ddL K _)] _
    rw [bls_dd hb]
    exact oa_all
  · cases h
theorem cs_any : CbS K (rAny K) gAny := fun ds f h => by
  unfold gAny at h
  split at h
  · split at h <;> cases h
    rename_i hb
    show OpA _ [.lst (ddL K _)] _
    rw [bls_dd hb]
    exact oa_any
  · cases h
theorem cs_sum : CbS K (rSum K) gSum := fun ds f h => by
  unfold gSum at h
  split at h
  · split at h <;> cases h
    rename_i hb
    show OpA _ [.lst (ddL K _)] _
    rw [intsD_dd hb]
    exact oa_sum
  · cases h
theorem log_ten {i : Int} (h : -(10 ^ 500) < i ∧ i < 10 ^ 500) : i.natAbs.log2 < 1920 := by
  by_cases h0 : i.natAbs = 0
  · rw [h0]
    decide
  · refine (Nat.log2_lt h0).mpr ?_
    have h2 : i.natAbs < 10 ^ 500 := by omega
    exact Nat.lt_of_lt_of_le h2 (by decide +kernel)
theorem cs_strI : CbS K rStrI gStrI := fun ds f h => by
  unfold gStrI at h
  split at h
  · split at h <;> cases h
    rename_i hh
    exact oa_str (log_ten hh)
  · cases h
theorem cs_intB : CbS K rIntB gIntB := fun ds f h => by
  unfold gIntB at h
  split at h <;> cases h
  · intro G H vs e t hr Q q
    obtain ⟨v, r, rfl, h1, h2⟩ := hr
    cases (show r = [] from h2)
    exact .inl ⟨_, congrArg (fun z => [z]) h1, q _ G H Fr.refl e t rfl⟩
  · exact oa_intB
theorem cs_min2 : CbS K rMin2 gMin2 := fun ds f h => by
  unfold gMin2 at h
  split at h <;> cases h
  exact oa_min2
theorem cs_max2 : CbS K rMax2 gMax2 := fun ds f h => by
  unfold gMax2 at h
  split at h <;> cases h
  exact oa_max2
end
end Y
set_option Elab.async false
set_option linter.all false
set_option maxRecDepth 100000
/-! A4: expressions: the pure meaning is kept. -/
namespace Y
open PySem PySem.Spec PyProof.Rows L2 Z
def AccP {α : Type} (EX : Exc → Mu → Prop) (P : α → Mu → Prop) : Res α → Prop
  | .v a μ => P a μ
  | .ex e μ => EX e μ
  | .no => False
/-- where one starts -/
structure Bs where
  c : Cfg
  τ : Ls
  m : Nat → Addr
  n : Nat
  σ : L2.St
  G : Hp
  H : Hp
/-- what may be changed -/
def Bs.X (b : Bs) : Addr → Prop := fun a => (∃ i, i < b.n ∧ a = b.m i) ∨ ∃ p ∈ b.c.T, a = p.1
structure Nx (K : PySem.W.Frag) (b : Bs) (μ : Mu) (m : Nat → Addr) (G H : Hp) : Prop where
  ok : Ok K b.c b.τ μ m b.σ G H
  ag : Ag b.n b.m m
  le : b.n ≤ μ.length
  fr : FrY b.X b.G b.H G H
  nw : ∀ i, b.n ≤ i → i < μ.length → b.H (m i) = none
theorem Nx.sg {K : PySem.W.Frag} {b : Bs} {μ : Mu} {m : Nat → Addr} {G H : Hp} (x : Nx K b μ m G H) : Same b.G G := x.fr.g
def Bs.to (b : Bs) (μ : Mu) (m : Nat → Addr) (G H : Hp) : Bs := ⟨b.c, b.τ, m, μ.length, b.σ, G, H⟩
def XP (K : PySem.W.Frag) (b : Bs) (E : XK) : Exc → Mu → Prop := fun e μ => ∀ d ws m G H, Nx K b μ m G H → H d = some (.xd ((e.ns.map Str.ofString).zip ws)) → e.ns.length = ws.length → Z.RepL G (ddL K e.xs) ws → E (.ref (He.ga K (Str.ofString e.c))) (some d) H
def VP {α β : Type} (R : Hp → (Nat → Addr) → Nat → α → β → Prop) (K : PySem.W.Frag) (b : Bs) (Q : β → Hp → Prop) : α → Mu → Prop := fun a μ => ∀ v m G H, Nx K b μ m G H → R G m μ.length a v → Q v H
def LP (K : PySem.W.Frag) (b : Bs) (Q : VK) : List D → Mu → Prop := fun ds μ => ∀ p vs m G H, Nx K b μ m G H → H p = none → Z.RepL G (ddL K ds) vs → Q (.ref p) (upd H p (.lst vs))
section
variable {K : PySem.W.Frag} {b : Bs} {μ μ1 : Mu} {m m1 : Nat → Addr} {G H G1 H1 : Hp} {c : Cfg} {τ : Ls} {σ : L2.St} {E : XK} {α β γ δ : Type}
theorem Nx.self (o : Ok K c τ μ m σ G H) : Nx K ⟨c, τ, m, μ.length, σ, G, H⟩ μ m G H := ⟨o, Ag.refl, Nat.le_refl _, FrY.refl, fun i h1 h2 => absurd h2 (Nat.not_lt.mpr h1)⟩
theorem Nx.trans (x : Nx K b μ m G H) (y : Nx K (b.to μ m G H) μ1 m1 G1 H1) : Nx K b μ1 m1 G1 H1 := ⟨y.ok, x.ag.trans y.ag x.le, Nat.le_trans x.le y.le, x.fr.trans y.fr fun a z => by
    rcases z with ⟨i, hi, rfl⟩ | z
    · by_cases h : i < b.n
      · exact .inl (.inl ⟨i, h, x.ag i h⟩)
      · exact .inr (x.nw i (by omega) hi)
    · exact .inl (.inr z), fun i h1 h2 => by
    by_cases h : i < μ.length
    · rw [y.ag i h]; exact x.nw i h1 h
    · have := y.nw i (by show μ.length ≤ i; omega) h2
      cases z : b.H (m1 i) with
      | none => rfl
      | some w => exact absurd this (x.fr.t _ (ne_none z))⟩
theorem XP.from {e : Exc} (h : XP K b E e μ1) (x : Nx K b μ m G H) : XP K (b.to μ m G H) E e μ1 := fun d ws m' G' H' y => h d ws m' G' H' (x.trans y)
theorem VP.from {R : Hp → (Nat → Addr) → Nat → α → β → Prop} {Q : β → Hp → Prop} {a : α} (h : VP R K b Q a μ1) (x : Nx K b μ m G H) : VP R K (b.to μ m G H) Q a μ1 := fun v m' G' H' y => h v m' G' H' (x.trans y)
theorem LP.from {Q : VK} {a : List D} (h : LP K b Q a μ1) (x : Nx K b μ m G H) : LP K (b.to μ m G H) Q a μ1 := fun p vs m' G' H' y => h p vs m' G' H' (x.trans y)
theorem AccP.imp {EX EX' : Exc → Mu → Prop} {P P' : α → Mu → Prop} {r : Res α} (h : AccP EX P r) (k1 : ∀ e μ, EX e μ → EX' e μ) (k2 : ∀ a μ, P a μ → P' a μ) : AccP EX' P' r := by
  cases r with
  | v a μ => exact k2 _ _ h
  | ex e μ => exact k1 _ _ h
  | no => exact h
theorem fromV {R : Hp → (Nat → Addr) → Nat → α → β → Prop} {Q : β → Hp → Prop} {r : Res α} (x : Nx K b μ m G H) (h : AccP (XP K b E) (VP R K b Q) r) : AccP (XP K (b.to μ m G H) E) (VP R K (b.to μ m G H) Q) r := h.imp (fun _ _ z => z.from x) fun _ _ z => z.from x
theorem fromL {Q : VK} {r : Res (List D)} (x : Nx K b μ m G H) (h : AccP (XP K b E) (LP K b Q) r) : AccP (XP K (b.to μ m G H) E) (LP K (b.to μ m G H) Q) r := h.imp (fun _ _ z => z.from x) fun _ _ z => z.from x
/-- one step of a row -/
theorem step {R1 : Hp → (Nat → Addr) → Nat → α → β → Prop} {P : γ → Mu → Prop} {r : Res α} {f : α → Mu → Res γ} {Q1 : β → Hp → Prop} (h : AccP (XP K b E) P (bnd r f))
    (k : ∀ a μ1 v m1 G1 H1, Nx K b μ1 m1 G1 H1 → R1 G1 m1 μ1.length a v → AccP (XP K b E) P (f a μ1) → Q1 v H1) : AccP (XP K b E) (VP R1 K b Q1) r := by
  cases r with
  | v a μ => exact fun v m1 G1 H1 x y => k a μ v m1 G1 H1 x y h
  | ex e μ => exact h
  | no => exact h
theorem accO {EX : Exc → Mu → Prop} {P : α → Mu → Prop} {o : Option α} (h : AccP EX P (ofO o μ)) : ∃ a, o = some a ∧ P a μ := by
  cases o with
  | none => exact h.elim
  | some a => exact ⟨a, rfl, h⟩
theorem Ok.grow (o : Ok K c τ μ m σ G H) (f : Z.Fr Z.No G H G1 H1) (e : Same G1 H1) (t : Tu G1 H1) : Ok K c τ μ m σ G1 H1 where
  ex := e
  tu := t
  fr := o.fr.trans ⟨f.g, fun a u h _ => f.h a u h (fun z => z), fun a h w => f.n a h w (fun z => z), f.t⟩ (fun _ z => (z : False).elim)
  len := o.len
  sl := fun i x h => by
    obtain ⟨v, h1, h2⟩ := o.sl i x h
    exact ⟨v, h1, h2.mono f.g Ag.refl (Nat.le_refl _)⟩
  ce := fun i cl h => by
    obtain ⟨w, h1, _⟩ := (o.ce i cl h).at
    exact (o.ce i cl h).mono f.g (fun _ _ => rfl) (by rw [h1]; exact f.h _ _ h1 fun z => z)
  sp := fun i hi => by
    obtain ⟨h1, h2, h3⟩ := o.sp i hi
    exact ⟨f.n _ h1 h2 (fun z => z), f.t _ h2, h3⟩
  inj := o.inj
  low := o.low
  tb := o.tb.ext fun b u z => f.h b u z fun z => z
  tg := fun q hq => by
    obtain ⟨h1, h2, h3⟩ := o.tg q hq
    exact ⟨f.n _ h1 (o.fr.t _ h2) (fun z => z), h2, h3⟩
theorem Nx.grow (x : Nx K b μ m G H) (f : Z.Fr Z.No G H G1 H1) (e : Same G1 H1) (t : Tu G1 H1) : Nx K b μ m G1 H1 := ⟨x.ok.grow f e t, x.ag, x.le, x.fr.trans (Y := b.X) ⟨f.g, fun a o h _ => f.h a o h (fun z => z), fun a h q => f.n a h q (fun z => z), f.t⟩ (fun _ z => .inl z), x.nw⟩
theorem Nx.both (x : Nx K b μ m G H) {p : Addr} {u : HO} (hp : H p = none) : Nx K b μ m (upd G p u) (upd H p u) := ⟨x.ok.both hp, x.ag, x.le, x.fr.trans (Y := b.X) ⟨same_own (Same.refl G) (x.ok.newG hp), fun a o h _ => by rw [upd_ne (ne_of_none h hp)]; exact h, fun a h q => by rw [upd_ne (fun z => q (by rw [z]; exact hp))]; exact h, fun a q => by rw [upd_ne (fun z => q (by rw [z]; exact hp))]; exact q⟩ (fun _ z => .inl z), x.nw⟩
/-- a new object that is neither data nor a cell -/
theorem Nx.side (x : Nx K b μ m G H) {p : Addr} {u : HO} (hp : H p = none) (hu : ¬ isTp u) : Nx K b μ m G (upd H p u) := ⟨x.ok.side hp hu, x.ag, x.le, x.fr.trans (Y := b.X) ⟨Same.refl G, fun a o h _ => by rw [upd_ne (ne_of_none h hp)]; exact h, fun a h q => h, fun a q => by rw [upd_ne (fun z => q (by rw [z]; exact hp))]; exact q⟩ (fun _ z => .inl z), x.nw⟩
theorem Nx.subB (x : Nx K b μ m G H) {p : Addr} {u : HO} (hp : H p = none) : Same G (upd G p u) := same_own (Same.refl G) (x.ok.newG hp)
/-- a new list as a cell -/
theorem Nx.alloc (x : Nx K b μ m G H) {p : Addr} {u : HO} {cl : Cl} (hp : H p = none) (hu : ¬ isTp u) (r : RC K G (upd H p u) (upN m μ.length p) μ.length cl) : Nx K b (μ ++ [cl]) (upN m μ.length p) G (upd H p u) :=
  ⟨x.ok.alloc hp hu r, x.ag.trans upN_ag x.le, by rw [List.length_append]; exact Nat.le_trans x.le (Nat.le_add_right _ _), (x.side hp hu).fr, fun i h1 h2 => by
    rw [List.length_append, List.length_singleton] at h2
    by_cases h : i = μ.length
    · rw [h, upN_same]
      cases z : b.H p with
      | none => rfl
      | some w => exact absurd hp (x.fr.t _ (ne_none z))
    · rw [upN_ne h]; exact x.nw i h1 (by omega)⟩
theorem Nx.setC (x : Nx K b μ m G H) {i : Nat} {u : HO} {cl cl0 : Cl} (hi : μ[i]? = some cl0) (hu : ¬ isTp u) (r : RC K G (upd H (m i) u) m i cl) : Nx K b (μ.set i cl) m G (upd H (m i) u) :=
  ⟨x.ok.setC hi hu r, x.ag, by rw [List.length_set]; exact x.le, x.fr.trans (Y := fun a => a = m i) ⟨Same.refl G, fun a o h nx => by rw [upd_ne nx]; exact h, fun a h q => h, fun a q => by
    by_cases e : a = m i
    · rw [e, upd_same]; exact fun z => nomatch z
    · rw [upd_ne e]; exact q⟩ (fun a z => by
    subst z
    have il := (List.getElem?_eq_some_iff.mp hi).1
    by_cases h : i < b.n
    · exact .inl (.inl ⟨i, h, x.ag i h⟩)
    · exact .inr (x.nw i (by omega) il)), fun j h1 h2 => by rw [List.length_set] at h2; exact x.nw j h1 h2⟩
end
abbrev RVr (K : PySem.W.Frag) : Hp → (Nat → Addr) → Nat → Vx → V → Prop := fun G m n x v => RV K G m n x v
abbrev RAr (K : PySem.W.Frag) : Hp → (Nat → Addr) → Nat → List Vx → List V → Prop := fun G m n x v => RVL K G m n x v
abbrev REq {α : Type} : Hp → (Nat → Addr) → Nat → α → α → Prop := fun _ _ _ x v => x = v
def SE (K : PySem.W.Frag) (c : Cfg) (E : XK) (te : TE) (a : ME) : Prop := ∀ τ μ m σ G H, Ok K c τ μ m σ G H → ∀ Q, AccP (XP K ⟨c, τ, m, μ.length, σ, G, H⟩ E) (VP (RVr K) K ⟨c, τ, m, μ.length, σ, G, H⟩ Q) (a τ μ) → te σ H Q
def SA (K : PySem.W.Frag) (c : Cfg) (E : XK) (te : TA) (a : MA) : Prop := ∀ τ μ m σ G H, Ok K c τ μ m σ G H → ∀ Q, AccP (XP K ⟨c, τ, m, μ.length, σ, G, H⟩ E) (VP (RAr K) K ⟨c, τ, m, μ.length, σ, G, H⟩ Q) (a τ μ) → te σ H Q
def ST (K : PySem.W.Frag) (c : Cfg) (E : XK) (te : TT) (a : MT) : Prop := ∀ τ μ m σ G H, Ok K c τ μ m σ G H → ∀ Q, AccP (XP K ⟨c, τ, m, μ.length, σ, G, H⟩ E) (VP REq K ⟨c, τ, m, μ.length, σ, G, H⟩ Q) (a τ μ) → te σ H Q
def SO (K : PySem.W.Frag) (c : Cfg) (E : XK) (te : TO) (a : MO) : Prop := ∀ τ μ m σ G H, Ok K c τ μ m σ G H → ∀ Q, AccP (XP K ⟨c, τ, m, μ.length, σ, G, H⟩ E) (VP REq K ⟨c, τ, m, μ.length, σ, G, H⟩ Q) (a τ μ) → te σ H Q
def SL (K : PySem.W.Frag) (c : Cfg) (E : XK) (te : TE) (a : ML) : Prop := ∀ τ μ m σ G H, Ok K c τ μ m σ G H → ∀ Q, AccP (XP K ⟨c, τ, m, μ.length, σ, G, H⟩ E) (LP K ⟨c, τ, m, μ.length, σ, G, H⟩ Q) (a τ μ) → te σ H Q
def SJ (K : PySem.W.Frag) (c : Cfg) (E : XK) (ts : List TE) (es : List ME) : Prop := ∀ acc τ μ m σ G H, Ok K c τ μ m σ G H → ∀ Q, AccP (XP K ⟨c, τ, m, μ.length, σ, G, H⟩ E) (VP REq K ⟨c, τ, m, μ.length, σ, G, H⟩ Q) (mJs es acc τ μ) → tJs ts acc σ H Q
section
variable {K : PySem.W.Frag} {c : Cfg} {E : XK} {te ta tb tc : TE} {a b' e : ME} {t : TA} {u : MA} {tt tu : TT} {p q : MT} {i j : Nat}
/-! ### names, constants -/
theorem se_var : SE K c E (tVar i) (mVar i) := fun τ μ m σ G H o Q h => by
  unfold mVar at h
  split at h
  · rename_i x hx
    obtain ⟨v, h1, h2⟩ := o.sl i x hx
    exact ⟨v, h1, h v m G H (Nx.self o) h2⟩
  · exact h.elim
theorem se_int {n : Int} : SE K c E (tC (.int n)) (mC (.int n)) := fun τ μ m σ G H o Q h => h _ m G H (Nx.self o) rfl
theorem se_bl {n : Bool} : SE K c E (tC (.bl n)) (mC (.bl n)) := fun τ μ m σ G H o Q h => h _ m G H (Nx.self o) rfl
theorem se_str {n : Str} : SE K c E (tC (.str n)) (mC (.str n)) := fun τ μ m σ G H o Q h => h _ m G H (Nx.self o) rfl
theorem se_non : SE K c E (tC .non) (mC .non) := fun τ μ m σ G H o Q h => h _ m G H (Nx.self o) rfl
theorem se_ty {n : String} : SE K c E (tC (.ty n)) (mC (.ty n)) := fun τ μ m σ G H o Q h => h _ m G H (Nx.self o) rfl
/-! ### operators -/
/-- by values, one place -/
def F1S (K : PySem.W.Frag) (r : V → Hp → VK → Prop) (g : Mu → Vx → Option Vx) : Prop := ∀ (b : Bs) μ x z, g μ x = some z → ∀ m G H v, Nx K b μ m G H → RV K G m μ.length x v → ∀ Q : VK, (∀ v' G' H', Nx K b μ m G' H' → RV K G' m μ.length z v' → Q v' H') → r v H Q
def F2S (K : PySem.W.Frag) (r : R2) (g : Mu → Vx → Vx → Option Vx) : Prop := ∀ (b : Bs) μ x y z, g μ x y = some z → ∀ m G H v w, Nx K b μ m G H → RV K G m μ.length x v → RV K G m μ.length y w → ∀ Q : VK, (∀ v' G' H', Nx K b μ m G' H' → RV K G' m μ.length z v' → Q v' H') → r v w H Q
/-- .. giving a new list -/
def L1S (K : PySem.W.Frag) (r : V → Hp → VK → Prop) (g : Mu → Vx → Option (List D)) : Prop := ∀ (b : Bs) μ x ds, g μ x = some ds → ∀ m G H v, Nx K b μ m G H → RV K G m μ.length x v → ∀ Q : VK, (∀ p vs, H p = none → Z.RepL G (ddL K ds) vs → Q (.ref p) (upd H p (.lst vs))) → r v H Q
def L2S (K : PySem.W.Frag) (r : R2) (g : Mu → Vx → Vx → Option (List D)) : Prop := ∀ (b : Bs) μ x y ds, g μ x y = some ds → ∀ m G H v w, Nx K b μ m G H → RV K G m μ.length x v → RV K G m μ.length y w → ∀ Q : VK, (∀ p vs, H p = none → Z.RepL G (ddL K ds) vs → Q (.ref p) (upd H p (.lst vs))) → r v w H Q
theorem se_u {r : V → Hp → VK → Prop} {g : Mu → Vx → Option Vx} (hg : F1S K r g) (ha : SE K c E ta a) : SE K c E (tUn r ta) (mU g a) := fun τ μ m σ G H o Q h =>
  ha _ _ _ _ _ _ o _ (step h fun x μ1 v m1 G1 H1 n1 r1 h1 => by
    obtain ⟨z, e, k⟩ := accO h1
    exact hg _ _ _ _ e _ _ _ _ n1 r1 _ fun v' G' H' n' r' => k _ _ _ _ n' r')
theorem se_cu {r : List V → Hp → VK → Prop} {g : Mu → Vx → Option Vx} (hg : F1S K (fun v => r [v]) g) (ha : SE K c E ta a) : SE K c E (tCB r (tCons ta tNil)) (mU g a) := se_u (r := fun v => r [v]) hg ha
theorem se_b {r : R2} {g : Mu → Vx → Vx → Option Vx} (hg : F2S K r g) (ha : SE K c E ta a) (hb : SE K c E tb b') : SE K c E (tOp r ta tb) (mB g a b') := fun τ μ m σ G H o Q h =>
  ha _ _ _ _ _ _ o _ (step h fun x μ1 v m1 G1 H1 n1 r1 h1 => hb _ _ _ _ _ _ n1.ok _ (step (fromV n1 h1) fun y μ2 w m2 G2 H2 n2 r2 h2 => by
    obtain ⟨z, e, k⟩ := accO h2
    exact hg _ _ _ _ _ e _ _ _ _ _ n2 (r1.mono n2.sg n2.ag n2.le) r2 _ fun v' G' H' n' r' => k _ _ _ _ n' r'))
theorem sl_u {r : V → Hp → VK → Prop} {g : Mu → Vx → Option (List D)} (hg : L1S K r g) (ha : SE K c E ta a) : SL K c E (tUn r ta) (lOf g a) := fun τ μ m σ G H o Q h =>
  ha _ _ _ _ _ _ o _ (step h fun x μ1 v m1 G1 H1 n1 r1 h1 => by
    obtain ⟨z, e, k⟩ := accO h1
    exact hg _ _ _ _ e _ _ _ _ n1 r1 _ fun p vs hp r' => k p vs _ _ _ n1 hp r')
theorem sl_cu {r : List V → Hp → VK → Prop} {g : Mu → Vx → Option (List D)} (hg : L1S K (fun v => r [v]) g) (ha : SE K c E ta a) : SL K c E (tCB r (tCons ta tNil)) (lOf g a) := sl_u (r := fun v => r [v]) hg ha
theorem sl_b {r : R2} {g : Mu → Vx → Vx → Option (List D)} (hg : L2S K r g) (ha : SE K c E ta a) (hb : SE K c E tb b') : SL K c E (tOp r ta tb) (lOf2 g a b') := fun τ μ m σ G H o Q h =>
  ha _ _ _ _ _ _ o _ (step h fun x μ1 v m1 G1 H1 n1 r1 h1 => hb _ _ _ _ _ _ n1.ok _ (step (fromL n1 h1) fun y μ2 w m2 G2 H2 n2 r2 h2 => by
    obtain ⟨z, e, k⟩ := accO h2
    exact hg _ _ _ _ _ e _ _ _ _ _ n2 (r1.mono n2.sg n2.ag n2.le) r2 _ fun p vs hp r' => k p vs _ _ _ n2 hp r'))
/-- a new list, frozen -/
theorem se_dt {l : ML} (hl : SL K c E te l) : SE K c E te (mDt l) := fun τ μ m σ G H o Q h => hl _ _ _ _ _ _ o _ (by
  unfold mDt at h
  cases z : l τ μ with
  | no => rw [z] at h; exact h
  | ex e μ1 => rw [z] at h; exact h
  | v ds μ1 =>
    rw [z] at h
    exact fun p vs m1 G1 H1 n1 hp r1 => h (.ref p) m1 _ _ (n1.both hp) ⟨p, vs, rfl, upd_same, r1.mono (n1.subB hp) _ _⟩)
/-- .. a cell -/
theorem se_al {l : ML} (hl : SL K c E te l) : SE K c E te (mAl l) := fun τ μ m σ G H o Q h => hl _ _ _ _ _ _ o _ (by
  unfold mAl at h
  cases z : l τ μ with
  | no => rw [z] at h; exact h
  | ex e μ1 => rw [z] at h; exact h
  | v ds μ1 =>
    rw [z] at h
    exact fun p vs m1 G1 H1 n1 hp r1 => h (.ref p) _ _ _ (n1.alloc (cl := .ld ds) hp (fun z => z) ⟨vs, by rw [upN_same, upd_same], r1⟩) ⟨by rw [List.length_append]; exact Nat.lt_succ_self _, by rw [upN_same]⟩)
theorem f2_op {R : R2} {g : D → D → Option D} (hg : OpS K R g) : F2S K R (opV g) := fun b μ x y z h m G H v w n r1 r2 Q k => by
  unfold opV at h
  split at h
  · cases h
  · split at h
    · cases h
    · split at h <;> cases h
      exact hg _ _ _ (by assumption) G H v w n.ok.ex n.ok.tu (n.ok.see (by assumption) r1) (n.ok.see (by assumption) r2) Q fun z G' H' f e t r => k z G' H' (n.grow f e t) r
theorem se_op {R : R2} {g : D → D → Option D} (hg : OpS K R g) (ha : SE K c E ta a) (hb : SE K c E tb b') : SE K c E (tOp R ta tb) (mB (opV g) a b') := se_b (f2_op hg) ha hb
theorem f1_neg : F1S K rNegI fNeg := fun b μ x z h m G H v n r Q k => by
  unfold fNeg at h
  split at h <;> cases h
  exact ⟨_, r, k _ _ _ n rfl⟩
theorem isBl_inv {x : Vx} {k : Bool} (h : isBl x = some k) : x = .dat (.bl k) := by
  unfold isBl at h
  split at h <;> cases h
  rfl
theorem isInt_inv {x : Vx} {k : Int} (h : isInt x = some k) : x = .dat (.int k) := by
  unfold isInt at h
  split at h <;> cases h
  rfl
theorem isStr_inv {x : Vx} {k : Str} (h : isStr x = some k) : x = .dat (.str k) := by
  unfold isStr at h
  split at h <;> cases h
  rfl
theorem se_andV (ha : SE K c E ta a) (hb : SE K c E tb b') : SE K c E (tAndV ta tb) (mAndV a b') := fun τ μ m σ G H o Q h =>
  ha _ _ _ _ _ _ o _ (step h fun x μ1 v m1 G1 H1 n1 r1 h1 => by
    cases z : isBl x with
    | none => rw [z] at h1; exact h1.elim
    | some k =>
      rw [z] at h1
      cases isBl_inv z
      refine ⟨k, r1, ?_⟩
      cases k with
      | true => exact hb _ _ _ _ _ _ n1.ok _ (fromV n1 h1)
      | false => exact h1 _ _ _ _ n1 rfl)
theorem se_orV (ha : SE K c E ta a) (hb : SE K c E tb b') : SE K c E (tOrV ta tb) (mOrV a b') := fun τ μ m σ G H o Q h =>
  ha _ _ _ _ _ _ o _ (step h fun x μ1 v m1 G1 H1 n1 r1 h1 => by
    cases z : isBl x with
    | none => rw [z] at h1; exact h1.elim
    | some k =>
      rw [z] at h1
      cases isBl_inv z
      refine ⟨k, r1, ?_⟩
      cases k with
      | false => exact hb _ _ _ _ _ _ n1.ok _ (fromV n1 h1)
      | true => exact h1 _ _ _ _ n1 rfl)
theorem se_notV (ha : SE K c E ta a) : SE K c E (tNotV ta) (mNotV a) := fun τ μ m σ G H o Q h =>
  ha _ _ _ _ _ _ o _ (step h fun x μ1 v m1 G1 H1 n1 r1 h1 => by
    cases z : isBl x with
    | none => rw [z] at h1; exact h1.elim
    | some k =>
      rw [z] at h1
      cases isBl_inv z
      exact ⟨k, r1, h1 _ _ _ _ n1 rfl⟩)
theorem se_if (ht : ST K c E tt p) (ha : SE K c E ta a) (hb : SE K c E tb b') : SE K c E (tIf tt ta tb) (mIf p a b') := fun τ μ m σ G H o Q h =>
  ht _ _ _ _ _ _ o _ (step h fun x μ1 v m1 G1 H1 n1 r1 h1 => by
    cases r1
    cases x with
    | true => exact ha _ _ _ _ _ _ n1.ok _ (fromV n1 h1)
    | false => exact hb _ _ _ _ _ _ n1.ok _ (fromV n1 h1))
theorem opB_inv {g : D → D → Option D} {μ : Mu} {x y : Vx} {k : Bool} (h : opB g μ x y = some k) : opV g μ x y = some (.dat (.bl k)) := by
  unfold opB at h
  split at h <;> cases h
  assumption
theorem se_chain {R R' : R2} {g h' : D → D → Option D} (hg : OpS K R g) (hh : OpS K R' h') (ha : SE K c E ta a) (hb : SE K c E tb b') (hc : SE K c E tc e) : SE K c E (tChain R R' ta tb tc) (mChain g h' a b' e) := fun τ μ m σ G H o Q h =>
  ha _ _ _ _ _ _ o _ (step h fun x μ1 v m1 G1 H1 n1 r1 h1 => hb _ _ _ _ _ _ n1.ok _ (step (fromV n1 h1) fun y μ2 w m2 G2 H2 n2 r2 h2 => by
    cases z : opB g μ2 x y with
    | none => rw [z] at h2; exact h2.elim
    | some k =>
      rw [z] at h2
      refine f2_op hg _ _ _ _ _ (opB_inv z) _ _ _ _ _ (Nx.self n2.ok) (r1.mono n2.sg n2.ag n2.le) r2 _ fun v' G' H' ns r' => ?_
      have n' := n2.trans ns
      refine ⟨k, r', ?_⟩
      cases k with
      | false => exact h2 _ _ _ _ n' rfl
      | true =>
        have ry : RV K G' m2 μ2.length y w := r2.mono ns.sg Ag.refl (Nat.le_refl _)
        exact hc _ _ _ _ _ _ n'.ok _ (step (fromV n' h2) fun z' μ3 v3 m3 G3 H3 n3 r3 h3 => by
          obtain ⟨z4, e4, k4⟩ := accO h3
          exact f2_op hh _ _ _ _ _ e4 _ _ _ _ _ n3 (ry.mono n3.sg n3.ag n3.le) r3 _ fun v5 G5 H5 n5 r5 => k4 _ _ _ _ n5 r5)))
/-! ### argument lists, displays, built-ins -/
theorem sa_nil : SA K c E tNil mNil := fun τ μ m σ G H o Q h => h [] m G H (Nx.self o) rfl
theorem sa_cons (ha : SE K c E ta a) (ht : SA K c E t u) : SA K c E (tCons ta t) (mCons a u) := fun τ μ m σ G H o Q h =>
  ha _ _ _ _ _ _ o _ (step h fun x μ1 v m1 G1 H1 n1 r1 h1 => ht _ _ _ _ _ _ n1.ok _ (step (fromV n1 h1) fun xs μ2 vs m2 G2 H2 n2 r2 h2 =>
    h2 _ _ _ _ n2 (RVL.cons (r1.mono n2.sg n2.ag n2.le) r2)))
theorem se_tup (ht : SA K c E t u) : SE K c E (tTup t) (mTup u) := fun τ μ m σ G H o Q h =>
  ht _ _ _ _ _ _ o _ (step h fun xs μ1 vs m1 G1 H1 n1 r1 h1 => by
    obtain ⟨z, e, k⟩ := accO h1
    unfold tupV at e
    split at e
    · split at e <;> cases e
      rename_i ds hd hz
      have r2 := allDat_rep hd r1
      refine ⟨by rw [r2.length, ddL_length]; exact sz_le hz, fun p hp => k _ _ _ _ (n1.both hp) ⟨p, vs, rfl, .inl upd_same, r2.mono (n1.subB hp) _ _⟩⟩
    · split at e <;> cases e
      rename_i hz
      refine ⟨by rw [r1.length]; exact sz_le hz, fun p hp => k _ _ _ _ (n1.both hp) ⟨p, vs, rfl, .inl upd_same, r1.mono (n1.subB hp) Ag.refl (Nat.le_refl _)⟩⟩)
theorem sl_lst (ht : SA K c E t u) : SL K c E (tLst t) (lLst u) := fun τ μ m σ G H o Q h =>
  ht _ _ _ _ _ _ o _ (step h fun xs μ1 vs m1 G1 H1 n1 r1 h1 => by
    split at h1
    · split at h1
      · rename_i ds hd hz
        have r2 := allDat_rep hd r1
        exact ⟨by rw [r2.length, ddL_length]; exact sz_le hz, fun p hp => h1 p vs _ _ _ n1 hp r2⟩
      · exact h1.elim
    · exact h1.elim)
theorem se_lv (ht : SA K c E t u) : SE K c E (tLst t) (mLv u) := fun τ μ m σ G H o Q h =>
  ht _ _ _ _ _ _ o _ (step h fun xs μ1 vs m1 G1 H1 n1 r1 h1 => by
    split at h1
    · rename_i hz
      refine ⟨by rw [r1.length]; exact sz_le hz, fun p hp => h1 (.ref p) _ _ _ (n1.alloc (cl := .lv xs) hp (fun z => z) ⟨vs, by rw [upN_same, upd_same], r1.mono (Same.refl _) upN_ag (Nat.le_refl _)⟩) ⟨by rw [List.length_append]; exact Nat.lt_succ_self _, by rw [upN_same]⟩⟩
    · exact h1.elim)
theorem se_cb {R : List V → Hp → VK → Prop} {g : List D → Option D} (hg : CbS K R g) (ht : SA K c E t u) : SE K c E (tCB R t) (mCB g u) := fun τ μ m σ G H o Q h =>
  ht _ _ _ _ _ _ o _ (step h fun xs μ1 vs m1 G1 H1 n1 r1 h1 => by
    split at h1
    · split at h1
      · rename_i ds hs _ d hd
        exact hg _ _ hd G1 H1 vs n1.ok.ex n1.ok.tu (n1.ok.seeA hs r1) Q fun z G' H' f e t r => h1 z _ G' H' (n1.grow f e t) r
      · exact h1.elim
    · exact h1.elim)
/-! lists and tuples read -/
theorem rd_dst {b : Bs} {μ : Mu} {m : Nat → Addr} {G H : Hp} {x : Vx} {ds : List D} {v : V} {l : Nat} (h : dlst μ x = some ds) (n : Nx K b μ m G H) (r : RV K G m l x v) : ∃ p vs, v = V.ref p ∧ H p = some (.lst vs) ∧ Z.RepL G (ddL K ds) vs := by
  unfold dlst at h
  split at h
  · cases h
    obtain ⟨p, vs, rfl, h1, h2⟩ := r
    exact ⟨p, vs, rfl, n.ok.ex _ _ h1, h2⟩
  · split at h <;> cases h
    rename_i i ds hi
    obtain ⟨_, rfl⟩ := r
    obtain ⟨vs, h1, h2⟩ := n.ok.ce i _ hi
    exact ⟨_, vs, rfl, h1, h2⟩
  · cases h
theorem rd_dtup {G : Hp} {m : Nat → Addr} {x : Vx} {ds : List D} {v : V} {l : Nat} (h : dtup x = some ds) (r : RV K G m l x v) : ∃ p vs, v = V.ref p ∧ Rd G p (.tup vs) ∧ Z.RepL G (ddL K ds) vs := by
  unfold dtup at h
  split at h <;> cases h
  · exact r
  · exact tpl_tup r
theorem f1_len : F1S K (fun v => rLen K [v]) fLen := fun b μ x z h m G H v n r Q k => by
  unfold fLen at h
  split at h <;> cases h
  rename_i l hl
  have fin : ∀ {p : Addr} {vs : List V}, vs.length = l → (SqL K H p vs ∨ SqT K H p vs) → rLen K [V.ref p] H Q := fun {p vs} e hs => ⟨p, vs, rfl, hs, by rw [e]; exact k _ _ _ n rfl⟩
  have tup : ∀ {p : Addr} {vs : List V}, vs.length = l → Rd G p (.tup vs) → rLen K [V.ref p] H Q := fun {p vs} e h1 => fin e (.inr (.inl (rd_mono n.ok.ex h1)))
  unfold lenV at hl
  split at hl
  · cases hl
    obtain ⟨p, vs, rfl, h1, h2⟩ := r
    exact fin (by rw [h2.length, ddL_length]) (.inl (SqL.of (n.ok.ex _ _ h1)))
  · cases hl
    obtain ⟨p, vs, rfl, h1, h2⟩ := r
    exact tup (by rw [h2.length, ddL_length]) h1
  · cases hl
    obtain ⟨p, vs, rfl, h1, h2⟩ := tpl_tup r
    exact tup (by rw [h2.length, ddL_length]) h1
  · cases hl
    obtain ⟨p, vs, rfl, h1, h2⟩ := r
    exact tup h2.length h1
  · rename_i i
    obtain ⟨_, rfl⟩ := r
    split at hl <;> cases hl
    · rename_i ds hi
      obtain ⟨vs, h1, h2⟩ := n.ok.ce i _ hi
      exact fin (by rw [h2.length, ddL_length]) (.inl (SqL.of h1))
    · rename_i xs hi
      obtain ⟨vs, h1, h2⟩ := n.ok.ce i _ hi
      exact fin h2.length (.inl (SqL.of h1))
  · cases hl
theorem ixD_ixN {n : Nat} {i : Int} : ixD n i = ixN n i := rfl
theorem atL_rep {G : Hp} {ds : List D} {vs : List V} {n : Int} {d : D} (h : Z.RepL G (ddL K ds) vs) (ha : atL ds n = some d) : ∃ v, atI vs n = some v ∧ Z.Rep G (dd K d) v := by
  refine Z.atI_rep h ?_
  unfold atL at ha
  show (ixN (ddL K ds).length n).bind _ = _
  rw [ddL_length]
  cases z : ixD ds.length n with
  | none => rw [z] at ha; cases ha
  | some k =>
    rw [z] at ha
    rw [show ixN ds.length n = some k from z]
    exact ddL_get ha
theorem atL_rv {G : Hp} {m : Nat → Addr} {l : Nat} {xs : List Vx} {vs : List V} {n : Int} {x : Vx} (h : RVL K G m l xs vs) (ha : atL xs n = some x) : ∃ v, atI vs n = some v ∧ RV K G m l x v := by
  unfold atL at ha
  cases z : ixD xs.length n with
  | none => rw [z] at ha; cases ha
  | some k =>
    rw [z] at ha
    obtain ⟨v, h1, h2⟩ := h.get ha
    refine ⟨v, ?_, h2⟩
    show (ixN vs.length n).bind _ = _
    rw [h.length, show ixN xs.length n = some k from z]
    exact h1
theorem f2_ix : F2S K (rIx K) fIx := fun b μ x y z h m G H v w n r1 r2 Q k => by
  have lst : ∀ {p : Addr} {vs : List V} {i : Int} {u : V}, H p = some (.lst vs) → atI vs i = some u → w = V.int i → (Q u H) → rIx K (V.ref p) w H Q := fun h1 h2 h3 h4 => .inl ⟨_, _, _, _, rfl, h3, SqL.of h1, h2, h4⟩
  have tup : ∀ {p : Addr} {vs : List V} {i : Int} {u : V}, Rd G p (.tup vs) → atI vs i = some u → w = V.int i → (Q u H) → rIx K (V.ref p) w H Q := fun h1 h2 h3 h4 => .inr (.inl ⟨_, _, _, _, rfl, h3, .inl (rd_mono n.ok.ex h1), h2, h4⟩)
  unfold fIx at h
  split at h
  · obtain ⟨d, h1, rfl⟩ := Option.map_eq_some_iff.mp h
    obtain ⟨p, vs, rfl, h2, h3⟩ := r1
    obtain ⟨u, h4, h5⟩ := atL_rep h3 h1
    exact lst (n.ok.ex _ _ h2) h4 r2 (k _ _ _ n h5)
  · obtain ⟨d, h1, rfl⟩ := Option.map_eq_some_iff.mp h
    obtain ⟨p, vs, rfl, h2, h3⟩ := r1
    obtain ⟨u, h4, h5⟩ := atL_rep h3 h1
    exact tup h2 h4 r2 (k _ _ _ n h5)
  · obtain ⟨d, h1, rfl⟩ := Option.map_eq_some_iff.mp h
    obtain ⟨p, vs, rfl, h2, h3⟩ := tpl_tup r1
    obtain ⟨u, h4, h5⟩ := atL_rep h3 h1
    exact tup h2 h4 r2 (k _ _ _ n h5)
  · obtain ⟨p, vs, rfl, h2, h3⟩ := r1
    obtain ⟨u, h4, h5⟩ := atL_rv h3 h
    exact tup h2 h4 r2 (k _ _ _ n h5)
  · rename_i i j
    obtain ⟨hi0, rfl⟩ := r1
    split at h
    · rename_i ds hi
      obtain ⟨d, h1, rfl⟩ := Option.map_eq_some_iff.mp h
      obtain ⟨vs, h2, h3⟩ := n.ok.ce i _ hi
      obtain ⟨u, h4, h5⟩ := atL_rep h3 h1
      exact lst h2 h4 r2 (k _ _ _ n h5)
    · rename_i xs hi
      obtain ⟨vs, h2, h3⟩ := n.ok.ce i _ hi
      obtain ⟨u, h4, h5⟩ := atL_rv h3 h
      exact lst h2 h4 r2 (k _ _ _ n (h5.mono (Same.refl _) Ag.refl (by omega)))
    · cases h
  · cases h
theorem f2_catT : F2S K (rCatA K) fCatT := fun b μ x y z h m G H v w n r1 r2 Q k => by
  unfold fCatT at h
  split at h
  · split at h <;> cases h
    rename_i ds es hd he hz
    obtain ⟨p, vs, rfl, h2, h3⟩ := rd_dtup hd r1
    obtain ⟨p', ws, rfl, h4, h5⟩ := rd_dtup he r2
    have l1 := h3.length
    have l2 := h5.length
    rw [ddL_length] at l1 l2
    refine ⟨p, p', vs, ws, rfl, rfl, .inl (rd_mono n.ok.ex h2), .inl (rd_mono n.ok.ex h4), by rw [l1, l2]; exact sz_le hz, fun e => ?_, fun _ e => ?_, fun _ _ l hl => ?_⟩
    · subst e
      have ed : ds = [] := List.length_eq_zero_iff.mp (by simpa using l1.symm)
      subst ed
      exact k _ _ _ n ⟨p', ws, rfl, h4, h5⟩
    · subst e
      have ed : es = [] := List.length_eq_zero_iff.mp (by simpa using l2.symm)
      subst ed
      exact k _ _ _ n ⟨p, vs, rfl, h2, by rw [List.append_nil]; exact h3⟩
    · exact k _ _ _ (n.both hl) ⟨l, _, rfl, .inl upd_same, by rw [ddL_append]; exact (h3.append h5).mono (n.subB hl) _ _⟩
  · cases h
theorem l2_cat : L2S K rCat nCat := fun b μ x y ds h m G H v w n r1 r2 Q k => by
  unfold nCat at h
  split at h
  · split at h <;> cases h
    rename_i ds es hd he hz
    obtain ⟨p, vs, rfl, a1, a2⟩ := rd_dst hd n r1
    obtain ⟨q, ws, rfl, b1, b2⟩ := rd_dst he n r2
    exact ⟨p, q, vs, ws, rfl, rfl, a1, b1, by rw [a2.length, b2.length, ddL_length, ddL_length]; exact sz_le hz, fun l hl => k l _ hl (by rw [ddL_append]; exact a2.append b2)⟩
  · cases h
theorem l2_rep : L2S K rRep nRep := fun b μ x y ds h m G H v w n r1 r2 Q k => by
  unfold nRep at h
  split at h
  · split at h <;> cases h
    rename_i ds i hd hz
    obtain ⟨p, vs, rfl, a1, a2⟩ := rd_dst hd n r1
    refine ⟨p, i, vs, rfl, r2, a1, by omega, by omega, by rw [a2.length, ddL_length]; exact sz_le hz.2.2, fun l hl => k l _ hl ?_⟩
    rw [ddL_map, List.map_flatten, List.map_replicate, ← ddL_map]
    exact repl_rep a2 _
  · cases h
theorem l1_list : L1S K (fun v => rListOf K [v]) its := fun b μ x ds h m G H v n r Q k => by
  unfold its at h
  split at h
  · cases h
    obtain ⟨p, vs, rfl, h1, h2⟩ := r
    exact ⟨p, vs, rfl, .inl (SqL.of (n.ok.ex _ _ h1)), fun l hl => k l _ hl h2⟩
  · cases h
    obtain ⟨p, vs, rfl, h1, h2⟩ := r
    exact ⟨p, vs, rfl, .inr (.inl (rd_mono n.ok.ex h1)), fun l hl => k l _ hl h2⟩
  · cases h
    obtain ⟨p, vs, rfl, h1, h2⟩ := tpl_tup r
    exact ⟨p, vs, rfl, .inr (.inl (rd_mono n.ok.ex h1)), fun l hl => k l _ hl h2⟩
  · split at h <;> cases h
    rename_i i ds hi
    obtain ⟨_, rfl⟩ := r
    obtain ⟨vs, h1, h2⟩ := n.ok.ce i _ hi
    exact ⟨_, vs, rfl, .inl (SqL.of h1), fun l hl => k l _ hl h2⟩
  · cases h
theorem f1_tup : F1S K (fun v => rTupN K [v]) fTup := fun b μ x z h m G H v n r Q k => by
  unfold fTup at h
  split at h
  · cases h
    rename_i ds hd
    obtain ⟨p, vs, rfl, h2, h3⟩ := rd_dst hd n r
    exact ⟨p, vs, rfl, .inl ⟨SqL.of h2, fun l o hl hdn => k _ _ _ (n.both hl) (tpl_tup ⟨l, vs, o, rfl, ⟨upd_same, hdn⟩, h3.mono (n.subB hl) _ _⟩)⟩⟩
  · obtain ⟨ds, hd, rfl⟩ := Option.map_eq_some_iff.mp h
    obtain ⟨p, vs, rfl, h2, h3⟩ := rd_dtup hd r
    exact ⟨p, vs, rfl, .inr ⟨.inl (rd_mono n.ok.ex h2), k _ _ _ n ⟨p, vs, rfl, h2, h3⟩⟩⟩
theorem f1_tupN : F1S K (fun v => rTupN K [v]) fTupN := fun b μ x z h m G H v n r Q k => by
  unfold fTupN at h
  obtain ⟨ds, hd, rfl⟩ := Option.map_eq_some_iff.mp h
  obtain ⟨p, vs, rfl, h2, h3⟩ := rd_dst hd n r
  exact ⟨p, vs, rfl, .inl ⟨SqL.of h2, fun l o hl hdn => k _ _ _ (n.both hl) ⟨l, vs, o, rfl, ⟨upd_same, hdn⟩, h3.mono (n.subB hl) _ _⟩⟩⟩
end
end Y
set_option Elab.async false
set_option linter.all false
set_option maxRecDepth 100000
/-! A5: expressions: sorts, slices, fields, texts, isinstance, lists changed, tests. -/
namespace Y
open PySem PySem.Spec PyProof.Rows L2 Z
section
variable {K : PySem.W.Frag} {c : Cfg} {E : XK} {te ta tb tc : TE} {a b' e : ME} {t : TA} {u : MA} {tt tu : TT} {p q : MT} {i j : Nat} {tl th : TO} {ml mh : MO}
theorem sl_listRg (ha : SE K c E ta a) : SL K c E (tLstRg (tRg1 ta)) (lOf nRg a) := fun τ μ m σ G H o Q h =>
  ha _ _ _ _ _ _ o _ (step h fun x μ1 v m1 G1 H1 n1 r1 h1 => by
    obtain ⟨z, e, k⟩ := accO h1
    unfold nRg at e
    split at e
    · split at e <;> cases e
      rename_i n hn
      cases (show v = V.int n from r1)
      obtain ⟨w, rfl⟩ : ∃ w : Nat, n = (w : Int) := ⟨n.toNat, by omega⟩
      refine ⟨(w : Nat), rfl, by constructor <;> omega, fun q hq => k q _ _ _ _ n1 hq ?_⟩
      have e2 : rgV 0 (w : Int) = (List.range w).map fun k => V.int ((k : Nat) : Int) := by
        unfold rgV
        rw [Int.sub_zero, Int.toNat_natCast]
        refine List.map_congr_left fun x _ => ?_
        rw [Int.zero_add]
      rw [e2, Int.toNat_natCast, ddL_map, List.map_map]
      have key : ∀ l : List Nat, Z.RepL G1 (l.map (dd K ∘ fun k : Nat => D.int (k : Int))) (l.map fun k : Nat => V.int (k : Int)) := fun l => by
        induction l with
        | nil => exact rfl
        | cons x xs ih => exact RepL.cons rfl ih
      exact key _
    · cases e)
theorem srtI_of {ns ns' : List Int} (hp : ns'.Perm ns) (hs : ns'.Pairwise (· ≤ ·)) : ns' = srtI ns := by
  have h1 : (srtI ns).Perm ns := List.mergeSort_perm _ _
  have h2 : (srtI ns).Pairwise (fun a b => decide (a ≤ b) = true) := List.pairwise_mergeSort (fun a b c h1 h2 => by simp only [decide_eq_true_eq] at *; omega) (fun a b => by simp only [Bool.or_eq_true, decide_eq_true_eq]; omega) ns
  refine List.Perm.eq_of_pairwise (le := fun a b : Int => a ≤ b) (fun a b _ _ h1 h2 => by omega) hs (h2.imp fun h => of_decide_eq_true h) (hp.trans h1.symm)
theorem l1_sortI : L1S K (fun v => rSortedI K [v]) nSortI := fun b μ x ds h m G H v n r Q k => by
  unfold nSortI at h
  split at h
  · split at h <;> cases h
    rename_i ns hn
    obtain ⟨p, vs, rfl, h2, h3⟩ := n.ok.see (by assumption) r
    rw [intsD_dd hn] at h3
    have e := h3.ints
    subst e
    refine ⟨p, ns, rfl, SqL.of h2, fun ns' l hp hs hl => k l _ hl ?_⟩
    rw [srtI_of hp hs, ddL_ints]
    exact RepL.of_ints _
  · cases h
theorem l1_sortT : L1S K (fun v => rSortedTI K [v]) nSortT := fun b μ x ds h m G H v n r Q k => by
  unfold nSortT at h
  split at h
  · split at h <;> cases h
    rename_i ns hn
    obtain ⟨p, vs, rfl, h2, h3⟩ := n.ok.see (by assumption) r
    rw [intsD_dd hn] at h3
    have e := h3.ints
    subst e
    refine ⟨p, ns, rfl, .inl h2, fun ns' l hp hs hl => k l _ hl ?_⟩
    rw [srtI_of hp hs, ddL_ints]
    exact RepL.of_ints _
  · cases h
/-! ### slices -/
theorem so_none : SO K c E tNoPart mNoPart := fun τ μ m σ G H o Q h => h none m G H (Nx.self o) rfl
theorem so_some (ha : SE K c E ta a) : SO K c E (tPart ta) (mPart a) := fun τ μ m σ G H o Q h =>
  ha _ _ _ _ _ _ o _ (step h fun x μ1 v m1 G1 H1 n1 r1 h1 => by
    cases z : isInt x with
    | none => rw [z] at h1; exact h1.elim
    | some k =>
      rw [z] at h1
      cases isInt_inv z
      exact ⟨k, r1, h1 _ _ _ _ n1 rfl⟩)
theorem cut_rep {G : Hp} {ds : List D} {vs : List V} (h : Z.RepL G (ddL K ds) vs) (lo hi : Option Int) : Z.RepL G (ddL K (cutP ds lo hi)) (cutV vs lo hi) := by
  have z := h.cut lo hi
  have e : ddL K (cutP ds lo hi) = Z.cutD (ddL K ds) lo hi := by
    unfold cutP Z.cutD
    rw [ddL_length, ddL_map, ddL_map, List.map_take, List.map_drop]
    rfl
  rw [e]
  exact z
theorem sl_sl (ha : SE K c E ta a) (hl : SO K c E tl ml) (hh : SO K c E th mh) : SL K c E (tSl (rSlL K) ta tl th) (lSl a ml mh) := fun τ μ m σ G H o Q h =>
  ha _ _ _ _ _ _ o _ (step h fun x μ1 v m1 G1 H1 n1 r1 h1 => hl _ _ _ _ _ _ n1.ok _ (step (fromL n1 h1) fun lo μ2 lo' m2 G2 H2 n2 r2 h2 => hh _ _ _ _ _ _ n2.ok _ (step (fromL n2 h2) fun hi μ3 hi' m3 G3 H3 n3 r3 h3 => by
    cases r2; cases r3
    obtain ⟨z, e, k⟩ := accO h3
    have rx : RV K G3 m3 μ3.length x v := (r1.mono n2.sg n2.ag n2.le).mono n3.sg n3.ag n3.le
    unfold nSl at e
    split at e
    · cases e
      rename_i ns
      obtain ⟨p, rfl, hs⟩ := rx
      refine ⟨p, _, rfl, Same.seq n3.ok.ex hs, fun l hl => k l _ _ _ _ n3 hl ?_⟩
      refine cut_rep ?_ lo hi
      rw [ddL_ints]
      exact RepL.of_ints _
    · split at e <;> cases e
      rename_i ds hd
      obtain ⟨p, vs, rfl, h4, h5⟩ := rd_dst hd n3 rx
      exact ⟨p, vs, rfl, SqL.of h4, fun l hl => k l _ _ _ _ n3 hl (cut_rep h5 lo hi)⟩)))
theorem se_slT (ha : SE K c E ta a) (hl : SO K c E tl ml) (hh : SO K c E th mh) : SE K c E (tSl (rSlA K) ta tl th) (mSlT a ml mh) := fun τ μ m σ G H o Q h =>
  ha _ _ _ _ _ _ o _ (step h fun x μ1 v m1 G1 H1 n1 r1 h1 => hl _ _ _ _ _ _ n1.ok _ (step (fromV n1 h1) fun lo μ2 lo' m2 G2 H2 n2 r2 h2 => hh _ _ _ _ _ _ n2.ok _ (step (fromV n2 h2) fun hi μ3 hi' m3 G3 H3 n3 r3 h3 => by
    cases r2; cases r3
    obtain ⟨z, e, k⟩ := accO h3
    have rx : RV K G3 m3 μ3.length x v := (r1.mono n2.sg n2.ag n2.le).mono n3.sg n3.ag n3.le
    unfold fSlT at e
    obtain ⟨ds, hd, rfl⟩ := Option.map_eq_some_iff.mp e
    obtain ⟨p, vs, rfl, h4, h5⟩ := rd_dtup hd rx
    refine ⟨p, vs, rfl, .inl (rd_mono n3.ok.ex h4), fun hw => ?_, fun _ l hl => ?_⟩
    · have e2 : cutV vs lo hi = vs := by
        unfold cutV
        rw [hw.1, hw.2]
        simp
      have z := cut_rep h5 lo hi
      rw [e2] at z
      exact k _ _ _ _ n3 ⟨p, vs, rfl, h4, z⟩
    · exact k _ _ _ _ (n3.both hl) ⟨l, _, rfl, .inl upd_same, (cut_rep h5 lo hi).mono (n3.subB hl) _ _⟩)))
/-! ### fields -/
theorem char_inj {a b : Char} (h : a.toNat = b.toNat) : a = b := by
  apply Char.ext
  exact UInt32.toNat_inj.mp h
theorem map_char_inj : ∀ {xs ys : List Char}, xs.map Char.toNat = ys.map Char.toNat → xs = ys
  | [], [], _ => rfl
  | [], _ :: _, h => by cases h
  | _ :: _, [], h => by cases h
  | x :: xs, y :: ys, h => by
    rw [List.map_cons, List.map_cons] at h
    injection h with h1 h2
    rw [char_inj h1, map_char_inj h2]
theorem str_inj {a b : String} (h : Str.ofString a = Str.ofString b) : a = b := by
  rw [Str.ofString_eq_toList, Str.ofString_eq_toList] at h
  injection h with h
  have h2 := List.toArray_inj h
  exact String.toList_inj.mp (map_char_inj h2)
theorem lkp_dd : ∀ {ns : List String} {xs : List D} {f : String} {d : D}, lkpD ns xs f = some d → lkp (ns.map Str.ofString) (ddL K xs) (Str.ofString f) = some (dd K d)
  | [], _, _, _, h => by simp [lkpD] at h
  | _ :: _, [], _, _, h => by simp [lkpD] at h
  | n :: ns, x :: xs, f, d, h => by
    unfold lkpD at h
    rw [List.map_cons, ddL]
    unfold lkp
    by_cases e : f = n
    · rw [if_pos e] at h
      cases h
      rw [if_pos (by rw [e])]
    · rw [if_neg e] at h
      rw [if_neg (fun z => e (str_inj z))]
      exact lkp_dd h
theorem f1_fld {n f : String} (hc : Cls K (He.ga K (Str.ofString n))) (hn : NoAttr K (He.ga K (Str.ofString n)) (Str.ofString f)) : F1S K (fun x H1 Q => ∃ a C dx fs v, x = .ref a ∧ H1 a = some (.ins C dx fs) ∧ Cls K C ∧ NoAttr K C (Str.ofString f) ∧ fs.lookup (Str.ofString f) = some v ∧ Q v H1) (fFld n f) := fun b μ x z h m G H v nx r Q k => by
  unfold fFld at h
  split at h
  · split at h
    · rename_i hc'
      subst hc'
      obtain ⟨d, hd, rfl⟩ := Option.map_eq_some_iff.mp h
      obtain ⟨p, dx, vs, rfl, h2, h5, h3⟩ := r
      obtain ⟨u, h6, h7⟩ := lkp_rep (lkp_dd (K := K) hd) h3
      exact ⟨p, _, dx, _, u, rfl, nx.ok.ex _ _ h2, hc, hn, h6, k _ _ _ nx h7⟩
    · cases h
  · split at h
    · split at h
      · rename_i i _ c' ns xs hi hc'
        subst hc'
        obtain ⟨d, hd, rfl⟩ := Option.map_eq_some_iff.mp h
        obtain ⟨_, rfl⟩ := r
        obtain ⟨dx, vs, h2, h5, h3⟩ := nx.ok.ce i _ hi
        obtain ⟨u, h6, h7⟩ := lkp_rep (lkp_dd (K := K) hd) h3
        exact ⟨_, _, dx, _, u, rfl, h2, hc, hn, h6, k _ _ _ nx h7⟩
      · cases h
    · cases h
  · cases h
theorem se_fld {n f : String} (hc : Cls K (He.ga K (Str.ofString n))) (hn : NoAttr K (He.ga K (Str.ofString n)) (Str.ofString f)) (ha : SE K c E ta a) : SE K c E (tFld K ta (Str.ofString f)) (mU (fFld n f) a) := se_u (f1_fld hc hn) ha
/-! ### texts -/
theorem f1_fmt : F1S K (fun x H1 Q => (∃ y : Str, x = .str y ∧ y.length ≤ sizeLine ∧ Q (.str y) H1) ∨ ∃ i : Int, x = .int i ∧ i.natAbs.log2 < 1920 ∧ Q (.str (toString i)) H1) fFmt := fun b μ x z h m G H v nx r Q k => by
  unfold fFmt at h
  split at h
  · split at h <;> cases h
    rename_i i hi
    exact .inr ⟨i, r, log_ten hi, k _ _ _ nx rfl⟩
  · split at h <;> cases h
    rename_i y hy
    exact .inl ⟨y, r, sz_le hy, k _ _ _ nx rfl⟩
  · cases h
theorem se_fmt (ha : SE K c E ta a) : SE K c E (tFmt ta) (mFmt a) := se_u f1_fmt ha
theorem sj_nil : SJ K c E [] [] := fun acc τ μ m σ G H o Q h => h acc m G H (Nx.self o) rfl
theorem sj_cons {ts : List TE} {es : List ME} (ha : SE K c E ta a) (ht : SJ K c E ts es) : SJ K c E (ta :: ts) (a :: es) := fun acc τ μ m σ G H o Q h =>
  ha _ _ _ _ _ _ o _ (step h fun x μ1 v m1 G1 H1 n1 r1 h1 => by
    cases z : isStr x with
    | none => rw [z] at h1; exact h1.elim
    | some y =>
      rw [z] at h1
      cases isStr_inv z
      dsimp only at h1
      by_cases hz : (acc ++ y).length ≤ 100000
      · rw [if_pos hz] at h1
        exact ⟨y, r1, sz_le hz, ht _ _ _ _ _ _ _ n1.ok _ (fromV n1 h1)⟩
      · rw [if_neg hz] at h1; exact h1.elim)
theorem se_joined {ts : List TE} {es : List ME} (ht : SJ K c E ts es) : SE K c E (tJoined ts) (mJoined es) := fun τ μ m σ G H o Q h =>
  ht _ _ _ _ _ _ _ o _ (step h fun x μ1 v m1 G1 H1 n1 r1 h1 => by
    cases r1
    exact h1 _ _ _ _ n1 rfl)
theorem se_join (ha : SE K c E ta a) (hb : SE K c E tb b') : SE K c E (tBM K "str" (rJoin K) ta (tCons tb tNil)) (mJoin a b') := fun τ μ m σ G H o Q h =>
  ha _ _ _ _ _ _ o _ (step h fun x μ1 v m1 G1 H1 n1 r1 h1 => by
    split at h1
    · rename_i s hs
      cases isStr_inv hs
      cases (show v = V.str s from r1)
      refine ⟨rfl, hb _ _ _ _ _ _ n1.ok _ (step (fromV n1 h1) fun y μ2 w m2 G2 H2 n2 r2 h2 => ?_)⟩
      obtain ⟨z, e, k⟩ := accO h2
      unfold joinO at e
      split at e
      · rename_i ds hd
        split at e
        · rename_i ys hy
          split at e <;> cases e
          rename_i hz
          obtain ⟨p, ws, rfl, h4, h5⟩ := rd_dst hd n2 r2
          rw [strsD_dd hy] at h5
          have ew := h5.strs
          subst ew
          have es : Txt.join s ys = Str.join s ys := StrLaws.glued_eq_join s ys
          refine ⟨s, p, ys, rfl, rfl, .inl (SqL.of h4), by omega, ?_⟩
          rw [es]
          exact k _ _ _ _ n2 rfl
        · cases e
      · cases e
    · exact h1.elim)
theorem countP_dd {ds : List D} {d : D} (h : nice60 (.tpl ds) = true) (k : nice60 d = true) : ((ddL K ds).countP fun z => deqv z (dd K d)) = ds.countP fun z => eqD z d := by
  rw [ddL_map, List.countP_map]
  refine List.countP_congr fun x hx => ?_
  have : niceD 59 x = true := niceDL_mem (show niceDL 59 ds = true from h) hx
  show deqv (dd K x) (dd K d) = true ↔ _
  rw [show deqv (dd K x) (dd K d) = eqD x d from eqv_dd 59 60 x d this k]
theorem se_count (ha : SE K c E ta a) (hb : SE K c E tb b') : SE K c E (tBMT (rCntD K) ta (tCons tb tNil)) (mCount a b') := fun τ μ m σ G H o Q h =>
  ha _ _ _ _ _ _ o _ (step h fun x μ1 v m1 G1 H1 n1 r1 h1 => by
    split at h1
    · rename_i ds hs
      have ex : x = .dat (.tpl ds) := by
        unfold isTpl at hs
        split at hs <;> cases hs
        rfl
      subst ex
      obtain ⟨p, vs, ob, rfl, h2, h3⟩ := r1
      refine ⟨⟨p, ob, vs, rfl, n1.ok.ex _ _ h2.1, h2.2⟩, hb _ _ _ _ _ _ n1.ok _ (step (fromV n1 h1) fun y μ2 w m2 G2 H2 n2 r2 h4 => ?_)⟩
      obtain ⟨z, e, k⟩ := accO h4
      unfold cntO at e
      split at e
      · split at e <;> cases e
        rename_i d hh
        rw [Bool.and_eq_true] at hh
        have r0 : Z.Rep H2 (dd K (.tpl ds)) (.ref p) := Z.Rep.mono n2.ok.ex _ _ (Z.Rep.mono n2.sg _ _ (show Z.Rep G1 (dd K (.tpl ds)) (.ref p) from ⟨p, vs, ob, rfl, h2, h3⟩))
        have q1 := nice_dd (K := K) 60 _ hh.1
        have q2 := nice_dd (K := K) 60 _ hh.2
        refine ⟨p, w, py (dd K d), pyL (ddL K ds), rfl, rfl, Nice.dp 60 _ _ q1 r0, Nice.dp 60 _ _ q2 (Z.Rep.mono n2.ok.ex _ _ r2), q1.shaped (by decide), q2.shaped (by decide), ?_⟩
        rw [countP_py, countP_dd hh.1 hh.2]
        exact k _ _ _ _ n2 rfl
      · cases e
    · exact h1.elim)
/-! ### isinstance -/
theorem tyS_ty {d : D} {s : String} (h : tyS d = some s) : isPl (dd K d) = true ∧ tyN (dd K d) = s := by
  cases d <;> first | (cases h; exact ⟨rfl, rfl⟩) | cases h
theorem tyx_vx {b : Bs} {μ : Mu} {m : Nat → Addr} {G H : Hp} {x : Vx} {v : V} {s : String} {l : Nat} (h : tyVx μ x = some s) (n : Nx K b μ m G H) (r : RV K G m l x v) : TyX K H v (.type s) := by
  unfold tyVx at h
  split at h
  · obtain ⟨q1, rfl⟩ := tyS_ty (K := K) h
    exact tyx_of q1 (Z.Rep.mono n.ok.ex _ _ r)
  · cases h
    obtain ⟨p, vs, rfl, h2, _⟩ := r
    rcases h2 with h2 | ⟨o, h2⟩
    · exact .base (.tup (n.ok.ex _ _ h2))
    · exact .fTuple (n.ok.ex _ _ h2)
  · obtain ⟨_, rfl⟩ := r
    split at h <;> cases h
    · rename_i hi
      obtain ⟨vs, h1, _⟩ := n.ok.ce _ _ hi
      exact .base (.lst h1)
    · rename_i hi
      obtain ⟨vs, h1, _⟩ := n.ok.ce _ _ hi
      exact .base (.lst h1)
theorem tyVx_six {μ : Mu} {x : Vx} {s : String} (h : tyVx μ x = some s) : s = "NoneType" ∨ s = "bool" ∨ s = "int" ∨ s = "str" ∨ s = "tuple" ∨ s = "list" := by
  unfold tyVx at h
  split at h
  · unfold tyS at h
    split at h <;> cases h <;> simp
  · cases h; simp
  · split at h <;> cases h <;> simp
theorem isi1_kit {s n : String} {k : Bool} (hs : s = "NoneType" ∨ s = "bool" ∨ s = "int" ∨ s = "str" ∨ s = "tuple" ∨ s = "list") (h : isi1 s n = some k) : kitB s n = some k := by
  unfold isi1 at h
  split at h
  · rename_i hn
    cases h
    rcases hs with rfl | rfl | rfl | rfl | rfl | rfl <;> rcases hn with rfl | rfl | rfl | rfl | rfl <;> decide +kernel
  · cases h
theorem f1_isi {s : String} : F1S K (fun v => rIsi K [v, .ty s]) (fIsi s) := fun b μ x z h m G H v n r Q k => by
  unfold fIsi at h
  cases hk : tyVx μ x with
  | none => rw [hk] at h; cases h
  | some ty =>
    rw [hk] at h
    dsimp only at h
    cases hx : isi1 ty s with
    | none => rw [hx] at h; cases h
    | some kk =>
      rw [hx] at h
      cases h
      exact ⟨v, .ty s, .type _, .type s, _, rfl, .ty s, tyx_vx hk n r, kit_ty (isi1_kit (tyVx_six hk) hx), k _ _ _ n rfl⟩
theorem se_isi {s : String} (ha : SE K c E ta a) : SE K c E (tCB (rIsi K) (tCons ta (tCons (tC (.ty s)) tNil))) (mU (fIsi s) a) := se_u (r := fun v => rIsi K [v, .ty s]) f1_isi ha
theorem f1_isi2 {s1 s2 : String} : F1S K (fun v H Q => [V.ty s1, V.ty s2].length ≤ sizeLine ∧ ∀ p, H p = none → rIsiT K [v, .ref p] (upd H p (.tup [V.ty s1, V.ty s2])) Q) (fIsi2 s1 s2) := fun b μ x z h m G H v n r Q k => by
  unfold fIsi2 at h
  cases hk : tyVx μ x with
  | none => rw [hk] at h; cases h
  | some ty =>
    rw [hk] at h
    dsimp only at h
    cases h1 : isi1 ty s1 with
    | none => rw [h1] at h; cases h
    | some k1 =>
      cases h2 : isi1 ty s2 with
      | none => rw [h1, h2] at h; cases h
      | some k2 =>
        rw [h1, h2] at h
        cases h
        refine ⟨sz_le (by show 2 ≤ 100000; decide), fun p hp => ?_⟩
        have n' := n.both (u := .tup [V.ty s1, V.ty s2]) hp
        refine ⟨v, p, [V.ty s1, V.ty s2], .type _, [.type s1, .type s2], _, rfl, upd_same, .cons (.ty s1) (.cons (.ty s2) .nil), tyx_vx hk n' (r.mono (n.subB hp) Ag.refl (Nat.le_refl _)), kitAny_of (ns := [s1, s2]) ?_, k _ _ _ n' rfl⟩
        unfold isiAny isiAny isiAny
        rw [isi1_kit (tyVx_six hk) h1, isi1_kit (tyVx_six hk) h2]
        cases k1 <;> cases k2 <;> rfl
theorem se_isi2 {s1 s2 : String} (ha : SE K c E ta a) : SE K c E (tCB (rIsiT K) (tCons ta (tCons (tTup (tCons (tC (.ty s1)) (tCons (tC (.ty s2)) tNil))) tNil))) (mU (fIsi2 s1 s2) a) := se_u (r := fun v H Q => [V.ty s1, V.ty s2].length ≤ sizeLine ∧ ∀ p, H p = none → rIsiT K [v, .ref p] (upd H p (.tup [V.ty s1, V.ty s2])) Q) f1_isi2 ha
theorem f1_isiO {n : String} (kc : KCls K (He.ga K (Str.ofString n))) : F1S K (fun v => rIsi K [v, .ref (He.ga K (Str.ofString n))]) (fIsiO n) := fun b μ x z h m G H v nx r Q k => by
  unfold fIsiO at h
  split at h
  · obtain ⟨kk, hk, rfl⟩ := Option.map_eq_some_iff.mp h
    unfold isiO at hk
    split at hk
    · split at hk <;> cases hk
      rename_i hc
      subst hc
      exact ⟨v, .ref _, .ref _, .ref _, true, rfl, .own _, tyx_obj kc (Z.Rep.mono nx.ok.ex _ _ r), kitOne_self, k _ _ _ nx rfl⟩
    · split at hk
      · split at hk <;> cases hk
        rename_i _ s hs e
        subst e
        exact ⟨v, .ref _, .type "tuple", .ref _, false, rfl, .own _, tyx_vx (x := .dat _) (μ := μ) hs nx r, kc.tup, k _ _ _ nx rfl⟩
      · cases hk
  · cases h
theorem se_isiO {n : String} (kc : KCls K (He.ga K (Str.ofString n))) (ha : SE K c E ta a) : SE K c E (tCB (rIsi K) (tCons ta (tCons (tC (.ref (He.ga K (Str.ofString n)))) tNil))) (mU (fIsiO n) a) := se_u (r := fun v => rIsi K [v, .ref (He.ga K (Str.ofString n))]) (f1_isiO kc) ha
/-! ### lists changed -/
theorem se_pop (ha : SE K c E ta a) : SE K c E (tBM0 K "list" rPop ta) (mPop a) := fun τ μ m σ G H o Q h =>
  ha _ _ _ _ _ _ o _ (step h fun x μ1 v m1 G1 H1 n1 r1 h1 => by
    split at h1
    · rename_i i
      obtain ⟨hl, rfl⟩ := r1
      split at h1
      · rename_i ds hi
        split at h1
        · rename_i d hd
          obtain ⟨vs, h2, h3⟩ := n1.ok.ce i _ hi
          obtain ⟨u, h4, h5⟩ := h3.get (ddL_get hd)
          refine ⟨tyV_list h2, _, vs, u, rfl, rfl, h2, by rw [h3.length, ddL_length]; exact h4, h1 u m1 G1 _ (n1.setC hi (fun z => z) ⟨_, upd_same, by rw [ddL_dropLast]; exact h3.dropLast⟩) h5⟩
        · exact h1.elim
      · exact h1.elim
    · exact h1.elim)
theorem lstC {b : Bs} {μ : Mu} {m : Nat → Addr} {G H : Hp} {x : Vx} {v : V} {l : Nat} (h : isLstC μ x = true) (n : Nx K b μ m G H) (r : RV K G m l x v) : tyV K "list" v H := by
  unfold isLstC at h
  split at h
  · obtain ⟨_, rfl⟩ := r
    split at h
    · rename_i hi
      obtain ⟨vs, h1, _⟩ := n.ok.ce _ _ hi
      exact tyV_list h1
    · rename_i hi
      obtain ⟨vs, h1, _⟩ := n.ok.ce _ _ hi
      exact tyV_list h1
    · cases h
  · cases h
theorem se_popAt (ha : SE K c E ta a) (hb : SE K c E tb b') : SE K c E (tBM K "list" rPopAt ta (tCons tb tNil)) (mPopAt a b') := fun τ μ m σ G H o Q h =>
  ha _ _ _ _ _ _ o _ (step h fun x μ1 v m1 G1 H1 n1 r1 h1 => by
    split at h1
    · rename_i hl
      refine ⟨lstC hl n1 r1, hb _ _ _ _ _ _ n1.ok _ (step (fromV n1 h1) fun y μ2 w m2 G2 H2 n2 r2 h2 => ?_)⟩
      have rx := r1.mono n2.sg n2.ag n2.le
      unfold popAt at h2
      split at h2
      · rename_i i n
        obtain ⟨_, rfl⟩ := rx
        split at h2
        · rename_i ds hi
          split at h2
          · rename_i hn
            split at h2
            · rename_i d hd
              obtain ⟨w', rfl⟩ : ∃ w : Nat, n = (w : Int) := ⟨n.toNat, by omega⟩
              rw [Int.toNat_natCast] at hd h2
              obtain ⟨vs, h3, h4⟩ := n2.ok.ce i _ hi
              obtain ⟨u, h5, h6⟩ := h4.get (ddL_get hd)
              have hw : w' < vs.length := (List.getElem?_eq_some_iff.mp h5).1
              refine ⟨_, vs, (w' : Nat), w', u, rfl, by rw [show w = V.int (w' : Nat) from r2], h3, by omega, by omega, (ixN_seq (by unfold ixN; rw [if_pos (by omega), if_pos (by omega)]; simp)).1, h5, h2 u m2 G2 _ (n2.setC hi (fun z => z) ⟨_, upd_same, by rw [ddL_erase]; exact h4.erase w'⟩) h6⟩
            · exact h2.elim
          · exact h2.elim
        · exact h2.elim
      · exact h2.elim
    · exact h1.elim)
theorem se_app (ha : SE K c E ta a) (hb : SE K c E tb b') : SE K c E (tBM K "list" rAppend ta (tCons tb tNil)) (mApp a b') := fun τ μ m σ G H o Q h =>
  ha _ _ _ _ _ _ o _ (step h fun x μ1 v m1 G1 H1 n1 r1 h1 => by
    split at h1
    · rename_i hl
      refine ⟨lstC hl n1 r1, hb _ _ _ _ _ _ n1.ok _ (step (fromV n1 h1) fun y μ2 w m2 G2 H2 n2 r2 h2 => ?_)⟩
      have rx := r1.mono n2.sg n2.ag n2.le
      unfold appC at h2
      split at h2
      · rename_i i
        obtain ⟨_, rfl⟩ := rx
        split at h2
        · rename_i ds hi
          split at h2
          · rename_i d
            split at h2
            · rename_i hz
              obtain ⟨vs, h3, h4⟩ := n2.ok.ce i _ hi
              refine ⟨_, vs, w, rfl, rfl, h3, by rw [h4.length, ddL_length]; exact sz_lt hz, h2 _ m2 G2 _ (n2.setC hi (fun z => z) ⟨_, upd_same, by rw [ddL_append]; exact h4.append (RepL.cons r2 rfl)⟩) rfl⟩
            · exact h2.elim
          · exact h2.elim
        · rename_i xs hi
          split at h2
          · rename_i hz
            obtain ⟨vs, h3, h4⟩ := n2.ok.ce i _ hi
            refine ⟨_, vs, w, rfl, rfl, h3, by rw [h4.length]; exact sz_lt hz.1, h2 _ m2 G2 _ (n2.setC hi (fun z => z) ⟨_, upd_same, h4.append (RVL.cons (r2.below y w hz.2) rfl)⟩) rfl⟩
          · exact h2.elim
        · exact h2.elim
      · exact h2.elim
    · exact h1.elim)
theorem se_clr (ha : SE K c E ta a) : SE K c E (tBM0 K "list" rClear ta) (mClr a) := fun τ μ m σ G H o Q h =>
  ha _ _ _ _ _ _ o _ (step h fun x μ1 v m1 G1 H1 n1 r1 h1 => by
    split at h1
    · rename_i i
      obtain ⟨hl, rfl⟩ := r1
      split at h1
      · rename_i ds hi
        obtain ⟨vs, h2, h3⟩ := n1.ok.ce i _ hi
        exact ⟨tyV_list h2, _, vs, rfl, rfl, h2, h1 _ m1 G1 _ (n1.setC hi (fun z => z) ⟨_, upd_same, rfl⟩) rfl⟩
      · rename_i ds hi
        obtain ⟨vs, h2, h3⟩ := n1.ok.ce i _ hi
        exact ⟨tyV_list h2, _, vs, rfl, rfl, h2, h1 _ m1 G1 _ (n1.setC hi (fun z => z) ⟨_, upd_same, rfl⟩) rfl⟩
      · exact h1.elim
    · exact h1.elim)
/-! ### tests -/
theorem st_B (ha : SE K c E ta a) : ST K c E (tB ta) (mB' a) := fun τ μ m σ G H o Q h =>
  ha _ _ _ _ _ _ o _ (step h fun x μ1 v m1 G1 H1 n1 r1 h1 => by
    obtain ⟨k, e, z⟩ := accO h1
    cases isBl_inv e
    exact ⟨k, r1, z _ _ _ _ n1 rfl⟩)
theorem st_test (ha : SE K c E ta a) : ST K c E (tTest ta) (mB' a) := fun τ μ m σ G H o Q h => st_B ha τ μ m σ G H o Q h
theorem st_yes : ST K c E tYes mYes := fun τ μ m σ G H o Q h => h true m G H (Nx.self o) rfl
theorem st_and (ha : ST K c E tt p) (hb : ST K c E tu q) : ST K c E (tAnd tt tu) (mAnd p q) := fun τ μ m σ G H o Q h =>
  ha _ _ _ _ _ _ o _ (step h fun x μ1 v m1 G1 H1 n1 r1 h1 => by
    cases r1
    cases x with
    | true => exact hb _ _ _ _ _ _ n1.ok _ (fromV n1 h1)
    | false => exact h1 _ _ _ _ n1 rfl)
theorem st_or (ha : ST K c E tt p) (hb : ST K c E tu q) : ST K c E (tOr tt tu) (mOr p q) := fun τ μ m σ G H o Q h =>
  ha _ _ _ _ _ _ o _ (step h fun x μ1 v m1 G1 H1 n1 r1 h1 => by
    cases r1
    cases x with
    | false => exact hb _ _ _ _ _ _ n1.ok _ (fromV n1 h1)
    | true => exact h1 _ _ _ _ n1 rfl)
theorem st_not (ha : ST K c E tt p) : ST K c E (tNot tt) (mNot p) := fun τ μ m σ G H o Q h =>
  ha _ _ _ _ _ _ o _ (step h fun x μ1 v m1 G1 H1 n1 r1 h1 => by
    cases r1
    exact h1 _ _ _ _ n1 rfl)
end
end Y
set_option Elab.async false
set_option linter.all false
set_option maxRecDepth 100000
/-! A6: promises and calls. -/
namespace Y
open PySem PySem.Spec PyProof.Rows L2 Z
structure SpecA where
  K : PySem.W.Frag
  s : Sem
structure BOk (K : PySem.W.Frag) (μ : Mu) (m : Nat → Addr) (G H : Hp) (μ' : Mu) (m' : Nat → Addr) (G' H' : Hp) : Prop where
  ex : Same G' H'
  tu : Tu G' H'
  fr : FrY (fun a => ∃ i, i < μ.length ∧ a = m i) G H G' H'
  ag : Ag μ.length m m'
  le : μ.length ≤ μ'.length
  ce : ∀ (i : Nat) (cl : Cl), μ'[i]? = some cl → RC K G' H' m' i cl
  sp : ∀ i, i < μ'.length → G' (m' i) = none ∧ H' (m' i) ≠ none ∧ (i < μ.length ∨ H (m' i) = none)
  inj : ∀ i j, i < μ'.length → j < μ'.length → m' i = m' j → i = j
def BX (K : PySem.W.Frag) (μ : Mu) (m : Nat → Addr) (G H : Hp) (E : XK) : Exc → Mu → Prop := fun e μ' => ∀ d ws m' G' H', BOk K μ m G H μ' m' G' H' → H' d = some (.xd ((e.ns.map Str.ofString).zip ws)) → e.ns.length = ws.length → Z.RepL G' (ddL K e.xs) ws → E (.ref (He.ga K (Str.ofString e.c))) (some d) H'
def BV (K : PySem.W.Frag) (μ : Mu) (m : Nat → Addr) (G H : Hp) (Q : VK) : Vx → Mu → Prop := fun x μ' => ∀ v m' G' H', BOk K μ m G H μ' m' G' H' → RV K G' m' μ'.length x v → Q v H'
def cfgB (μ : Mu) (m : Nat → Addr) (G H : Hp) : Cfg := ⟨μ.length, m, G, H, []⟩
def FP (S : SpecA) : Sp := fun vs H Q E => ∃ (G : Hp) (m : Nat → Addr) (as : List Vx) (μ : Mu), Ok S.K (cfgB μ m G H) (as.map some) μ m (vs.map some) G H ∧ AccP (BX S.K μ m G H E) (BV S.K μ m G H Q) (S.s as μ)
structure FO (P : Program) (w : World) (K : PySem.W.Frag) (mg : Str → Option Value) (k : Nat) (p : Str × Option Str) (ps : List Str) (S : SpecA) : Prop where
  ex : ∃ fd, PySem.W.keepIn K (.ref (He.fAd K p)) = true ∧ Binds K fd ps [] ∧ ∀ base, FnOk P w K mg base (CXZ P w) k (He.fAd K p) fd ps (FP S)
section
variable {K : PySem.W.Frag} {c : Cfg} {E : XK} {te ta tb tc : TE} {a b' e : ME} {t : TA} {u : MA} {i j : Nat} {b : Bs} {μ μ' : Mu} {m m' : Nat → Addr} {G H G' H' : Hp} {τ : Ls} {σ : L2.St}
theorem Nx.back (n : Nx K b μ m G H) (B : BOk K μ m G H μ' m' G' H') : Nx K b μ' m' G' H' where
  ok := {
    ex := B.ex
    tu := B.tu
    fr := n.ok.fr.trans B.fr fun a z => by
      obtain ⟨i, hi, rfl⟩ := z
      rcases (n.ok.sp i hi).2.2 with ⟨h1, h2⟩ | ⟨_, h2⟩
      · exact .inl (.inl ⟨i, h1, h2⟩)
      · exact .inr h2
    len := n.ok.len
    sl := fun i x h => by
      obtain ⟨v, h1, h2⟩ := n.ok.sl i x h
      exact ⟨v, h1, h2.mono B.fr.g B.ag B.le⟩
    ce := B.ce
    sp := fun i hi => by
      obtain ⟨h1, h2, h3⟩ := B.sp i hi
      refine ⟨h1, h2, ?_⟩
      by_cases hl : i < μ.length
      · rw [B.ag i hl]
        exact (n.ok.sp i hl).2.2
      · rcases h3 with h3 | h3
        · exact absurd h3 hl
        · exact .inr ⟨by have := n.ok.low; omega, n.ok.new0 h3⟩
    inj := B.inj
    low := Nat.le_trans n.ok.low B.le
    tb := fun q hq => by
      obtain ⟨ps, t1, t2, t3⟩ := n.ok.tb q hq
      refine ⟨ps, B.fr.h _ _ t1 (fun ⟨i, hi, e⟩ => n.ok.ne_tab hq hi e.symm), t2, fun pos cv hc => ?_⟩
      obtain ⟨cc, e1, e2⟩ := t3 pos cv hc
      refine ⟨cc, e1, B.fr.h _ _ e2 fun ⟨i, hi, e⟩ => ?_⟩
      obtain ⟨cl, hcl⟩ : ∃ cl, μ[i]? = some cl := ⟨_, List.getElem?_eq_getElem hi⟩
      obtain ⟨w, h1, h2, _⟩ := (n.ok.ce i cl hcl).at
      rw [e, h1] at e2
      exact h2 _ (Option.some.inj e2)
    tg := fun q hq => by
      obtain ⟨h1, h2, h3⟩ := n.ok.tg q hq
      exact ⟨B.fr.n _ h1 (n.ok.fr.t _ h2), h2, h3⟩ }
  ag := n.ag.trans B.ag n.le
  le := Nat.le_trans n.le B.le
  fr := n.fr.trans B.fr fun a z => by
    obtain ⟨i, hi, rfl⟩ := z
    by_cases h : i < b.n
    · exact .inl (.inl ⟨i, h, n.ag i h⟩)
    · exact .inr (n.nw i (by omega) hi)
  nw := fun i h1 h2 => by
    by_cases hl : i < μ.length
    · rw [B.ag i hl]; exact n.nw i h1 hl
    · rcases (B.sp i h2).2.2 with h3 | h3
      · exact absurd h3 hl
      · cases z : b.H (m' i) with
        | none => rfl
        | some w => exact absurd h3 (n.fr.t _ (ne_none z))
theorem Ok.call (o : Ok K c τ μ m σ G H) {as : List Vx} {vs : List V} (r : RVL K G m μ.length as vs) : Ok K (cfgB μ m G H) (as.map some) μ m (vs.map some) G H where
  ex := o.ex
  tu := o.tu
  fr := FrY.refl
  len := by rw [List.length_map, List.length_map, r.length]
  sl := fun i x h => by
    rw [List.getElem?_map] at h
    cases z : as[i]? with
    | none => rw [z] at h; cases h
    | some y =>
      rw [z] at h
      cases h
      obtain ⟨v, h1, h2⟩ := r.get z
      exact ⟨v, by rw [List.getElem?_map, h1]; rfl, h2⟩
  ce := o.ce
  sp := fun i hi => ⟨(o.sp i hi).1, (o.sp i hi).2.1, .inl ⟨hi, rfl⟩⟩
  inj := o.inj
  low := Nat.le_refl _
  tb := fun _ h => nomatch h
  tg := fun _ h => nomatch h
theorem call_run {S : Sem} {Q : VK} {as : List Vx} {vs : List V} (n : Nx K b μ m G H) (r : RVL K G m μ.length as vs) (h : AccP (XP K b E) (VP (RVr K) K b Q) (S as μ)) : FP ⟨K, S⟩ vs H Q E :=
  ⟨G, m, as, μ, n.ok.call r, h.imp (fun e μ' z d ws m' G' H' B h1 h2 h3 => z d ws m' G' H' (n.back B) h1 h2 h3) fun x μ' z v m' G' H' B h1 => z v m' G' H' (n.back B) h1⟩
theorem se_call {S : Sem} (ht : SA K c E t u) : SE K c E (tCall (FP ⟨K, S⟩) [] E t) (mCall S u) := fun τ μ m σ G H o Q h =>
  ht _ _ _ _ _ _ o _ (step h fun xs μ1 vs m1 G1 H1 n1 r1 h1 => by
    rw [List.append_nil]
    exact call_run n1 r1 h1)
theorem elem_str {ns : List String} {m : String} (h : ns.contains m = false) : (ns.map Str.ofString).elem (Str.ofString m) = false := by
  cases z : (ns.map Str.ofString).elem (Str.ofString m) with
  | false => rfl
  | true =>
    have z1 : Str.ofString m ∈ ns.map Str.ofString := List.mem_of_elem_eq_true z
    obtain ⟨x, h1, h2⟩ := List.mem_map.mp z1
    rw [str_inj h2] at h1
    rw [List.contains_iff_mem.mpr h1] at h
    cases h
theorem se_meth {n f : String} {S : Sem} (ha : SE K c E ta a) (ht : SA K c E t u) : SE K c E (tMeth (He.ga K (Str.ofString n)) (Str.ofString f) (FP ⟨K, S⟩) [] E ta t) (mMeth n f S a u) := fun τ μ m σ G H o Q h =>
  ha _ _ _ _ _ _ o _ (step h fun x μ1 v m1 G1 H1 n1 r1 h1 => by
    split at h1
    · rename_i hi
      have hx : ∃ p dx fs, v = V.ref p ∧ H1 p = some (.ins (He.ga K (Str.ofString n)) dx fs) ∧ fs.lookup (Str.ofString f) = none := by
        unfold isInst at hi
        split at hi
        · rw [Bool.and_eq_true] at hi
          have hc := of_decide_eq_true hi.1
          subst hc
          obtain ⟨p, dx, vs, rfl, h2, _⟩ := r1
          exact ⟨p, dx, _, rfl, n1.ok.ex _ _ h2, zip_none (elem_str (by simpa using hi.2))⟩
        · obtain ⟨_, rfl⟩ := r1
          split at hi
          · rename_i hj
            rw [Bool.and_eq_true] at hi
            have hc := of_decide_eq_true hi.1
            subst hc
            obtain ⟨dx, vs, h2, _⟩ := n1.ok.ce _ _ hj
            exact ⟨_, dx, _, rfl, h2, zip_none (elem_str (by simpa using hi.2))⟩
          · cases hi
        · cases hi
      obtain ⟨p, dx, fs, hv, h2, h3⟩ := hx
      refine ⟨p, dx, fs, hv, h2, h3, ht _ _ _ _ _ _ n1.ok _ (step (fromV n1 h1) fun xs μ2 vs m2 G2 H2 n2 r2 h4 => ?_)⟩
      rw [List.append_nil]
      exact call_run n2 (RVL.cons (r1.mono n2.sg n2.ag n2.le) r2) h4
    · exact h1.elim)
/-- the topmost cell is given up: it is data from here on -/
theorem Nx.cut (x : Nx K b μ m G H) {μ1 : Mu} {m1 : Nat → Addr} {G1 H1 : Hp} (y : Nx K (b.to μ m G H) μ1 m1 G1 H1) : Nx K b (μ1.take μ.length) m1 (frzG μ1 m1 μ.length G1 H1) H1 where
  ok := by
    refine y.ok.cut (Nat.le_trans x.ok.low (Nat.le_refl _)) y.le x.ok.len fun i z h => ?_
    obtain ⟨v, h1, h2⟩ := x.ok.sl i z h
    exact ⟨v, h1, h2.mono y.sg y.ag (Nat.le_refl _)⟩
  ag := fun i hi => (y.ag i (Nat.lt_of_lt_of_le hi x.le)).trans (x.ag i hi)
  le := by
    rw [List.length_take]
    have := y.le
    have h1 : μ.length ≤ μ1.length := this
    have := x.le
    omega
  fr := by
    have f := (x.trans y).fr
    refine ⟨f.g.trans y.ok.frz_sub, f.h, fun a h q => y.ok.frz_none (f.n a h q) fun i h1 h2 e => ?_, f.t⟩
    have := (x.trans y).nw i (Nat.le_trans x.le h1) h2
    rw [e] at this
    exact q this
  nw := fun i h1 h2 => by
    rw [List.length_take] at h2
    exact (x.trans y).nw i h1 (by omega)
theorem se_make {n : String} {S : Sem} (ht : SA K c E t u) : SE K c E (tMake (He.ga K (Str.ofString n)) (FP ⟨K, S⟩) [] E t) (mMake n S u) := fun τ μ m σ G H o Q h =>
  ht _ _ _ _ _ _ o _ (step h fun xs μ1 vs m1 G1 H1 n1 r1 h1 => by
    intro x dx hx hdx hne
    rw [List.append_nil]
    have n1' := n1.side (u := .own x) hdx (fun z => z)
    have n2 := Nx.self n1'.ok
    have hx2 : upd H1 dx (.own x) x = none := by rw [upd_ne (fun e => hne e.symm)]; exact hx
    have n3 := n2.alloc (u := .ins (He.ga K (Str.ofString n)) dx []) (cl := .ins n [] []) hx2 (fun z => z) ⟨dx, [], by rw [upN_same, upd_same]; rfl, rfl, rfl⟩
    have hl : (μ1 ++ [Cl.ins n [] []]).length = μ1.length + 1 := by rw [List.length_append]; rfl
    have rx : RV K G1 (upN m1 μ1.length x) (μ1 ++ [Cl.ins n [] []]).length (.ref μ1.length) (.ref x) := ⟨by rw [hl]; omega, by rw [upN_same]⟩
    refine call_run (Nx.self n3.ok) (RVL.cons rx (r1.mono (Same.refl _) upN_ag (by omega))) ?_
    unfold mkNew at h1
    cases z : S (.ref μ1.length :: xs) (μ1 ++ [Cl.ins n [] []]) with
    | no => rw [z] at h1; exact h1.elim
    | ex e μ2 =>
      rw [z] at h1
      refine fun d ws m' G' H' nn k1 k2 k3 => ?_
      have cc := n1'.cut (n3.trans nn)
      exact h1 d ws m' _ H' cc k1 k2 (k3.mono nn.ok.frz_sub _ _)
    | v r μ2 =>
      rw [z] at h1
      intro v m' G' H' nn rr
      dsimp only at h1
      unfold madeO at h1
      split at h1
      · split at h1
        · split at h1
          · rename_i ns ds hi hc
            obtain ⟨rfl, hlen⟩ := hc
            have cc := n1'.cut (n3.trans nn)
            have em : m' μ1.length = x := by
              have := nn.ag μ1.length (by show μ1.length < (μ1 ++ [_]).length; rw [List.length_append]; exact Nat.lt_succ_self _)
              rw [this]
              exact upN_same
            obtain ⟨dx', ws, k1, k2, k3⟩ := nn.ok.ce _ _ hi
            refine ⟨rr, h1 (.ref x) m' _ H' cc ?_⟩
            rw [em] at k1
            refine ⟨x, dx', ws, rfl, ?_, by rw [List.length_map]; exact k2, k3.mono nn.ok.frz_sub _ _⟩
            rw [← em, frz_at (Nat.le_refl _) hi, em]
            exact k1
          · exact h1.elim
        · exact h1.elim
      · exact h1.elim)
/-! ### own ==, !=, len, repr -/
theorem rvl_nil {n : Nat} : RVL K G m n [] [] := rfl
theorem isObj_inv {n : String} {x : Vx} {d : D} (h : isObj n x = some d) : ∃ ns xs, x = .dat (.obj n ns xs) ∧ d = .obj n ns xs := by
  unfold isObj at h
  split at h
  · split at h <;> cases h
    rename_i hc
    subst hc
    exact ⟨_, _, rfl, rfl⟩
  · cases h
theorem ownEq_run {n : String} {neg : Bool} {S : Sem} {x y : Vx} {v w : V} {Q : VK} (hk : PySem.W.subIn K (.type "tuple") (.ref (He.ga K (Str.ofString n))) = some false) (nx : Nx K b μ m G H) (r1 : RV K G m μ.length x v) (r2 : RV K G m μ.length y w)
    (h : AccP (XP K b E) (VP (RVr K) K b Q) (ownEq neg n S x y μ)) : ∃ p dx fs, v = .ref p ∧ H p = some (.ins (He.ga K (Str.ofString n)) dx fs) ∧ TyR K (He.ga K (Str.ofString n)) H w ∧
      FP ⟨K, S⟩ [v, w] H (fun v H' => ∃ i : Bool, v = .bl i ∧ Q (.bl (if neg = true then !i else i)) H') E := by
  unfold ownEq at h
  split at h
  · rename_i d e hd
    split at h
    · rename_i he
      obtain ⟨ns, xs, rfl, rfl⟩ := isObj_inv hd
      obtain ⟨p, dx, vs, rfl, h2, h3⟩ := id r1
      refine ⟨p, dx, _, rfl, nx.ok.ex _ _ h2, ?_, ?_⟩
      · unfold eqKind at he
        split at he
        · have hc := of_decide_eq_true he
          subst hc
          exact tyr_obj (Z.Rep.mono nx.ok.ex _ _ r2)
        · obtain ⟨q, ws, rfl, h5, _⟩ := r2
          exact .tup (rd_mono nx.ok.ex h5) hk
        · cases he
      · refine call_run nx (RVL.cons r1 (RVL.cons r2 rvl_nil)) (step (R1 := RVr K) h fun r μ1 v1 m1 G1 H1 n1 r3 h1 => ?_)
        cases z : isBl r with
        | none => rw [z] at h1; exact h1.elim
        | some kk =>
          rw [z] at h1
          cases isBl_inv z
          exact ⟨kk, r3, h1 _ _ _ _ n1 rfl⟩
    · exact h.elim
  · exact h.elim
theorem se_ownEq {n : String} {S : Sem} (hk : PySem.W.subIn K (.type "tuple") (.ref (He.ga K (Str.ofString n))) = some false) (ha : SE K c E ta a) (hb : SE K c E tb b') : SE K c E (tOp (rOwnEq K (He.ga K (Str.ofString n)) (FP ⟨K, S⟩) E) ta tb) (mOwnEq false n S a b') := fun τ μ m σ G H o Q h =>
  ha _ _ _ _ _ _ o _ (step h fun x μ1 v m1 G1 H1 n1 r1 h1 => hb _ _ _ _ _ _ n1.ok _ (step (fromV n1 h1) fun y μ2 w m2 G2 H2 n2 r2 h2 => by
    obtain ⟨p, dx, fs, q1, q2, q3, q4⟩ := ownEq_run hk n2 (r1.mono n2.sg n2.ag n2.le) r2 h2
    exact ⟨p, dx, fs, q1, q2, q3, q4⟩))
theorem se_ownNe {n : String} {S : Sem} (hk : PySem.W.subIn K (.type "tuple") (.ref (He.ga K (Str.ofString n))) = some false) (ha : SE K c E ta a) (hb : SE K c E tb b') : SE K c E (tOp (rOwnNe K (He.ga K (Str.ofString n)) (FP ⟨K, S⟩) E) ta tb) (mOwnEq true n S a b') := fun τ μ m σ G H o Q h =>
  ha _ _ _ _ _ _ o _ (step h fun x μ1 v m1 G1 H1 n1 r1 h1 => hb _ _ _ _ _ _ n1.ok _ (step (fromV n1 h1) fun y μ2 w m2 G2 H2 n2 r2 h2 => by
    obtain ⟨p, dx, fs, q1, q2, q3, q4⟩ := ownEq_run hk n2 (r1.mono n2.sg n2.ag n2.le) r2 h2
    exact ⟨p, dx, fs, q1, q2, q3, q4⟩))
theorem se_ownLen {n : String} {S : Sem} (ha : SE K c E ta a) : SE K c E (tCB (rOwnLen (He.ga K (Str.ofString n)) (FP ⟨K, S⟩) E) (tCons ta tNil)) (mOwnLen n S a) := fun τ μ m σ G H o Q h =>
  ha _ _ _ _ _ _ o _ (step h fun x μ1 v m1 G1 H1 n1 r1 h1 => by
    cases z : isObj n x with
    | none => rw [z] at h1; exact h1.elim
    | some d =>
      rw [z] at h1
      obtain ⟨ns, xs, rfl, rfl⟩ := isObj_inv z
      obtain ⟨p, dx, vs, rfl, h2, h3⟩ := id r1
      refine ⟨p, dx, _, rfl, n1.ok.ex _ _ h2, call_run n1 (RVL.cons r1 rvl_nil) (step (R1 := RVr K) h1 fun r μ2 v2 m2 G2 H2 n2 r3 h4 => ?_)⟩
      cases z2 : isInt r with
      | none => rw [z2] at h4; exact h4.elim
      | some kk =>
        rw [z2] at h4
        cases isInt_inv z2
        dsimp only at h4
        by_cases hh : 0 ≤ kk ∧ kk ≤ 1000000
        · rw [if_pos hh] at h4
          exact ⟨kk, r3, ⟨hh.1, by omega⟩, h4 _ _ _ _ n2 rfl⟩
        · rw [if_neg hh] at h4; exact h4.elim)
theorem se_ownRepr {n : String} {S : Sem} (ha : SE K c E ta a) : SE K c E (tCB (rOwnRepr (He.ga K (Str.ofString n)) (FP ⟨K, S⟩) E) (tCons ta tNil)) (mOwnRepr n S a) := fun τ μ m σ G H o Q h =>
  ha _ _ _ _ _ _ o _ (step h fun x μ1 v m1 G1 H1 n1 r1 h1 => by
    cases z : isObj n x with
    | none => rw [z] at h1; exact h1.elim
    | some d =>
      rw [z] at h1
      obtain ⟨ns, xs, rfl, rfl⟩ := isObj_inv z
      obtain ⟨p, dx, vs, rfl, h2, h3⟩ := id r1
      refine ⟨p, dx, _, rfl, n1.ok.ex _ _ h2, call_run n1 (RVL.cons r1 rvl_nil) (step (R1 := RVr K) h1 fun r μ2 v2 m2 G2 H2 n2 r3 h4 => ?_)⟩
      cases z2 : isStr r with
      | none => rw [z2] at h4; exact h4.elim
      | some kk =>
        rw [z2] at h4
        cases isStr_inv z2
        exact ⟨kk, r3, h4 _ _ _ _ n2 rfl⟩)
end
end Y
set_option Elab.async false
set_option linter.all false
set_option maxRecDepth 100000
/-! A7: what is walked, targets, comprehensions. -/
namespace Y
open PySem PySem.Spec PyProof.Rows L2 Z
def Bs.lo (b : Bs) (τ : Ls) (σ : L2.St) : Bs := ⟨b.c, τ, b.m, b.n, σ, b.G, b.H⟩
def IY (K : PySem.W.Frag) (G : Hp) (m : Nat → Addr) (n : Nat) (H : Hp) (x : V) (H' : Hp) : It1 → Prop
  | .one t => H' = H ∧ RV K G m n t x
  | .two t u => ∃ T y z, x = V.ref T ∧ H T = none ∧ H' = upd H T (.tup [y, z]) ∧ RV K G m n t y ∧ RV K G m n u z
structure WkY (K : PySem.W.Frag) (b : Bs) (s : Src) (J : It) : Prop where
  stop : ∀ k τ σ μ m G H, Nx K (b.lo τ σ) μ m G H → srcAt s μ k = some none → J.stop k H
  go : ∀ k τ σ μ m G H it, Nx K (b.lo τ σ) μ m G H → srcAt s μ k = some (some it) → J.go k H
  yl : ∀ k τ σ μ m G H it x H', Nx K (b.lo τ σ) μ m G H → srcAt s μ k = some (some it) → J.yld k H x H' → IY K G m μ.length H x H' it
def IP (K : PySem.W.Frag) (b : Bs) (R : It → Hp → Prop) : Src → Mu → Prop := fun s μ => ∀ J m G H, Nx K b μ m G H → WkY K (b.to μ m G H) s J → R J H
def SI (K : PySem.W.Frag) (c : Cfg) (E : XK) (wi : TI) (i : MI) : Prop := ∀ τ μ m σ G H, Ok K c τ μ m σ G H → ∀ R : It → Hp → Prop, AccP (XP K ⟨c, τ, m, μ.length, σ, G, H⟩ E) (IP K ⟨c, τ, m, μ.length, σ, G, H⟩ R) (i τ μ) → wi σ H R
/-- a row at an address -/
def RowOk (K : PySem.W.Frag) (b : Bs) (r : Rw) (p : Addr) (l : Bool) : Prop := ∀ τ σ μ m G H, Nx K (b.lo τ σ) μ m G H → ∀ k o, rwAt r μ k = some o → ∃ vs, (if l = true then H p = some (.lst vs) else Rd H p (.tup vs)) ∧
  match o with
  | none => vs.length ≤ k
  | some x => ∃ v, vs[k]? = some v ∧ RV K G m μ.length x v
section
variable {K : PySem.W.Frag} {c : Cfg} {E : XK} {te ta tb tc : TE} {a b' e : ME} {t : TA} {u : MA} {i j : Nat} {b : Bs} {μ μ' : Mu} {m m' : Nat → Addr} {G H G' H' : Hp} {τ : Ls} {σ : L2.St}
theorem row_st {r : Bool} {p : Addr} {xs : List Vx} {vs : List V} {n : Nat} (h : if r = true then b.G p = some (.lst vs) else Rd b.G p (.tup vs)) (hx : RVL K b.G b.m b.n xs vs) : RowOk K b (.st xs) p r := fun τ σ μ m G H n k o ho => by
  cases ho
  refine ⟨vs, ?_, ?_⟩
  · cases r with
    | true => exact n.ok.ex _ _ (n.sg _ _ h)
    | false => exact rd_mono n.ok.ex (rd_mono n.sg h)
  · cases z : xs[k]? with
    | none =>
      have := List.getElem?_eq_none_iff.mp z
      show vs.length ≤ k
      rw [hx.length]; exact this
    | some x =>
      obtain ⟨v, h1, h2⟩ := hx.get z
      exact ⟨v, h1, h2.mono n.sg n.ag n.le⟩
theorem dat_rvl {G : Hp} {m : Nat → Addr} {n : Nat} : ∀ {ds : List D} {vs : List V}, Z.RepL G (ddL K ds) vs → RVL K G m n (ds.map Vx.dat) vs
  | [], _, h => h
  | d :: ds, _, h => by
    obtain ⟨v, r, rfl, h2, h3⟩ := h
    exact ⟨v, r, rfl, h2, dat_rvl h3⟩
/-- the row of a value -/
theorem row_of {x : Vx} {v : V} {r : Rw} (h : rowOf μ x = some r) (n : Nx K b μ m G H) (rx : RV K G m μ.length x v) : ∃ p vs, v = V.ref p ∧ (if lstV x = true then H p = some (.lst vs) else Rd H p (.tup vs)) ∧ RowOk K (b.to μ m G H) r p (lstV x) := by
  unfold rowOf at h
  split at h
  · cases h
    obtain ⟨p, vs, rfl, h1, h2⟩ := rx
    exact ⟨p, vs, rfl, n.ok.ex _ _ h1, row_st (n := 0) (r := true) (vs := vs) h1 (dat_rvl h2)⟩
  · cases h
    obtain ⟨p, vs, rfl, h1, h2⟩ := rx
    exact ⟨p, vs, rfl, rd_mono n.ok.ex h1, row_st (n := 0) (r := false) (vs := vs) h1 (dat_rvl h2)⟩
  · cases h
    obtain ⟨p, vs, rfl, h1, h2⟩ := tpl_tup rx
    exact ⟨p, vs, rfl, rd_mono n.ok.ex h1, row_st (n := 0) (r := false) (vs := vs) h1 (dat_rvl h2)⟩
  · cases h
    obtain ⟨p, vs, rfl, h1, h2⟩ := rx
    exact ⟨p, vs, rfl, rd_mono n.ok.ex h1, row_st (n := 0) (r := false) (vs := vs) h1 h2⟩
  · rename_i i
    obtain ⟨hi0, rfl⟩ := rx
    have li : RowOk K (b.to μ m G H) (.li i) (m i) true := fun τ σ μ2 m2 G2 H2 n2 k o ho => by
      have e : m2 i = m i := n2.ag i hi0
      unfold rwAt at ho
      dsimp only at ho
      split at ho
      · rename_i ds hi
        cases ho
        obtain ⟨vs, h1, h2⟩ := n2.ok.ce i _ hi
        rw [e] at h1
        refine ⟨vs, h1, ?_⟩
        cases z : ds[k]? with
        | none =>
          have := List.getElem?_eq_none_iff.mp z
          show vs.length ≤ k
          rw [h2.length, ddL_length]; exact this
        | some d =>
          obtain ⟨v, h3, h4⟩ := h2.get (ddL_get z)
          exact ⟨v, h3, h4⟩
      · rename_i xs hi
        cases ho
        obtain ⟨vs, h1, h2⟩ := n2.ok.ce i _ hi
        rw [e] at h1
        refine ⟨vs, h1, ?_⟩
        cases z : xs[k]? with
        | none =>
          have := List.getElem?_eq_none_iff.mp z
          show vs.length ≤ k
          rw [h2.length]; exact this
        | some d =>
          obtain ⟨v, h3, h4⟩ := h2.get z
          have hl := (List.getElem?_eq_some_iff.mp hi).1
          exact ⟨v, h3, h4.mono (Same.refl _) Ag.refl (by omega)⟩
      · cases ho
    split at h <;> cases h
    · rename_i hi
      obtain ⟨vs, h1, _⟩ := n.ok.ce i _ hi
      exact ⟨_, vs, rfl, h1, li⟩
    · rename_i hi
      obtain ⟨vs, h1, _⟩ := n.ok.ce i _ hi
      exact ⟨_, vs, rfl, h1, li⟩
  · cases h
theorem wk_sq {r : Rw} {p : Addr} (h : RowOk K b r p true) : WkY K b (.sq r) (Itl K p) where
  stop := fun k τ σ μ m G H n e => by
    unfold srcAt at e
    dsimp only at e
    split at e <;> cases e
    obtain ⟨vs, h1, h2⟩ := h τ σ μ m G H n k _ (by assumption)
    exact ⟨vs, SqL.of h1, h2⟩
  go := fun k τ σ μ m G H it n e => by
    unfold srcAt at e
    dsimp only at e
    split at e <;> cases e
    obtain ⟨vs, h1, v, h2, _⟩ := h τ σ μ m G H n k _ (by assumption)
    exact ⟨vs, v, SqL.of h1, h2⟩
  yl := fun k τ σ μ m G H it x H' n e y => by
    unfold srcAt at e
    dsimp only at e
    split at e <;> cases e
    obtain ⟨vs, h1, v, h2, h3⟩ := h τ σ μ m G H n k _ (by assumption)
    obtain ⟨rfl, y2⟩ := y
    have := y2 vs (SqL.of h1)
    rw [h2] at this
    cases this
    exact ⟨rfl, h3⟩
theorem wk_sqT {r : Rw} {p : Addr} (h : RowOk K b r p false) : WkY K b (.sq r) (Itt K p) where
  stop := fun k τ σ μ m G H n e => by
    unfold srcAt at e
    dsimp only at e
    split at e <;> cases e
    obtain ⟨vs, h1, h2⟩ := h τ σ μ m G H n k _ (by assumption)
    exact ⟨vs, .inl h1, h2⟩
  go := fun k τ σ μ m G H it n e => by
    unfold srcAt at e
    dsimp only at e
    split at e <;> cases e
    obtain ⟨vs, h1, v, h2, _⟩ := h τ σ μ m G H n k _ (by assumption)
    exact ⟨vs, v, .inl h1, h2⟩
  yl := fun k τ σ μ m G H it x H' n e y => by
    unfold srcAt at e
    dsimp only at e
    split at e <;> cases e
    obtain ⟨vs, h1, v, h2, h3⟩ := h τ σ μ m G H n k _ (by assumption)
    obtain ⟨rfl, y2⟩ := y
    have := y2 vs (.inl h1)
    rw [h2] at this
    cases this
    exact ⟨rfl, h3⟩
theorem wk_en {r : Rw} {p : Addr} (h : RowOk K b r p true) : WkY K b (.en r) (Ite K p) where
  stop := fun k τ σ μ m G H n e => by
    unfold srcAt at e
    dsimp only at e
    split at e <;> cases e
    obtain ⟨vs, h1, h2⟩ := h τ σ μ m G H n k _ (by assumption)
    exact ⟨vs, SqL.of h1, h2⟩
  go := fun k τ σ μ m G H it n e => by
    unfold srcAt at e
    dsimp only at e
    split at e <;> cases e
    obtain ⟨vs, h1, v, h2, _⟩ := h τ σ μ m G H n k _ (by assumption)
    exact ⟨vs, v, SqL.of h1, h2⟩
  yl := fun k τ σ μ m G H it x H' n e y => by
    unfold srcAt at e
    dsimp only at e
    split at e <;> cases e
    obtain ⟨vs, h1, v, h2, h3⟩ := h τ σ μ m G H n k _ (by assumption)
    obtain ⟨T, z, rfl, hT, rfl, y2⟩ := y
    have := y2 vs (SqL.of h1)
    rw [h2] at this
    cases this
    exact ⟨T, _, _, rfl, hT, rfl, rfl, h3⟩
theorem wk_enT {r : Rw} {p : Addr} (h : RowOk K b r p false) : WkY K b (.en r) (IteT K p) where
  stop := fun k τ σ μ m G H n e => by
    unfold srcAt at e
    dsimp only at e
    split at e <;> cases e
    obtain ⟨vs, h1, h2⟩ := h τ σ μ m G H n k _ (by assumption)
    exact ⟨vs, .inl h1, h2⟩
  go := fun k τ σ μ m G H it n e => by
    unfold srcAt at e
    dsimp only at e
    split at e <;> cases e
    obtain ⟨vs, h1, v, h2, _⟩ := h τ σ μ m G H n k _ (by assumption)
    exact ⟨vs, v, .inl h1, h2⟩
  yl := fun k τ σ μ m G H it x H' n e y => by
    unfold srcAt at e
    dsimp only at e
    split at e <;> cases e
    obtain ⟨vs, h1, v, h2, h3⟩ := h τ σ μ m G H n k _ (by assumption)
    obtain ⟨T, z, rfl, hT, rfl, y2⟩ := y
    have := y2 vs (.inl h1)
    rw [h2] at this
    cases this
    exact ⟨T, _, _, rfl, hT, rfl, rfl, h3⟩
/-- what two rows say -/
theorem zp_stop {r s : Rw} {p q : Addr} {l : Bool} (h1 : RowOk K b r p l) (h2 : RowOk K b s q l) {k : Nat} (n : Nx K (b.lo τ σ) μ m G H) (e : srcAt (.zp r s) μ k = some none) :
    ∃ vs ws, (if l = true then H p = some (.lst vs) else Rd H p (.tup vs)) ∧ (if l = true then H q = some (.lst ws) else Rd H q (.tup ws)) ∧ (vs.length ≤ k ∨ ws.length ≤ k) := by
  unfold srcAt at e
  dsimp only at e
  split at e
  · cases e
  · obtain ⟨vs, a1, v, a2, a3⟩ := h1 τ σ μ m G H n k _ (by assumption)
    obtain ⟨ws, b1, b2⟩ := h2 τ σ μ m G H n k _ (by assumption)
    exact ⟨vs, ws, a1, b1, .inr b2⟩
  · obtain ⟨vs, a1, a2⟩ := h1 τ σ μ m G H n k _ (by assumption)
    obtain ⟨ws, b1, b2⟩ := h2 τ σ μ m G H n k _ (by assumption)
    exact ⟨vs, ws, a1, b1, .inl a2⟩
  · cases e
theorem zp_at {r s : Rw} {p q : Addr} {l : Bool} (h1 : RowOk K b r p l) (h2 : RowOk K b s q l) {k : Nat} {it : It1} (n : Nx K (b.lo τ σ) μ m G H) (e : srcAt (.zp r s) μ k = some (some it)) :
    ∃ vs ws x y v w, it = .two x y ∧ (if l = true then H p = some (.lst vs) else Rd H p (.tup vs)) ∧ (if l = true then H q = some (.lst ws) else Rd H q (.tup ws)) ∧ vs[k]? = some v ∧ ws[k]? = some w ∧ RV K G m μ.length x v ∧ RV K G m μ.length y w := by
  unfold srcAt at e
  dsimp only at e
  split at e
  · cases e
    obtain ⟨vs, a1, v, a2, a3⟩ := h1 τ σ μ m G H n k _ (by assumption)
    obtain ⟨ws, b1, w, b2, b3⟩ := h2 τ σ μ m G H n k _ (by assumption)
    exact ⟨vs, ws, _, _, v, w, rfl, a1, b1, a2, b2, a3, b3⟩
  · cases e
  · cases e
  · cases e
theorem wk_zp {r s : Rw} {p q : Addr} (h1 : RowOk K b r p true) (h2 : RowOk K b s q true) : WkY K b (.zp r s) (Itz K p q) where
  stop := fun k τ σ μ m G H n e => by
    obtain ⟨vs, ws, a1, a2, a3⟩ := zp_stop h1 h2 n e
    refine ⟨vs, ws, SqL.of a1, SqL.of a2, ?_⟩
    omega
  go := fun k τ σ μ m G H it n e => by
    obtain ⟨vs, ws, x, y, v, w, rfl, a1, a2, a3, a4, _⟩ := zp_at h1 h2 n e
    exact ⟨vs, ws, v, w, SqL.of a1, SqL.of a2, a3, a4⟩
  yl := fun k τ σ μ m G H it x H' n e yy => by
    obtain ⟨vs, ws, x, y, v, w, rfl, a1, a2, a3, a4, a5, a6⟩ := zp_at h1 h2 n e
    obtain ⟨T, x', z', y1, y2, y3, y4, y5⟩ := yy
    have e1 := y4 vs (SqL.of a1)
    rw [a3] at e1
    cases e1
    have e2 := y5 ws (SqL.of a2)
    rw [a4] at e2
    cases e2
    exact ⟨T, _, _, y1, y2, y3, a5, a6⟩
theorem wk_zpT {r s : Rw} {p q : Addr} (h1 : RowOk K b r p false) (h2 : RowOk K b s q false) : WkY K b (.zp r s) (RZ.ItzT K p q) where
  stop := fun k τ σ μ m G H n e => by
    obtain ⟨vs, ws, a1, a2, a3⟩ := zp_stop h1 h2 n e
    refine ⟨vs, ws, .inl a1, .inl a2, ?_⟩
    omega
  go := fun k τ σ μ m G H it n e => by
    obtain ⟨vs, ws, x, y, v, w, rfl, a1, a2, a3, a4, _⟩ := zp_at h1 h2 n e
    exact ⟨vs, ws, v, w, .inl a1, .inl a2, a3, a4⟩
  yl := fun k τ σ μ m G H it x H' n e yy => by
    obtain ⟨vs, ws, x, y, v, w, rfl, a1, a2, a3, a4, a5, a6⟩ := zp_at h1 h2 n e
    obtain ⟨T, x', z', y1, y2, y3, y4, y5⟩ := yy
    have e1 := y4 vs (.inl a1)
    rw [a3] at e1
    cases e1
    have e2 := y5 ws (.inl a2)
    rw [a4] at e2
    cases e2
    exact ⟨T, _, _, y1, y2, y3, a5, a6⟩
theorem si_seq (ha : SE K c E ta a) : SI K c E (iSeq K ta) (mSeqI a) := fun τ μ m σ G H o R h =>
  ha _ _ _ _ _ _ o _ (step h fun x μ1 v m1 G1 H1 n1 r1 h1 => by
    split at h1
    · rename_i r hr
      obtain ⟨p, vs, rfl, h2, h3⟩ := row_of hr n1 r1
      refine ⟨p, rfl, ?_⟩
      cases z : lstV x with
      | true => rw [z] at h2 h3; exact .inl ⟨⟨vs, SqL.of h2⟩, h1 _ _ _ _ n1 (wk_sq h3)⟩
      | false => rw [z] at h2 h3; exact .inr ⟨⟨vs, .inl h2⟩, h1 _ _ _ _ n1 (wk_sqT h3)⟩
    · exact h1.elim)
theorem rvl1 {G : Hp} {m : Nat → Addr} {n : Nat} {x : Vx} {vs : List V} (h : RVL K G m n [x] vs) : ∃ v, vs = [v] ∧ RV K G m n x v := by
  obtain ⟨v, r, rfl, h2, h3⟩ := h
  cases (show r = [] from h3)
  exact ⟨v, rfl, h2⟩
theorem rvl2 {G : Hp} {m : Nat → Addr} {n : Nat} {x y : Vx} {vs : List V} (h : RVL K G m n [x, y] vs) : ∃ v w, vs = [v, w] ∧ RV K G m n x v ∧ RV K G m n y w := by
  obtain ⟨v, r, rfl, h2, h3⟩ := h
  obtain ⟨w, rfl, h4⟩ := rvl1 h3
  exact ⟨v, w, rfl, h2, h4⟩
theorem si_enum (ht : SA K c E t u) : SI K c E (iEnumA K t) (mEnum u) := fun τ μ m σ G H o R h =>
  ht _ _ _ _ _ _ o _ (step h fun xs μ1 vs0 m1 G1 H1 n1 r1 h1 => by
    split at h1
    · rename_i x
      obtain ⟨v, rfl, rx⟩ := rvl1 r1
      split at h1
      · rename_i r hr
        obtain ⟨p, vs, rfl, h2, h3⟩ := row_of hr n1 rx
        refine ⟨p, vs, rfl, ?_⟩
        cases z : lstV x with
        | true => rw [z] at h2 h3; exact .inl ⟨SqL.of h2, h1 _ _ _ _ n1 (wk_en h3)⟩
        | false => rw [z] at h2 h3; exact .inr ⟨.inl h2, h1 _ _ _ _ n1 (wk_enT h3)⟩
      · exact h1.elim
    · exact h1.elim)
theorem si_zip (ht : SA K c E t u) : SI K c E (RZ.iZipA K t) (mZip u) := fun τ μ m σ G H o R h =>
  ht _ _ _ _ _ _ o _ (step h fun xs μ1 vs0 m1 G1 H1 n1 r1 h1 => by
    split at h1
    · rename_i x y
      obtain ⟨v, w, rfl, rx, ry⟩ := rvl2 r1
      split at h1
      · rename_i hl
        split at h1
        · rename_i r s hr hs
          obtain ⟨p, vs, rfl, h2, h3⟩ := row_of hr n1 rx
          obtain ⟨q, ws, rfl, h4, h5⟩ := row_of hs n1 ry
          refine ⟨p, q, vs, ws, rfl, ?_⟩
          rw [← hl] at h4 h5
          cases z : lstV x with
          | true => rw [z] at h2 h3 h4 h5; exact .inl ⟨SqL.of h2, SqL.of h4, h1 _ _ _ _ n1 (wk_zp h3 h5)⟩
          | false => rw [z] at h2 h3 h4 h5; exact .inr ⟨.inl h2, .inl h4, h1 _ _ _ _ n1 (wk_zpT h3 h5)⟩
        · exact h1.elim
      · exact h1.elim
    · exact h1.elim)
theorem wk_rng {lo : Int} {n : Nat} : WkY K b (.its (rngD lo n)) (Itr lo n) where
  stop := fun k τ σ μ m G H nx e => by
    have e : (rngD lo n)[k]? = none := Option.some.inj e
    have := List.getElem?_eq_none_iff.mp e
    show n ≤ k
    simpa [rngD] using this
  go := fun k τ σ μ m G H it nx e => by
    have e : (rngD lo n)[k]? = some it := Option.some.inj e
    have := (List.getElem?_eq_some_iff.mp e).1
    show k < n
    simpa [rngD] using this
  yl := fun k τ σ μ m G H it x H' nx e y => by
    have e : (rngD lo n)[k]? = some it := Option.some.inj e
    have hk : k < n := by simpa [rngD] using (List.getElem?_eq_some_iff.mp e).1
    unfold rngD at e
    rw [List.getElem?_map, List.getElem?_range hk] at e
    cases e
    obtain ⟨rfl, rfl⟩ := y
    exact ⟨rfl, rfl⟩
theorem wk_dwn {lo : Int} {n : Nat} : WkY K b (.its (dwnD lo n)) (Itc lo (-1) n) where
  stop := fun k τ σ μ m G H nx e => by
    have e : (dwnD lo n)[k]? = none := Option.some.inj e
    have := List.getElem?_eq_none_iff.mp e
    show n ≤ k
    simpa [dwnD] using this
  go := fun k τ σ μ m G H it nx e => by
    have e : (dwnD lo n)[k]? = some it := Option.some.inj e
    have := (List.getElem?_eq_some_iff.mp e).1
    show k < n
    simpa [dwnD] using this
  yl := fun k τ σ μ m G H it x H' nx e y => by
    have e : (dwnD lo n)[k]? = some it := Option.some.inj e
    have hk : k < n := by simpa [dwnD] using (List.getElem?_eq_some_iff.mp e).1
    unfold dwnD at e
    rw [List.getElem?_map, List.getElem?_range hk] at e
    cases e
    obtain ⟨rfl, rfl⟩ := y
    exact ⟨rfl, rfl⟩
theorem si_rng1 (ht : SA K c E t u) : SI K c E (iRng1 t) (mRng rng1 u) := fun τ μ m σ G H o R h =>
  ht _ _ _ _ _ _ o _ (step h fun xs μ1 vs0 m1 G1 H1 n1 r1 h1 => by
    split at h1
    · rename_i is hi
      unfold rng1 at hi
      split at hi
      · split at hi <;> cases hi
        obtain ⟨v, rfl, rx⟩ := rvl1 r1
        cases rx
        exact ⟨_, rfl, by omega, by omega, h1 _ _ _ _ n1 wk_rng⟩
      · cases hi
    · exact h1.elim)
theorem si_rng2 (ht : SA K c E t u) : SI K c E (iRng2 t) (mRng rng2 u) := fun τ μ m σ G H o R h =>
  ht _ _ _ _ _ _ o _ (step h fun xs μ1 vs0 m1 G1 H1 n1 r1 h1 => by
    split at h1
    · rename_i is hi
      unfold rng2 at hi
      split at hi
      · split at hi <;> cases hi
        obtain ⟨v, w, rfl, rx, ry⟩ := rvl2 r1
        cases rx; cases ry
        exact ⟨_, _, rfl, by omega, h1 _ _ _ _ n1 wk_rng⟩
      · cases hi
    · exact h1.elim)
theorem si_rng3 (ht : SA K c E t u) : SI K c E (iRng3 t) (mRng rng3 u) := fun τ μ m σ G H o R h =>
  ht _ _ _ _ _ _ o _ (step h fun xs μ1 vs0 m1 G1 H1 n1 r1 h1 => by
    split at h1
    · rename_i is hi
      unfold rng3 at hi
      split at hi
      · split at hi <;> cases hi
        rename_i hh
        obtain ⟨rfl, hh⟩ := hh
        obtain ⟨v, r, rfl, rx, r2⟩ := r1
        obtain ⟨w, z, rfl, ry, rz⟩ := rvl2 r2
        cases rx; cases ry; cases rz
        exact ⟨_, _, -1, _, rfl, RgC.neg (by omega) (by omega) (by omega) (by omega), h1 _ _ _ _ n1 wk_dwn⟩
      · cases hi
    · exact h1.elim)
end
end Y
set_option Elab.async false
set_option linter.all false
set_option maxRecDepth 100000
/-! A8: targets, comprehensions, statements, bodies. -/
namespace Y
open PySem PySem.Spec PyProof.Rows L2 Z
def SG (K : PySem.W.Frag) (c : Cfg) (g : TG) (mg : MG) : Prop := ∀ (b : Bs) x τ μ τ' μ', b.c = c → mg x τ μ = some (τ', μ') → ∀ m σ G H v, Nx K (b.lo τ σ) μ m G H → RV K G m μ.length x v → ∀ Q : L2.St → Hp → Prop, (∀ m' σ' G' H', Nx K (b.lo τ' σ') μ' m' G' H' → Q σ' H') → g v σ H Q
def SGI (K : PySem.W.Frag) (c : Cfg) (g : TG) (mg : MGI) : Prop := ∀ (b : Bs) x τ μ τ' μ', b.c = c → mg x τ μ = some (τ', μ') → ∀ m σ G H v H', Nx K (b.lo τ σ) μ m G H → IY K G m μ.length H v H' x → ∀ Q : L2.St → Hp → Prop, (∀ m' σ' G' H', Nx K (b.lo τ' σ') μ' m' G' H' → Q σ' H') → g v σ H' Q
section
variable {K : PySem.W.Frag} {c : Cfg} {E : XK} {te ta tb tc : TE} {a b' e : ME} {t : TA} {u : MA} {i j : Nat} {b : Bs} {μ μ' μ1 : Mu} {m m' m1 : Nat → Addr} {G H G' H' G1 H1 : Hp} {τ τ' τ1 : Ls} {σ σ' σ1 : L2.St} {g1 g2 g3 : TG} {h1 h2 h3 : MG} {k1 k2 : MGI}
/-- from a later place -/
theorem Nx.transL (x : Nx K (b.lo τ σ) μ m G H) (y : Nx K (((b.lo τ σ).to μ m G H).lo τ' σ') μ1 m1 G1 H1) : Nx K (b.lo τ' σ') μ1 m1 G1 H1 := by
  have o := y.ok
  have z := (show Nx K (⟨b.c, τ, m, μ.length, σ, G, H⟩ : Bs) μ m G H from Nx.self x.ok)
  refine ⟨y.ok, x.ag.trans y.ag x.le, Nat.le_trans x.le y.le, x.fr.trans y.fr fun a z => ?_, fun i p q => ?_⟩
  · rcases z with ⟨i, hi, rfl⟩ | z
    · by_cases h : i < b.n
      · exact .inl (.inl ⟨i, h, x.ag i h⟩)
      · exact .inr (x.nw i (Nat.le_of_not_lt h) hi)
    · exact .inl (.inr z)
  · by_cases h : i < μ.length
    · rw [y.ag i h]; exact x.nw i p h
    · have := y.nw i (by show μ.length ≤ i; omega) q
      show b.H (m1 i) = none
      cases z : b.H (m1 i) with
      | none => rfl
      | some w => exact absurd this (x.fr.t _ (ne_none z))
theorem Nx.slot (x : Nx K (b.lo τ σ) μ m G H) {y : Vx} {v : V} (hi : i < τ.length) (r : RV K G m μ.length y v) : Nx K (b.lo (τ.set i (some y)) (σ.set i (some v))) μ m G H := ⟨x.ok.slot hi r, x.ag, x.le, x.fr, x.nw⟩
theorem Nx.wipe (x : Nx K (b.lo τ σ) μ m G H) (vs : List Nat) : Nx K (b.lo (wipeP τ vs) (L2.wipe σ vs)) μ m G H := ⟨x.ok.wipe vs, x.ag, x.le, x.fr, x.nw⟩
theorem sg_name : SG K c (gName i) (stName i) := fun b x τ μ τ' μ' _ h m σ G H v n r Q q => by
  unfold stName at h
  split at h <;> cases h
  exact q m _ G H (n.slot (by assumption) r)
theorem two_inv {x y z : Vx} {v : V} {n : Nat} (h : two x = some (y, z)) (r : RV K G m n x v) : ∃ p w1 w2, v = V.ref p ∧ Rd G p (.tup [w1, w2]) ∧ RV K G m n y w1 ∧ RV K G m n z w2 := by
  unfold two at h
  split at h <;> cases h
  · obtain ⟨p, vs, rfl, h1, w1, q, rfl, r1, w2, q2, rfl, r2, r3⟩ := r
    cases (show q2 = [] from r3)
    exact ⟨p, w1, w2, rfl, h1, r1, r2⟩
  · obtain ⟨p, vs, rfl, h1, w1, q, rfl, r1, w2, q2, rfl, r2, r3⟩ := tpl_tup r
    cases (show q2 = [] from r3)
    exact ⟨p, w1, w2, rfl, h1, r1, r2⟩
  · obtain ⟨p, vs, rfl, h1, w1, q, rfl, r1, w2, q2, rfl, r2, r3⟩ := r
    cases (show q2 = [] from r3)
    exact ⟨p, w1, w2, rfl, h1, r1, r2⟩
theorem three_inv {x y z w : Vx} {v : V} {n : Nat} (h : three x = some (y, z, w)) (r : RV K G m n x v) : ∃ p w1 w2 w3, v = V.ref p ∧ Rd G p (.tup [w1, w2, w3]) ∧ RV K G m n y w1 ∧ RV K G m n z w2 ∧ RV K G m n w w3 := by
  unfold three at h
  split at h <;> cases h
  · obtain ⟨p, vs, rfl, h1, w1, q, rfl, r1, w2, q2, rfl, r2, w3, q3, rfl, r3, r4⟩ := r
    cases (show q3 = [] from r4)
    exact ⟨p, w1, w2, w3, rfl, h1, r1, r2, r3⟩
  · obtain ⟨p, vs, rfl, h1, w1, q, rfl, r1, w2, q2, rfl, r2, w3, q3, rfl, r3, r4⟩ := tpl_tup r
    cases (show q3 = [] from r4)
    exact ⟨p, w1, w2, w3, rfl, h1, r1, r2, r3⟩
  · obtain ⟨p, vs, rfl, h1, w1, q, rfl, r1, w2, q2, rfl, r2, w3, q3, rfl, r3, r4⟩ := r
    cases (show q3 = [] from r4)
    exact ⟨p, w1, w2, w3, rfl, h1, r1, r2, r3⟩
theorem thn_inv {o : Option (Ls × Mu)} {f : Ls → Mu → Option (Ls × Mu)} {p : Ls × Mu} (h : thn o f = some p) : ∃ τ μ, o = some (τ, μ) ∧ f τ μ = some p := by
  cases o with
  | none => cases h
  | some q => exact ⟨q.1, q.2, rfl, h⟩
/-- on from one target to the next -/
theorem Nx.relo (n : Nx K (b.lo τ σ) μ m G H) {x : Vx} {w : V} (r : RV K G m μ.length x w) (n2 : Nx K (b.lo τ1 σ1) μ1 m1 G1 H1) (y : Nx K (((b.lo τ σ).to μ m G H).lo τ1 σ1) μ1 m1 G1 H1) : RV K G1 m1 μ1.length x w := r.mono y.sg y.ag y.le
theorem sg_tup2 (q1 : SG K c g1 h1) (q2 : SG K c g2 h2) : SG K c (gTup K 2 (gCons g1 (gCons g2 gNil))) (stTup2 h1 h2) := fun b x τ μ τ' μ' hc h m σ G H v n r Q q => by
  unfold stTup2 at h
  split at h
  · rename_i p hp
    obtain ⟨y, z⟩ := p
    obtain ⟨τ1, μ1, e1, e2⟩ := thn_inv h
    obtain ⟨p, w1, w2, rfl, a1, a2, a3⟩ := two_inv hp r
    have n0 : Nx K (((b.lo τ σ).to μ m G H).lo τ σ) μ m G H := Nx.self n.ok
    refine ⟨p, _, rfl, .inl (rd_mono n.ok.ex a1), rfl, w1, _, rfl, q1 ((b.lo τ σ).to μ m G H) _ _ _ _ _ hc e1 _ _ _ _ _ n0 a2 _ fun m1 σ1 G1 H1 n1 => ⟨w2, _, rfl, q2 b _ _ _ _ _ hc e2 _ _ _ _ _ (n.transL n1) (a3.mono n1.sg n1.ag n1.le) _ fun m2 σ2 G2 H2 n2 => ⟨rfl, q _ _ _ _ n2⟩⟩⟩
  · cases h
theorem sg_tup3 (q1 : SG K c g1 h1) (q2 : SG K c g2 h2) (q3 : SG K c g3 h3) : SG K c (gTup K 3 (gCons g1 (gCons g2 (gCons g3 gNil)))) (stTup3 h1 h2 h3) := fun b x τ μ τ' μ' hc h m σ G H v n r Q q => by
  unfold stTup3 at h
  split at h
  · rename_i p hp
    obtain ⟨y, z, w⟩ := p
    obtain ⟨τ1, μ1, e1, h⟩ := thn_inv h
    obtain ⟨τ2, μ2, e2, e3⟩ := thn_inv h
    obtain ⟨p, w1, w2, w3, rfl, a1, a2, a3, a4⟩ := three_inv hp r
    have n0 : Nx K (((b.lo τ σ).to μ m G H).lo τ σ) μ m G H := Nx.self n.ok
    refine ⟨p, _, rfl, .inl (rd_mono n.ok.ex a1), rfl, w1, _, rfl, q1 ((b.lo τ σ).to μ m G H) _ _ _ _ _ hc e1 _ _ _ _ _ n0 a2 _ fun m1 σ1 G1 H1 n1 => ⟨w2, _, rfl, q2 ((b.lo τ σ).to μ m G H) _ _ _ _ _ hc e2 _ _ _ _ _ n1 (a3.mono n1.sg n1.ag n1.le) _ fun m2 σ2 G2 H2 n2 =>
      ⟨w3, _, rfl, q3 b _ _ _ _ _ hc e3 _ _ _ _ _ (n.transL n2) (a4.mono n2.sg n2.ag n2.le) _ fun m3 σ3 G3 H3 n3 => ⟨rfl, q _ _ _ _ n3⟩⟩⟩⟩
  · cases h
theorem sg_star (q1 : SG K c g1 h1) (q2 : SG K c g2 h2) : SG K c (gStar K 2 0 (gCons g1 (gCons g2 gNil))) (stStar h1 h2) := fun b x τ μ τ' μ' hc h mm σ G H v n r Q q => by
  unfold stStar at h
  split at h
  · rename_i ds hd
    split at h
    · rename_i hz
      split at h
      · rename_i d hl
        obtain ⟨τ1, μ1, e1, e2⟩ := thn_inv h
        obtain ⟨p, vs, rfl, a1, a2⟩ := rd_dst hd n r
        have hlen : vs.length = ds.length := by rw [a2.length, ddL_length]
        have hne : ds ≠ [] := by intro e; rw [e] at hl; cases hl
        have hpos : 0 < ds.length := List.length_pos_iff.mpr hne
        have elast : ds[ds.length - 1]? = some d := by rw [← List.getLast?_eq_getElem?]; exact hl
        obtain ⟨w, h4, h5⟩ := a2.get (ddL_get elast)
        have ed : vs.drop (vs.length + 1 - 2) = [w] := by
          rw [hlen]
          have hlt : ds.length - 1 < vs.length := by omega
          have e1 : ds.length + 1 - 2 = ds.length - 1 := by omega
          rw [e1, List.drop_eq_getElem_cons hlt]
          have e2 : vs.drop (ds.length - 1 + 1) = [] := List.drop_eq_nil_of_le (by omega)
          rw [e2]
          rw [List.getElem?_eq_getElem hlt] at h4
          rw [Option.some.inj h4]
        refine ⟨p, vs, rfl, SqL.of a1, by omega, by omega, fun D hD => ?_⟩
        rw [List.take_zero, List.nil_append, List.drop_zero, ed]
        have et : vs.take (vs.length + 1 - 2) = vs.dropLast := by rw [List.dropLast_eq_take]; congr 1
        rw [et]
        have n1 := n.alloc (u := .lst vs.dropLast) (cl := .ld ds.dropLast) hD (fun z => z) ⟨_, by rw [upN_same, upd_same], by rw [ddL_dropLast]; exact a2.dropLast⟩
        have hlx : μ.length < (μ ++ [Cl.ld ds.dropLast]).length := by rw [List.length_append]; exact Nat.lt_succ_self _
        have rn : RV K G (upN mm μ.length D) (μ ++ [Cl.ld ds.dropLast]).length (.ref μ.length) (.ref D) := ⟨hlx, by rw [upN_same]⟩
        have n0 : Nx K (((b.lo τ σ).to (μ ++ [Cl.ld ds.dropLast]) (upN mm μ.length D) G (upd H D (.lst vs.dropLast))).lo τ σ) (μ ++ [Cl.ld ds.dropLast]) (upN mm μ.length D) G (upd H D (.lst vs.dropLast)) := Nx.self n1.ok
        refine ⟨_, _, rfl, q1 ((b.lo τ σ).to (μ ++ [Cl.ld ds.dropLast]) (upN mm μ.length D) G (upd H D (.lst vs.dropLast))) _ _ _ _ _ hc e1 _ _ _ _ _ n0 rn _ fun m2 σ2 G2 H2 n2 => ⟨w, _, rfl, q2 b _ _ _ _ _ hc e2 _ _ _ _ _ (n1.transL n2) (show Z.Rep G2 (dd K d) w from Z.Rep.mono n2.sg _ _ h5) _ fun m3 σ3 G3 H3 n3 => ⟨rfl, q _ _ _ _ n3⟩⟩⟩
      · cases h
    · cases h
  · cases h
theorem putN_str {f : String} : ∀ {ns : List String}, (putNP f ns).map Str.ofString = putN (Str.ofString f) (ns.map Str.ofString)
  | [] => rfl
  | n :: ns => by
    unfold putNP
    rw [List.map_cons]
    unfold putN
    by_cases e : n = f
    · rw [if_pos e, if_pos (by rw [e]), List.map_cons]
    · rw [if_neg e, if_neg (fun z => e (str_inj z)), List.map_cons, putN_str]
theorem putX_dd {f : String} {d : D} : ∀ {ns : List String} {xs : List D}, ddL K (putXP f d ns xs) = putX (Str.ofString f) (dd K d) (ns.map Str.ofString) (ddL K xs)
  | [], xs => by cases xs <;> rfl
  | n :: ns, [] => rfl
  | n :: ns, x :: xs => by
    unfold putXP
    rw [List.map_cons, ddL]
    unfold putX
    by_cases e : n = f
    · rw [if_pos e, if_pos (by rw [e]), ddL]
    · rw [if_neg e, if_neg (fun z => e (str_inj z)), ddL, putX_dd]
/-- o.f = x -/
theorem putFld_run {n f : String} {x y : Vx} {v w : V} (hc : Cls K (He.ga K (Str.ofString n))) (hn : NoAttr K (He.ga K (Str.ofString n)) (Str.ofString f)) (h : putFld n f y x μ = some μ') (nx : Nx K b μ m G H) (ry : RV K G m μ.length y w) (rx : RV K G m μ.length x v) :
    ∃ p C dx fs, w = .ref p ∧ H p = some (.ins C dx fs) ∧ Cls K C ∧ NoAttr K C (Str.ofString f) ∧ fs.length < 1000 ∧ Nx K b μ' m G (upd H p (.ins C dx (putF (Str.ofString f) v fs))) := by
  unfold putFld at h
  split at h
  · split at h
    · split at h <;> cases h
      rename_i i d _ cn ns xs hi hh
      obtain ⟨rfl, hz⟩ := hh
      obtain ⟨_, rfl⟩ := ry
      obtain ⟨dx, vs, a1, a2, a3⟩ := nx.ok.ce i _ hi
      have a2' : (ns.map Str.ofString).length = vs.length := by rw [List.length_map]; exact a2
      obtain ⟨e1, e2⟩ := put_zip (f := Str.ofString f) (y := v) a2'
      refine ⟨_, _, dx, _, rfl, a1, hc, hn, ?_, nx.setC hi (fun z => z) ⟨dx, putV (Str.ofString f) v (ns.map Str.ofString) vs, ?_, ?_, ?_⟩⟩
      · rw [List.length_zip, ← a2', Nat.min_self, List.length_map]
        omega
      · rw [upd_same, e1, putN_str]
      · rw [← e2, ← putN_str, List.length_map]
      · rw [putX_dd]
        exact putX_rep rx a2' a3
    · cases h
  · cases h
theorem sg_fld {n f : String} (hc : Cls K (He.ga K (Str.ofString n))) (hn : NoAttr K (He.ga K (Str.ofString n)) (Str.ofString f)) : SG K c (gFld K (tVar i) (Str.ofString f)) (stFld n f i) := fun b x τ μ τ' μ' _ h m σ G H v nx r Q q => by
  unfold stFld at h
  split at h
  · rename_i y hy
    split at h <;> cases h
    rename_i hp
    obtain ⟨w, e1, e2⟩ := nx.ok.sl i y hy
    obtain ⟨p, C, dx, fs, rfl, q1, q2, q3, q4, q5⟩ := putFld_run hc hn hp nx e2 r
    exact ⟨_, e1, p, C, dx, fs, rfl, q1, q2, q3, q4, q _ _ _ _ q5⟩
  · cases h
theorem sgi_name : SGI K c (gName i) (sgName i) := fun b x τ μ τ' μ' hc h m σ G H v H' n y Q q => by
  cases x with
  | one t =>
    obtain ⟨rfl, r⟩ := y
    exact sg_name b t τ μ τ' μ' hc h m σ G _ v n r Q q
  | two t u => cases h
theorem sgi_tup2 (q1 : SG K c g1 h1) (q2 : SG K c g2 h2) : SGI K c (gTup K 2 (gCons g1 (gCons g2 gNil))) (sgTup2 h1 h2) := fun b x τ μ τ' μ' hc h m σ G H v H' n y Q q => by
  cases x with
  | one t =>
    obtain ⟨rfl, r⟩ := y
    exact sg_tup2 q1 q2 b t τ μ τ' μ' hc h m σ G _ v n r Q q
  | two t u =>
    obtain ⟨T, y, z, rfl, hT, rfl, r1, r2⟩ := y
    obtain ⟨τ1, μ1, e1, e2⟩ := thn_inv h
    have nb := n.both (u := .tup [y, z]) hT
    have sb := n.subB (u := .tup [y, z]) hT
    have n0 : Nx K (((b.lo τ σ).to μ m (upd G T (.tup [y, z])) (upd H T (.tup [y, z]))).lo τ σ) μ m (upd G T (.tup [y, z])) (upd H T (.tup [y, z])) := Nx.self nb.ok
    refine ⟨T, _, rfl, .inl (.inl upd_same), rfl, y, _, rfl, q1 ((b.lo τ σ).to μ m (upd G T (.tup [y, z])) (upd H T (.tup [y, z]))) _ _ _ _ _ hc e1 _ _ _ _ _ n0 (r1.mono sb Ag.refl (Nat.le_refl _)) _ fun m1 σ1 G1 H1 n1 => ⟨z, _, rfl, q2 b _ _ _ _ _ hc e2 _ _ _ _ _ (nb.transL n1) ((r2.mono sb Ag.refl (Nat.le_refl _)).mono n1.sg n1.ag n1.le) _ fun m2 σ2 G2 H2 n2 => ⟨rfl, q _ _ _ _ n2⟩⟩⟩
end
end Y
set_option Elab.async false
set_option linter.all false
set_option maxRecDepth 100000
/-! A9: comprehensions, statements, loops, bodies. -/
namespace Y
open PySem PySem.Spec PyProof.Rows L2 Z
section
variable {K : PySem.W.Frag} {c : Cfg} {E : XK} {te ta tb tc : TE} {a b' e : ME} {t : TA} {u : MA} {i j : Nat} {b : Bs} {μ μ' μ1 : Mu} {m m' m1 : Nat → Addr} {G H G' H' G1 H1 : Hp} {τ τ' τ1 : Ls} {σ σ' σ1 : L2.St} {g g1 g2 g3 : TG} {h1 h2 h3 : MG} {k1 k2 mg : MGI} {tt : TT} {p : MT} {vs : List Nat} {wi : TI} {mi : MI}
/-- an object that is nowhere held is left out -/
def del (H : Hp) (p : Addr) : Hp := fun a => if a = p then none else H a
theorem del_ne {a p : Addr} (h : a ≠ p) : del H p a = H a := if_neg h
theorem del_same {p : Addr} : del H p p = none := if_pos rfl
theorem upd_del {p : Addr} {w : HO} (h : H p = some w) : upd (del H p) p w = H := by
  funext a
  by_cases e : a = p
  · rw [e, upd_same, h]
  · rw [upd_ne e, del_ne e]
theorem Nx.del (x : Nx K b μ m G H) {p : Addr} {w : HO} (h0 : H p = some w) (hn : NoC w) (h1 : G p = none) (h2 : ∀ i, i < μ.length → m i ≠ p) (h3 : b.H p = none) (h4 : b.c.H0 p = none) : Nx K b μ m G (del H p) where
  ok := {
    ex := fun a u z => by rw [del_ne (fun e => by rw [e, h1] at z; cases z)]; exact x.ok.ex a u z
    tu := fun a u q z => by
      by_cases e : a = p
      · rw [e, del_same] at z; cases z
      · rw [del_ne e] at z; exact x.ok.tu a u q z
    fr := ⟨x.ok.fr.g, fun a o z nx => by
      have := x.ok.fr.h a o z nx
      rw [del_ne (fun e => by rw [e, h4] at z; cases z)]
      exact this, x.ok.fr.n, fun a z => by
      rw [del_ne (fun e => z (by rw [e]; exact h4))]
      exact x.ok.fr.t a z⟩
    len := x.ok.len
    sl := x.ok.sl
    ce := fun i cl h => (x.ok.ce i cl h).mono (Same.refl _) (fun _ _ => rfl) (del_ne (h2 i (List.getElem?_eq_some_iff.mp h).1))
    sp := fun i hi => by rw [del_ne (h2 i hi)]; exact x.ok.sp i hi
    inj := x.ok.inj
    low := x.ok.low
    tb := fun q hq => by
      obtain ⟨_, h5, _⟩ := x.ok.tg q hq
      obtain ⟨ps, t1, t2, t3⟩ := x.ok.tb q hq
      refine ⟨ps, by rw [del_ne (fun e => h5 (by rw [e]; exact h4))]; exact t1, t2, fun pos cv hc => ?_⟩
      obtain ⟨cc, e1, e2⟩ := t3 pos cv hc
      by_cases z : cc = p
      · exact absurd (by rw [z, h0] at e2; exact Option.some.inj e2) (hn _)
      · exact ⟨cc, e1, by rw [del_ne z]; exact e2⟩
    tg := x.ok.tg }
  ag := x.ag
  le := x.le
  fr := ⟨x.fr.g, fun a o z nx => by
      have := x.fr.h a o z nx
      rw [del_ne (fun e => by rw [e, h3] at z; cases z)]
      exact this, x.fr.n, fun a z => by
      rw [del_ne (fun e => z (by rw [e]; exact h3))]
      exact x.fr.t a z⟩
  nw := x.nw
theorem Nx.put (x : Nx K b μ m G H) {p : Addr} {u w0 : HO} (h0 : H p = some w0) (hn : NoC w0) (h1 : G p = none) (h2 : ∀ i, i < μ.length → m i ≠ p) (h3 : b.H p = none) (h4 : b.c.H0 p = none) (hu : ¬ isTp u) : Nx K b μ m G (upd H p u) :=
  ⟨x.ok.put h0 hn h1 h2 h4 hu, x.ag, x.le, ⟨x.fr.g, fun a o z nx => by
      have := x.fr.h a o z nx
      rw [upd_ne (fun e => by rw [e, h3] at z; cases z)]
      exact this, x.fr.n, fun a z => by
      rw [upd_ne (fun e => z (by rw [e]; exact h3))]
      exact x.fr.t a z⟩, x.nw⟩
theorem wipeP_len : ∀ {vs : List Nat}, (wipeP τ vs).length = τ.length
  | [] => rfl
  | v :: vs => by unfold wipeP; rw [List.length_set, wipeP_len]
/-- the slots of one, the rest of the other -/
theorem Nx.retau (x : Nx K b μ m G H) (y : Nx K ((b.to μ m G H).lo τ' σ') μ1 m1 G1 H1) : Nx K b μ1 m1 G1 H1 := by
  have z : Nx K (b.to μ m G H) μ1 m1 G1 H1 := ⟨x.ok.retau y.ok y.sg y.ag y.le, y.ag, y.le, y.fr, y.nw⟩
  exact x.trans z
/-- a new list that is being filled, apart from all else -/
structure Apt (K : PySem.W.Frag) (b : Bs) (p : Addr) (ys : List V) (μ : Mu) (m : Nat → Addr) (G H : Hp) : Prop where
  at_ : H p = some (.lst ys)
  g : G p = none
  m : ∀ i, i < μ.length → m i ≠ p
theorem Apt.on {D : Addr} {ys : List V} (x : Apt K b D ys μ m G H) (n : Nx K b μ m G H) {b2 : Bs} (y : Nx K b2 μ1 m1 G1 H1) (e1 : b2.n = μ.length) (e2 : b2.m = m) (e3 : b2.G = G) (e4 : b2.H = H) (ht : ∀ q ∈ b2.c.T, D ≠ q.1) : Apt K b D ys μ1 m1 G1 H1 where
  at_ := y.fr.h _ _ (by rw [e4]; exact x.at_) fun z => by
    rcases z with ⟨i, hi, e⟩ | ⟨q, hq, e⟩
    · rw [e1] at hi
      rw [e2] at e
      exact x.m i hi e.symm
    · exact ht q hq e
  g := y.fr.n _ (by rw [e3]; exact x.g) (by rw [e4, x.at_]; exact fun z => nomatch z)
  m := fun i hi e => by
    by_cases h : i < b2.n
    · have := y.ag i h
      rw [e2, e] at this
      exact x.m i (by omega) this.symm
    · have := y.nw i (by omega) hi
      rw [e4, e, x.at_] at this
      cases this
theorem sl_lc (hw : GW g vs) (hi : SI K c E wi mi) (hg : SGI K c g mg) (hp : ST K c E0 tt p) (he : SE K c E0 te e) : SL K c E (tLc wi g tt te vs) (lLc mi mg p e vs) := fun τ μ m σ G H o Q h =>
  hi _ _ _ _ _ _ o _ (by
    unfold lLc at h
    cases zi : mi τ μ with
    | no => rw [zi] at h; exact h
    | ex e' μ1 => rw [zi] at h; exact h
    | v src μ1 =>
      rw [zi] at h
      intro J m1 G1 H1 n1 wk D hD
      replace h : AccP _ _ (match runC mg p e src (wipeP τ vs) fuelN 0 μ1 with | .v ds μ2 => if ds.length ≤ 100000 then Res.v ds μ2 else .no | _ => .no) := h
      cases zr : runC mg p e src (wipeP τ vs) fuelN 0 μ1 with
      | no => rw [zr] at h; exact h.elim
      | ex e' μ2 => rw [zr] at h; exact h.elim
      | v ds μ2 =>
        rw [zr] at h
        dsimp only at h
        by_cases hz : ds.length ≤ 100000
        case neg => rw [if_neg hz] at h; exact h.elim
        rw [if_pos hz] at h
        have hT : ∀ q ∈ c.T, D ≠ q.1 := fun q hq e => by
          have := n1.ok.tb q hq
          obtain ⟨ps, t1, _⟩ := this
          rw [← e, hD] at t1
          cases t1
        have h0D : c.H0 D = none := n1.ok.new0 hD
        -- the base of the walk
        let B : Bs := ⟨c, wipeP τ vs, m1, μ1.length, L2.wipe σ vs, G1, H1⟩
        have hBH : B.H D = none := hD
        refine ⟨fun i k H' => ∃ μ' m' G' acc ys rest, Nx K B μ' m' G' H' ∧ runC mg p e src (wipeP τ vs) k i μ' = .v rest μ2 ∧ acc ++ rest = ds ∧ Z.RepL G' (ddL K acc) ys ∧ Apt K B D ys μ' m' G' H', ⟨fuelN, μ1, m1, G1, [], [], ds, ?_, zr, rfl, rfl, upd_same, n1.ok.newG hD, fun i hi => n1.ok.nem hD hi⟩, ?_⟩
        · have nb : Nx K ((⟨c, τ, m1, μ1.length, σ, G1, H1⟩ : Bs).lo (wipeP τ vs) (L2.wipe σ vs)) μ1 m1 G1 H1 := Nx.wipe (b := ⟨c, τ, m1, μ1.length, σ, G1, H1⟩) (τ := τ) (σ := σ) (Nx.self n1.ok) vs
          exact nb.side (u := .lst []) hD (fun z => z)
        · rintro i k H' ⟨μ', m', G', acc, ys, rest, nx, hr, hacc, ry, ap⟩
          cases k with
          | zero => cases hr
          | succ k =>
            unfold runC at hr
            have nw : Nx K (((⟨c, τ, m, μ.length, σ, G, H⟩ : Bs).to μ1 m1 G1 H1).lo (wipeP τ vs) (L2.wipe σ vs)) μ' m' G' H' := nx
            cases zs : srcAt src μ' i with
            | none => rw [zs] at hr; cases hr
            | some os =>
              rw [zs] at hr
              cases os with
              | none =>
                cases hr
                refine .inl ⟨wk.stop i _ _ _ _ _ _ nw zs, ?_⟩
                rw [List.append_nil] at hacc
                subst hacc
                have nf := n1.retau nw
                have nd := nf.del ap.at_ noc_lst ap.g ap.m (by
                  show H D = none
                  cases z : H D with
                  | none => rfl
                  | some w => exact absurd hD (n1.fr.t D (ne_none z))) h0D
                have q := h D ys m' G' _ nd del_same ry
                rw [upd_del ap.at_] at q
                exact q
              | some it =>
                refine .inr ⟨wk.go i _ _ _ _ _ _ it nw zs, fun H2 => ∃ μ' m' G' acc ys rest, Nx K B μ' m' G' H2 ∧ runC mg p e src (wipeP τ vs) k (i + 1) μ' = .v rest μ2 ∧ acc ++ rest = ds ∧ Z.RepL G' (ddL K acc) ys ∧ Apt K B D ys μ' m' G' H2, fun H2 q => ⟨k, Nat.lt_succ_self k, q⟩, fun x H2 y => ?_⟩
                have yy := wk.yl i _ _ _ _ _ _ it x H2 nw zs y
                dsimp only at hr
                cases zg : mg it (wipeP τ vs) μ' with
                | none => rw [zg] at hr; cases hr
                | some pq =>
                  obtain ⟨τ3, μ3⟩ := pq
                  rw [zg] at hr
                  dsimp only at hr
                  have key : ∀ Q0 : L2.St → Hp → Prop, (g x (wipe σ vs) H2 fun σ2 H3 => wipe σ2 vs = wipe σ vs → Q0 σ2 H3) → g x (wipe σ vs) H2 fun σ2 H3 => wipe σ2 vs = wipe σ vs ∧ Q0 σ2 H3 := fun Q0 q0 => by
                    have := hw x (wipe σ vs) H2 Q0 (by
                      simp only [wipe_wipe]
                      exact q0)
                    simp only [wipe_wipe] at this
                    exact this
                  let B1 : Bs := ⟨c, wipeP τ vs, m', μ'.length, L2.wipe σ vs, G', H'⟩
                  have ns : Nx K (B1.lo (wipeP τ vs) (L2.wipe σ vs)) μ' m' G' H' := Nx.self nx.ok
                  refine key _ (hg B1 it _ _ _ _ rfl zg _ _ _ _ _ _ ns yy _ fun m3 σ3 G3 H3 n3 hw3 => ?_)
                  have ap3 : Apt K B D ys μ3 m3 G3 H3 := ap.on nx n3 rfl rfl rfl rfl hT
                  -- the end of a turn
                  have fin : ∀ {μ4 : Mu} {m4 : Nat → Addr} {G4 H4 : Hp}, Nx K ((B1.lo τ3 σ3).to μ3 m3 G3 H3) μ4 m4 G4 H4 → Nx K B μ4 m4 G4 H4 := fun {μ4 m4 G4 H4} n4 => by
                    have n5 : Nx K (B1.lo τ3 σ3) μ4 m4 G4 H4 := n3.trans n4
                    have n6 : Nx K (B1.lo (wipeP τ3 vs) (L2.wipe σ3 vs)) μ4 m4 G4 H4 := n5.wipe vs
                    exact (nx.retau (τ' := τ3) (σ' := σ3) n5)
                  cases zp : p τ3 μ3 with
                  | no => rw [zp] at hr; cases hr
                  | ex e' μ4 => rw [zp] at hr; cases hr
                  | v kb μ4 =>
                    rw [zp] at hr
                    dsimp only at hr
                    refine hp τ3 _ _ _ _ _ n3.ok _ ?_
                    rw [zp]
                    intro kb' m4 G4 H4 n4 ek
                    cases ek
                    have ap4 : Apt K B D ys μ4 m4 G4 H4 := ap3.on (fin (Nx.self n3.ok)) n4 rfl rfl rfl rfl hT
                    cases kb with
                    | false =>
                      rw [if_neg (by decide)] at hr ⊢
                      refine ⟨μ4, m4, G4, acc, ys, rest, fin n4, hr, hacc, ?_, ap4⟩
                      exact ry.mono (show Same G' G4 from n3.sg.trans n4.sg) _ _
                    | true =>
                      rw [if_pos rfl] at hr ⊢
                      cases ze : e τ3 μ4 with
                      | no => rw [ze] at hr; cases hr
                      | ex e' μ5 => rw [ze] at hr; cases hr
                      | v x5 μ5 =>
                        rw [ze] at hr
                        cases x5 with
                        | ref i' => cases hr
                        | tup xs' => cases hr
                        | dat d =>
                          dsimp only at hr
                          cases z5 : runC mg p e src (wipeP τ vs) k (i + 1) μ5 with
                          | no => rw [z5] at hr; cases hr
                          | ex e' μ6 => rw [z5] at hr; cases hr
                          | v rs μ6 =>
                            rw [z5] at hr
                            cases hr
                            refine he τ3 _ _ _ _ _ n4.ok _ ?_
                            rw [ze]
                            intro y5 m5 G5 H5 n5 r5
                            have n45 := n4.trans n5
                            have nB := fin n45
                            have ap5 : Apt K B D ys μ5 m5 G5 H5 := ap4.on (fin n4) n5 rfl rfl rfl rfl hT
                            have eg : Same G' G5 := n3.sg.trans (n4.sg.trans n5.sg)
                            have r' := ry.mono eg _ _
                            refine ⟨ys, ap5.at_, by rw [ry.length, ddL_length]; exact sz_lt (by rw [← hacc, List.length_append, List.length_cons] at hz; omega), μ5, m5, G5, acc ++ [d], ys ++ [y5], rs, ?_, z5, by rw [List.append_assoc]; exact hacc, by rw [ddL_append]; exact r'.append (RepL.cons r5 rfl), upd_same, ap5.g, ap5.m⟩
                            exact nB.put ap5.at_ noc_lst ap5.g ap5.m hD h0D (fun z => z))
end
end Y
set_option Elab.async false
set_option linter.all false
set_option maxRecDepth 100000
/-! A10: statements, loops, bodies. -/
namespace Y
open PySem PySem.Spec PyProof.Rows L2 Z
def AccS (K : PySem.W.Frag) (b : Bs) (E : XK) (De : L2.Ends) : So → Prop
  | .nx τ μ => ∀ m σ G H, Nx K (b.lo τ σ) μ m G H → De.nx σ H
  | .rt x μ => ∀ v τ m σ G H, Nx K (b.lo τ σ) μ m G H → RV K G m μ.length x v → De.rt v H
  | .bk τ μ => ∀ m σ G H, Nx K (b.lo τ σ) μ m G H → De.bk σ H
  | .ct τ μ => ∀ m σ G H, Nx K (b.lo τ σ) μ m G H → De.ct σ H
  | .ex e τ μ => ∀ σ, XP K (b.lo τ σ) E e μ
  | .no => False
def SS (K : PySem.W.Frag) (c : Cfg) (E : XK) (ts : TS) (s : MS) : Prop := ∀ τ μ m σ G H, Ok K c τ μ m σ G H → ∀ De, AccS K ⟨c, τ, m, μ.length, σ, G, H⟩ E De (s τ μ) → ts De σ H
section
variable {K : PySem.W.Frag} {c : Cfg} {E : XK} {te ta tb tc : TE} {a b' e : ME} {t : TA} {u : MA} {i j : Nat} {b : Bs} {μ μ' μ1 : Mu} {m m' m1 : Nat → Addr} {G H G' H' G1 H1 : Hp} {τ τ' τ1 : Ls} {σ σ' σ1 : L2.St} {g g1 g2 g3 : TG} {h1 h2 h3 : MG} {k1 k2 mg : MGI} {tt : TT} {p : MT} {wi : TI} {mi : MI} {ts us : TS} {s s' : MS} {De : L2.Ends} {α β : Type}
theorem AccS.from {o : So} (h : AccS K b E De o) (x : Nx K (b.lo τ1 σ1) μ1 m1 G1 H1) : AccS K ((b.lo τ1 σ1).to μ1 m1 G1 H1) E De o := by
  cases o with
  | nx τ μ => exact fun m σ G H y => h m σ G H (x.transL y)
  | rt r μ => exact fun v τ m σ G H y => h v τ m σ G H (x.transL y)
  | bk τ μ => exact fun m σ G H y => h m σ G H (x.transL y)
  | ct τ μ => exact fun m σ G H y => h m σ G H (x.transL y)
  | ex e τ μ => exact fun σ d ws m G H y => h σ d ws m G H (x.transL y)
  | no => exact h
theorem AccS.imp {De' : L2.Ends} {o : So} (h : AccS K b E De o) (k1 : ∀ σ H, De.nx σ H → De'.nx σ H) (k2 : ∀ v H, De.rt v H → De'.rt v H) (k3 : ∀ σ H, De.bk σ H → De'.bk σ H) (k4 : ∀ σ H, De.ct σ H → De'.ct σ H) : AccS K b E De' o := by
  cases o with
  | nx τ μ => exact fun m σ G H y => k1 _ _ (h m σ G H y)
  | rt r μ => exact fun v τ m σ G H y z => k2 _ _ (h v τ m σ G H y z)
  | bk τ μ => exact fun m σ G H y => k3 _ _ (h m σ G H y)
  | ct τ μ => exact fun m σ G H y => k4 _ _ (h m σ G H y)
  | ex e τ μ => exact h
  | no => exact h
/-- a step within a statement -/
theorem stepS {R1 : Hp → (Nat → Addr) → Nat → α → β → Prop} {r : Res α} {f : α → Mu → So} {Q1 : β → Hp → Prop} (h : AccS K b E De (bS b.τ r f))
    (k : ∀ a μ1 v m1 G1 H1, Nx K b μ1 m1 G1 H1 → R1 G1 m1 μ1.length a v → AccS K b E De (f a μ1) → Q1 v H1) : AccP (XP K b E) (VP R1 K b Q1) r := by
  cases r with
  | v a μ => exact fun v m1 G1 H1 x y => k a μ v m1 G1 H1 x y h
  | ex e μ => exact h b.σ
  | no => exact h
theorem ss_ret (ha : SE K c E ta a) : SS K c E (tRet ta) (mRet a) := fun τ μ m σ G H o De h =>
  ha _ _ _ _ _ _ o _ (stepS (b := ⟨c, τ, m, μ.length, σ, G, H⟩) h fun x μ1 v m1 G1 H1 n1 r1 h1 => h1 v τ m1 σ G1 H1 n1 r1)
theorem ss_retN : SS K c E tRetN mRetN := fun τ μ m σ G H o De h => h _ τ m σ G H (Nx.self o) rfl
theorem ss_next : SS K c E tNext mNext := fun τ μ m σ G H o De h => h m σ G H (Nx.self o)
theorem ss_brk : SS K c E tBreak mBrk := fun τ μ m σ G H o De h => h m σ G H (Nx.self o)
theorem ss_cont : SS K c E tCont mCont := fun τ μ m σ G H o De h => h m σ G H (Nx.self o)
theorem ss_never : SS K c E tNever mNever := fun τ μ m σ G H o De h => h.elim
theorem ss_seq (ha : SS K c E ts s) (hb : SS K c E us s') : SS K c E (tSeq ts us) (mSeq s s') := fun τ μ m σ G H o De h => ha _ _ _ _ _ _ o _ (by
  unfold mSeq at h
  cases z : s τ μ with
  | nx τ1 μ1 => rw [z] at h; exact fun m1 σ1 G1 H1 n1 => hb τ1 _ _ _ _ _ n1.ok _ (h.from n1)
  | rt r μ1 => rw [z] at h; exact h
  | bk τ1 μ1 => rw [z] at h; exact h
  | ct τ1 μ1 => rw [z] at h; exact h
  | ex e τ1 μ1 => rw [z] at h; exact h
  | no => rw [z] at h; exact h)
theorem ss_if (ht : ST K c E tt p) (ha : SS K c E ts s) (hb : SS K c E us s') : SS K c E (tIfS tt ts us) (mIfS p s s') := fun τ μ m σ G H o De h =>
  ht _ _ _ _ _ _ o _ (stepS (b := ⟨c, τ, m, μ.length, σ, G, H⟩) h fun x μ1 v m1 G1 H1 n1 r1 h1 => by
    cases r1
    cases x with
    | true => exact ha τ _ _ _ _ _ n1.ok _ (AccS.from (τ1 := τ) (σ1 := σ) h1 n1)
    | false => exact hb τ _ _ _ _ _ n1.ok _ (AccS.from (τ1 := τ) (σ1 := σ) h1 n1))
theorem ss_drop (ha : SE K c E ta a) : SS K c E (tDrop ta) (mDrop a) := fun τ μ m σ G H o De h =>
  ha _ _ _ _ _ _ o _ (stepS (b := ⟨c, τ, m, μ.length, σ, G, H⟩) h fun x μ1 v m1 G1 H1 n1 r1 h1 => h1 m1 σ G1 H1 n1)
theorem ss_asg (ha : SE K c E ta a) (hg : SG K c g h1) : SS K c E (tAsg ta g) (mAsg a h1) := fun τ μ m σ G H o De h =>
  ha _ _ _ _ _ _ o _ (stepS (b := ⟨c, τ, m, μ.length, σ, G, H⟩) h fun x μ1 v m1 G1 H1 n1 r1 h2 => by
    cases z : h1 x τ μ1 with
    | none => rw [z] at h2; exact h2.elim
    | some q =>
      rw [z] at h2
      exact hg ⟨c, τ, m, μ.length, σ, G, H⟩ x τ μ1 q.1 q.2 rfl z m1 σ G1 H1 v n1 r1 _ fun m2 σ2 G2 H2 n2 => h2 m2 σ2 G2 H2 n2)
theorem ss_par (ha : SE K c E ta a) (hb : SE K c E tb b') : SS K c E (tPar i j (tCons ta (tCons tb tNil))) (mPar i j a b') := fun τ μ m σ G H o De h =>
  ha _ _ _ _ _ _ o _ (stepS (b := ⟨c, τ, m, μ.length, σ, G, H⟩) h fun x μ1 v m1 G1 H1 n1 r1 h2 => hb τ _ _ _ _ _ n1.ok _ (stepS (b := ⟨c, τ, m1, μ1.length, σ, G1, H1⟩) (AccS.from (τ1 := τ) (σ1 := σ) h2 n1) fun y μ2 w m2 G2 H2 n2 r2 h3 => by
    split at h3
    · rename_i hh
      have n3 : Nx K ((⟨c, τ, m1, μ1.length, σ, G1, H1⟩ : Bs).lo (τ.set i (some x)) (σ.set i (some v))) μ2 m2 G2 H2 := Nx.slot (b := ⟨c, τ, m1, μ1.length, σ, G1, H1⟩) (τ := τ) (σ := σ) n2 hh.2.1 (r1.mono n2.sg n2.ag n2.le)
      exact ⟨v, w, rfl, h3 m2 _ G2 H2 (n3.slot (by rw [List.length_set]; exact hh.2.2) r2)⟩
    · exact h3.elim))
theorem ss_aug {f : Int → Int → Int} (ha : SE K c E ta a) : SS K c E (tAug i ta (ipI f)) (mAug f i a) := fun τ μ m σ G H o De h => by
  unfold mAug at h
  split at h
  · rename_i p hp
    obtain ⟨v, e1, e2⟩ := o.sl i _ hp
    cases e2
    refine ⟨_, e1, ha _ _ _ _ _ _ o _ (stepS (b := ⟨c, τ, m, μ.length, σ, G, H⟩) h fun y μ1 w m1 G1 H1 n1 r1 h1 => ?_)⟩
    cases z : isInt y with
    | none => rw [z] at h1; exact h1.elim
    | some q =>
      rw [z] at h1
      cases isInt_inv z
      exact ⟨p, q, rfl, r1, h1 m1 _ G1 H1 (Nx.slot (b := ⟨c, τ, m, μ.length, σ, G, H⟩) (τ := τ) (σ := σ) n1 (List.getElem?_eq_some_iff.mp hp).1 rfl)⟩
  · exact h.elim
theorem setC_run {i : Nat} {n : Int} {d : D} {w : V} (h : setC i n d μ = some μ') (nx : Nx K b μ m G H) (r : Z.Rep G (dd K d) w) : ∃ vs k, H (m i) = some (.lst vs) ∧ ixN vs.length n = some k ∧ Nx K b μ' m G (upd H (m i) (.lst (vs.set k w))) := by
  unfold setC at h
  split at h
  · rename_i ds hi
    split at h <;> cases h
    rename_i k hk
    obtain ⟨vs, a1, a2⟩ := nx.ok.ce i _ hi
    refine ⟨vs, k, a1, by rw [a2.length, ddL_length]; exact hk, nx.setC hi (fun z => z) ⟨_, upd_same, ?_⟩⟩
    rw [ddL_set]
    exact a2.set r k
  · cases h
theorem ss_augS {f : Int → Int → Int} {n : Int} (ha : SE K c E ta a) (he : SE K c E te e) : SS K c E (tAugS ta (tC (.int n)) te rGetL (ipI f) rSetL) (mAugS f a n e) := fun τ μ m σ G H o De h =>
  ha _ _ _ _ _ _ o _ (stepS (b := ⟨c, τ, m, μ.length, σ, G, H⟩) h fun x μ1 v m1 G1 H1 n1 r1 h2 => by
    cases z : getC x n μ1 with
    | none => rw [z] at h2; exact h2.elim
    | some p =>
      rw [z] at h2
      unfold getC at z
      split at z
      · rename_i i
        obtain ⟨il, rfl⟩ := r1
        split at z
        · rename_i ds hi
          split at z <;> cases z
          rename_i ha'
          obtain ⟨vs, a1, a2⟩ := n1.ok.ce i _ hi
          obtain ⟨q, b1, b2⟩ := atL_rep a2 ha'
          cases b2
          refine ⟨_, vs, n, _, rfl, rfl, a1, b1, he τ _ _ _ _ _ n1.ok _ (stepS (b := ⟨c, τ, m1, μ1.length, σ, G1, H1⟩) (AccS.from (τ1 := τ) (σ1 := σ) h2 n1) fun y μ2 w m2 G2 H2 n2 r2 h3 => ?_)⟩
          cases z : isInt y with
          | none => rw [z] at h3; exact h3.elim
          | some q =>
            rw [z] at h3
            cases isInt_inv z
            dsimp only at h3
            cases z2 : setC (refI (.ref i)) n (.int (f p q)) μ2 with
            | none => rw [z2] at h3; exact h3.elim
            | some μ3 =>
              rw [z2] at h3
              obtain ⟨ws, k, c1, c2, c3⟩ := setC_run (w := .int (f p q)) z2 n2 rfl
              refine ⟨p, q, rfl, r2, m1 i, _, _, k, rfl, rfl, ?_, c2, ?_⟩
              · rw [← show m2 i = m1 i from n2.ag i il]; exact c1
              · have e := n2.ag i il
                rw [show refI (.ref i) = i from rfl, show m2 i = m1 i from e] at c3
                exact h3 m2 σ G2 _ c3
        · cases z
      · cases z)
theorem ss_setI (ha : SE K c E ta a) (he : SE K c E te e) (hb : SE K c E tb b') : SS K c E (tAsg te (L2.gSub ta tb rSetL)) (mSetI a e b') := fun τ μ m σ G H o De h =>
  he _ _ _ _ _ _ o _ (stepS (b := ⟨c, τ, m, μ.length, σ, G, H⟩) h fun x μ1 v m1 G1 H1 n1 r1 h2 => ha τ _ _ _ _ _ n1.ok _ (stepS (b := ⟨c, τ, m1, μ1.length, σ, G1, H1⟩) (AccS.from (τ1 := τ) (σ1 := σ) h2 n1) fun y μ2 w m2 G2 H2 n2 r2 h3 =>
    hb τ _ _ _ _ _ n2.ok _ (stepS (b := ⟨c, τ, m2, μ2.length, σ, G2, H2⟩) (AccS.from (τ1 := τ) (σ1 := σ) h3 n2) fun z μ3 w3 m3 G3 H3 n3 r3 h4 => by
    split at h4
    · rename_i d i n hn
      cases isInt_inv hn
      have e3 := r2.mono n3.sg n3.ag n3.le
      obtain ⟨_, rfl⟩ := e3
      split at h4
      · rename_i μ4 hs
        obtain ⟨ws, k, c1, c2, c3⟩ := setC_run (w := v) hs n3 (Z.Rep.mono n3.sg _ _ (Z.Rep.mono n2.sg _ _ r1))
        exact ⟨_, _, _, k, rfl, r3, c1, c2, h4 m3 σ G3 _ c3⟩
      · exact h4.elim
    · exact h4.elim)))
theorem ss_fld {n f : String} (hc : Cls K (He.ga K (Str.ofString n))) (hn : NoAttr K (He.ga K (Str.ofString n)) (Str.ofString f)) (ha : SE K c E ta a) (he : SE K c E te e) : SS K c E (sFld K ta te (Str.ofString f)) (mFldS n f a e) := fun τ μ m σ G H o De h =>
  he _ _ _ _ _ _ o _ (stepS (b := ⟨c, τ, m, μ.length, σ, G, H⟩) h fun x μ1 v m1 G1 H1 n1 r1 h2 => ha τ _ _ _ _ _ n1.ok _ (stepS (b := ⟨c, τ, m1, μ1.length, σ, G1, H1⟩) (AccS.from (τ1 := τ) (σ1 := σ) h2 n1) fun y μ2 w m2 G2 H2 n2 r2 h3 => by
    split at h3
    · rename_i μ3 hp
      obtain ⟨q, C, dx, fs, rfl, q1, q2, q3, q4, q5⟩ := putFld_run hc hn hp n2 r2 (r1.mono n2.sg n2.ag n2.le)
      exact ⟨q, C, dx, fs, rfl, q1, q2, q3, q4, h3 m2 σ G2 _ q5⟩
    · exact h3.elim))
/-! ### loops -/
theorem ss_for (hi : SI K c E wi mi) (hg : SGI K c g mg) (hs : SS K c E ts s) : SS K c E (tFor wi g ts) (mFor mi mg s) := fun τ μ m σ G H o De h =>
  hi _ _ _ _ _ _ o _ (by
    unfold mFor at h
    cases zi : mi τ μ with
    | no => rw [zi] at h; exact h
    | ex e' μ1 => rw [zi] at h; exact h σ
    | v src μ1 =>
      rw [zi] at h
      intro J m1 G1 H1 n1 wk
      have n1' : Nx K ((⟨c, τ, m, μ.length, σ, G, H⟩ : Bs).lo τ σ) μ1 m1 G1 H1 := n1
      have h' : AccS K (((⟨c, τ, m, μ.length, σ, G, H⟩ : Bs).lo τ σ).to μ1 m1 G1 H1) E De (runF mg s src fuelN 0 τ μ1) := AccS.from (τ1 := τ) (σ1 := σ) h n1'
      let B : Bs := ⟨c, τ, m1, μ1.length, σ, G1, H1⟩
      refine ⟨fun i k σ' H' => ∃ τ' μ' m' G', Nx K (B.lo τ' σ') μ' m' G' H' ∧ AccS K B E De (runF mg s src k i τ' μ'), ⟨fuelN, τ, μ1, m1, G1, Nx.self n1.ok, h'⟩, ?_⟩
      rintro i k σ' H' ⟨τ', μ', m', G', nx, hr⟩
      cases k with
      | zero => exact hr.elim
      | succ k =>
        unfold runF at hr
        cases zs : srcAt src μ' i with
        | none => rw [zs] at hr; exact hr.elim
        | some os =>
          rw [zs] at hr
          cases os with
          | none => exact .inl ⟨wk.stop i _ _ _ _ _ _ nx zs, hr _ _ _ _ nx⟩
          | some it =>
            refine .inr ⟨wk.go i _ _ _ _ _ _ it nx zs, fun σ2 H2 => ∃ τ' μ' m' G', Nx K (B.lo τ' σ2) μ' m' G' H2 ∧ AccS K B E De (runF mg s src k (i + 1) τ' μ'), fun σ2 H2 q => ⟨k, Nat.lt_succ_self k, q⟩, fun x H2 y => ?_⟩
            have yy := wk.yl i _ _ _ _ _ _ it x H2 nx zs y
            dsimp only at hr
            cases zg : mg it τ' μ' with
            | none => rw [zg] at hr; exact hr.elim
            | some pq =>
              obtain ⟨τ3, μ3⟩ := pq
              rw [zg] at hr
              dsimp only at hr
              refine hg B it _ _ _ _ rfl zg _ _ _ _ _ _ nx yy _ fun m3 σ3 G3 H3 n3 => hs τ3 _ _ _ _ _ n3.ok _ ?_
              cases z : s τ3 μ3 with
              | nx τ4 μ4 => rw [z] at hr; exact fun m4 σ4 G4 H4 n4 => ⟨τ4, μ4, m4, G4, n3.transL n4, hr⟩
              | ct τ4 μ4 => rw [z] at hr; exact fun m4 σ4 G4 H4 n4 => ⟨τ4, μ4, m4, G4, n3.transL n4, hr⟩
              | bk τ4 μ4 => rw [z] at hr; exact fun m4 σ4 G4 H4 n4 => hr m4 σ4 G4 H4 (n3.transL n4)
              | rt r μ4 => rw [z] at hr; exact fun v τ4 m4 σ4 G4 H4 n4 => hr v τ4 m4 σ4 G4 H4 (n3.transL n4)
              | ex e τ4 μ4 => rw [z] at hr; exact fun σ4 d ws m4 G4 H4 n4 => hr σ4 d ws m4 G4 H4 (n3.transL n4)
              | no => rw [z] at hr; exact hr.elim)
theorem ss_while {n : Nat} (ht : ST K c E tt p) (hs : SS K c E ts s) : SS K c E (tWhile tt ts) (mWhile n p s) := fun τ μ m σ G H o De h => by
  let B : Bs := ⟨c, τ, m, μ.length, σ, G, H⟩
  refine ⟨fun k σ' H' => ∃ τ' μ' m' G', Nx K (B.lo τ' σ') μ' m' G' H' ∧ AccS K B E De (runW p s k τ' μ'), ⟨n, τ, μ, m, G, Nx.self o, h⟩, ?_⟩
  rintro k σ' H' ⟨τ', μ', m', G', nx, hr⟩
  cases k with
  | zero => exact hr.elim
  | succ k =>
    unfold runW at hr
    refine ht τ' _ _ _ _ _ nx.ok _ (fromV nx (stepS (b := B.lo τ' σ') hr fun x μ1 v m1 G1 H1 n1 r1 h1 => ?_))
    cases r1
    cases x with
    | false =>
      rw [if_neg (by decide)] at h1 ⊢
      exact h1 _ _ _ _ n1
    | true =>
      rw [if_pos rfl] at h1 ⊢
      refine ⟨fun σ2 H2 => ∃ τ' μ' m' G', Nx K (B.lo τ' σ2) μ' m' G' H2 ∧ AccS K B E De (runW p s k τ' μ'), fun σ2 H2 q => ⟨k, Nat.lt_succ_self k, q⟩, hs τ' _ _ _ _ _ n1.ok _ ?_⟩
      have n1' : Nx K (B.lo τ' σ') μ1 m1 G1 H1 := n1
      cases z : s τ' μ1 with
      | nx τ4 μ4 => rw [z] at h1; exact fun m4 σ4 G4 H4 n4 => ⟨τ4, μ4, m4, G4, n1'.transL n4, h1⟩
      | ct τ4 μ4 => rw [z] at h1; exact fun m4 σ4 G4 H4 n4 => ⟨τ4, μ4, m4, G4, n1'.transL n4, h1⟩
      | bk τ4 μ4 => rw [z] at h1; exact fun m4 σ4 G4 H4 n4 => h1 m4 σ4 G4 H4 (n1'.transL n4)
      | rt r μ4 => rw [z] at h1; exact fun v τ4 m4 σ4 G4 H4 n4 => h1 v τ4 m4 σ4 G4 H4 (n1'.transL n4)
      | ex e τ4 μ4 => rw [z] at h1; exact fun σ4 d ws m4 G4 H4 n4 => h1 σ4 d ws m4 G4 H4 (n1'.transL n4)
      | no => rw [z] at h1; exact h1.elim
/-! ### bodies -/
/-- what the caller sees of the end -/
theorem BOk.of {as : List Vx} {vs : List V} {m0 : Nat → Addr} {μ0 : Mu} {G0 H0 : Hp} (o : Ok K (cfgB μ0 m0 G0 H0) τ μ m σ G H) : BOk K μ0 m0 G0 H0 (μ.take μ0.length) m (frzG μ m μ0.length G H) H := by
  have low : μ0.length ≤ μ.length := o.low
  have ct := o.cut (σ0 := []) (τ0 := []) (n := μ0.length) (Nat.le_refl _) low rfl (fun i x h => by simp at h)
  have hl : (μ.take μ0.length).length = μ0.length := by rw [List.length_take]; omega
  refine ⟨ct.ex, ct.tu, ⟨ct.fr.g, fun a u z nx => ct.fr.h a u z fun q => ?_, ct.fr.n, ct.fr.t⟩, fun i hi => ?_, by omega, ct.ce, fun i hi => ?_, ct.inj⟩
  · rcases q with ⟨i, hi, e⟩ | ⟨p, hp, _⟩
    · exact nx ⟨i, hi, e⟩
    · cases hp
  · rcases (o.sp i (by omega)).2.2 with ⟨_, h⟩ | ⟨h, _⟩
    · exact h
    · exact absurd hi (Nat.not_lt.mpr h)
  · obtain ⟨h1, h2, h3⟩ := ct.sp i hi
    exact ⟨h1, h2, .inl (by omega)⟩
theorem start_get {N : List Str} {as : List Vx} {i : Nat} {x : Vx} {k : Nat} (h : (as.map some ++ List.replicate k none)[i]? = some (some x)) : as[i]? = some x := Z.start_get h
theorem Ok.start {N ps : List Str} {as : List Vx} {vs : List V} {μ0 : Mu} {m0 : Nat → Addr} {G0 H0 : Hp} (o : Ok K (cfgB μ0 m0 G0 H0) (as.map some) μ0 m0 (vs.map some) G0 H0) (h1 : as.length = ps.length) : Ok K (cfgB μ0 m0 G0 H0) (as.map some ++ List.replicate (N.length - ps.length) none) μ0 m0 (L2.start N vs) G0 H0 := by
  have hv : vs.length = as.length := by
    have := o.len
    simpa using this
  exact { o with
    len := by simp [L2.start, hv, h1]
    sl := fun i x h => by
      have z := Z.start_get h
      obtain ⟨v, q1, q2⟩ := o.sl i x (by rw [List.getElem?_map, z]; rfl)
      refine ⟨v, ?_, q2⟩
      have q1' : vs[i]? = some v := by
        rw [List.getElem?_map] at q1
        cases w : vs[i]? with
        | none => rw [w] at q1; cases q1
        | some y => rw [w] at q1; simpa using q1
      exact Z.start_of q1' }
/-- THE RULE for a def -/
theorem r_body {N ps : List Str} {t : XK → TS} (hb : ∀ c E, SS K c E (t E) s) :
    ∀ vs H Q E, FP ⟨K, body ps.length N.length s⟩ vs H Q E → t E { nx := fun _ H' => Q .non H', rt := Q } (L2.start N vs) H := by
  rintro vs H Q E ⟨G, m, as, μ, o, h⟩
  replace h : AccP (BX K μ m G H E) (BV K μ m G H Q) (body ps.length N.length s as μ) := h
  unfold body at h
  by_cases hl : as.length = ps.length
  case neg => rw [if_neg hl] at h; exact h.elim
  rw [if_pos hl] at h
  have os := o.start (N := N) (ps := ps) hl
  refine hb _ E _ _ _ _ _ _ os _ ?_
  cases z : s (as.map some ++ List.replicate (N.length - ps.length) none) μ with
  | nx τ1 μ1 =>
    rw [z] at h
    exact fun m1 σ1 G1 H1 n1 => h .non m1 _ H1 (BOk.of (as := as) (vs := vs) n1.ok) rfl
  | rt r μ1 =>
    rw [z] at h
    intro v τ1 m1 σ1 G1 H1 n1 r1
    have low : μ.length ≤ μ1.length := n1.ok.low
    have B := BOk.of (as := as) (vs := vs) n1.ok
    have hlen : (μ1.take μ.length).length = μ.length := by rw [List.length_take]; omega
    have fin : ∀ {x : Vx} {d : D}, fz μ1 μ.length 5 x = some d → RV K G1 m1 μ1.length x v → Q v H1 → Q v H1 := fun _ _ q => q
    have dat : ∀ {x : Vx} {d : D}, fz μ1 μ.length 5 x = some d → RV K G1 m1 μ1.length x v → Z.Rep (frzG μ1 m1 μ.length G1 H1) (dd K d) v := fun hx hr =>
      fz_rep (J := frzG μ1 m1 μ.length G1 H1) (n := μ.length) n1.ok.ce n1.ok.frz_sub (fun i cl hn hi => frz_at hn hi) 5 _ _ _ _ hx hr
    dsimp only at h
    unfold outV at h
    split at h
    · rename_i i
      split at h
      · rename_i hi
        exact h v m1 _ H1 B ⟨by rw [hlen]; exact hi, r1.2⟩
      · split at h
        · rename_i d hd
          exact h v m1 _ H1 B (dat hd r1)
        · exact h.elim
    · split at h
      · rename_i d hd
        exact h v m1 _ H1 B (dat hd r1)
      · exact h.elim
  | bk τ1 μ1 => rw [z] at h; exact h.elim
  | ct τ1 μ1 => rw [z] at h; exact h.elim
  | ex e τ1 μ1 =>
    rw [z] at h
    exact fun σ1 d ws m1 G1 H1 n1 e1 e2 e3 => h d ws m1 _ H1 (BOk.of (as := as) (vs := vs) n1.ok) e1 e2 (e3.mono n1.ok.frz_sub _ _)
  | no => rw [z] at h; exact h.elim
theorem len_body {k n : Nat} : ∀ vs H Q E, FP ⟨K, body k n s⟩ vs H Q E → vs.length = k := by
  rintro vs H Q E ⟨G, m, as, μ, o, h⟩
  replace h : AccP (BX K μ m G H E) (BV K μ m G H Q) (body k n s as μ) := h
  unfold body at h
  by_cases hl : as.length = k
  · have := o.len
    simp at this
    omega
  · rw [if_neg hl] at h; exact h.elim
end
end Y
set_option Elab.async false
set_option linter.all false
set_option maxRecDepth 100000
/-! A11: bodies that hand back a new list. -/
namespace Y
open PySem PySem.Spec PyProof.Rows L2 Z
section
variable {K : PySem.W.Frag} {s : MS}
theorem BOk.ofN {τ : Ls} {μ : Mu} {m : Nat → Addr} {σ : L2.St} {G H : Hp} {m0 : Nat → Addr} {μ0 : Mu} {G0 H0 : Hp} {i : Nat} {ds : List D} (o : Ok K (cfgB μ0 m0 G0 H0) τ μ m σ G H) (hi : μ[i]? = some (.ld ds)) (hn : μ0.length ≤ i) :
    BOk K μ0 m0 G0 H0 (μ.take μ0.length ++ [.ld ds]) (upN m μ0.length (m i)) G H := by
  have il := (List.getElem?_eq_some_iff.mp hi).1
  have hl : (μ.take μ0.length).length = μ0.length := by rw [List.length_take]; omega
  have hl2 : (μ.take μ0.length ++ [Cl.ld ds]).length = μ0.length + 1 := by rw [List.length_append, hl]; rfl
  have out : H0 (m i) = none := by
    rcases (o.sp i il).2.2 with ⟨h, _⟩ | ⟨_, h⟩
    · exact absurd h (Nat.not_lt.mpr hn)
    · exact h
  refine ⟨o.ex, o.tu, ⟨o.fr.g, fun a u z nx => o.fr.h a u z fun q => ?_, o.fr.n, o.fr.t⟩, fun j hj => ?_, by omega, fun j cl h => ?_, fun j hj => ?_, fun j k hj hk e => ?_⟩
  · rcases q with ⟨i, hi, e⟩ | ⟨p, hp, _⟩
    · exact nx ⟨i, hi, e⟩
    · cases hp
  · rw [upN_ne (by omega)]
    rcases (o.sp j (by omega)).2.2 with ⟨_, h⟩ | ⟨h, _⟩
    · exact h
    · exact absurd hj (Nat.not_lt.mpr h)
  · by_cases hj : j < μ0.length
    · rw [List.getElem?_append_left (by omega), List.getElem?_take_of_lt hj] at h
      refine (o.ce j cl h).mono (Same.refl _) (fun k hk => upN_ne (by omega)) rfl
    · have e : j = μ0.length := by
        have := (List.getElem?_eq_some_iff.mp h).1
        omega
      subst e
      rw [List.getElem?_append_right (by omega), hl, Nat.sub_self] at h
      cases h
      obtain ⟨vs, h1, h2⟩ := o.ce i _ hi
      exact ⟨vs, by rw [upN_same]; exact h1, h2⟩
  · rw [hl2] at hj
    by_cases e : j = μ0.length
    · subst e
      rw [upN_same]
      exact ⟨(o.sp i il).1, (o.sp i il).2.1, .inr out⟩
    · rw [upN_ne e]
      exact ⟨(o.sp j (by omega)).1, (o.sp j (by omega)).2.1, .inl (by omega)⟩
  · rw [hl2] at hj hk
    by_cases ej : j = μ0.length
    · by_cases ek : k = μ0.length
      · omega
      · rw [ej, upN_same, upN_ne ek] at e
        have := o.inj i k il (by omega) e
        omega
    · by_cases ek : k = μ0.length
      · rw [ek, upN_same, upN_ne ej] at e
        have := o.inj j i (by omega) il e
        omega
      · rw [upN_ne ej, upN_ne ek] at e
        exact o.inj j k (by omega) (by omega) e
theorem r_bodyN {N ps : List Str} {t : XK → TS} (hb : ∀ c E, SS K c E (t E) s) :
    ∀ vs H Q E, FP ⟨K, bodyN ps.length N.length s⟩ vs H Q E → t E { nx := fun _ H' => Q .non H', rt := Q } (L2.start N vs) H := by
  rintro vs H Q E ⟨G, m, as, μ, o, h⟩
  replace h : AccP (BX K μ m G H E) (BV K μ m G H Q) (bodyN ps.length N.length s as μ) := h
  unfold bodyN at h
  by_cases hl : as.length = ps.length
  case neg => rw [if_neg hl] at h; exact h.elim
  rw [if_pos hl] at h
  have os := o.start (N := N) (ps := ps) hl
  refine hb _ E _ _ _ _ _ _ os _ ?_
  cases z : s (as.map some ++ List.replicate (N.length - ps.length) none) μ with
  | nx τ1 μ1 => rw [z] at h; exact h.elim
  | rt r μ1 =>
    rw [z] at h
    intro v τ1 m1 σ1 G1 H1 n1 r1
    have low : μ.length ≤ μ1.length := n1.ok.low
    have hlen : (μ1.take μ.length).length = μ.length := by rw [List.length_take]; omega
    dsimp only at h
    unfold outN at h
    split at h
    · rename_i i
      split at h
      · exact h.elim
      · rename_i hi
        split at h
        · rename_i ds hd
          obtain ⟨r2, rfl⟩ := r1
          exact h _ _ _ H1 (BOk.ofN n1.ok hd (Nat.le_of_not_lt hi)) ⟨by rw [List.length_append, hlen]; exact Nat.lt_succ_self _, by rw [upN_same]⟩
        · exact h.elim
    · exact h.elim
  | bk τ1 μ1 => rw [z] at h; exact h.elim
  | ct τ1 μ1 => rw [z] at h; exact h.elim
  | ex e τ1 μ1 =>
    rw [z] at h
    exact fun σ1 d ws m1 G1 H1 n1 e1 e2 e3 => h d ws m1 _ H1 (BOk.of (as := as) (vs := vs) n1.ok) e1 e2 (e3.mono n1.ok.frz_sub _ _)
  | no => rw [z] at h; exact h.elim
theorem len_bodyN {k n : Nat} : ∀ vs H Q E, FP ⟨K, bodyN k n s⟩ vs H Q E → vs.length = k := by
  rintro vs H Q E ⟨G, m, as, μ, o, h⟩
  replace h : AccP (BX K μ m G H E) (BV K μ m G H Q) (bodyN k n s as μ) := h
  unfold bodyN at h
  by_cases hl : as.length = k
  · have := o.len
    simp at this
    omega
  · rw [if_neg hl] at h; exact h.elim
theorem no_no {vs : List V} {H : Hp} {Q : VK} {E : XK} (h : FP ⟨K, fun _ _ => .no⟩ vs H Q E) : False := by
  obtain ⟨G, m, as, μ, o, h⟩ := h
  exact h
end
end Y
set_option Elab.async false
set_option linter.all false
set_option maxRecDepth 100000
set_option maxHeartbeats 0
namespace Y
open PySem PySem.Spec PyProof.Rows L2 Z
def topS (i : Nat) : Stmt := PySem.Challenge.pw_aheadfold_k09_whole_walkers_are_equal_wh.main.body.getD i (.Pass ⟨0, 0, 0, 0⟩)
structure KWalker (K : PySem.W.Frag) : Prop where
  k : KCls K (He.ga K "Walker")
  front : NoAttr K (He.ga K "Walker") "front"
  home : NoAttr K (He.ga K "Walker") "home"
  round : NoAttr K (He.ga K "Walker") "round"
structure KWeb (K : PySem.W.Frag) : Prop where
  k : KCls K (He.ga K "Web")
  coming : NoAttr K (He.ga K "Web") "coming"
  leaving : NoAttr K (He.ga K "Web") "leaving"
  pairs : NoAttr K (He.ga K "Web") "pairs"
  size : NoAttr K (He.ga K "Web") "size"
structure Tx (K : PySem.W.Frag) (mg : Str → Option Value) : Prop where
  c_Walker : Cls K (He.ga K "Walker")
  c_Web : Cls K (He.ga K "Web")
  f_all : mg "all" = none
  f_bool : mg "bool" = none
  f_enumerate : mg "enumerate" = none
  f_int : mg "int" = none
  f_isinstance : mg "isinstance" = none
  f_len : mg "len" = none
  f_list : mg "list" = none
  f_range : mg "range" = none
  f_tuple : mg "tuple" = none
  g_Walker : mg "Walker" = some (.ref (He.ga K "Walker"))
  g_Web : mg "Web" = some (.ref (He.ga K "Web"))
  g__law_bag : mg "_law_bag" = some (.ref (He.ga K "_law_bag"))
  g__law_beats : mg "_law_beats" = some (.ref (He.ga K "_law_beats"))
  g__law_made : mg "_law_made" = some (.ref (He.ga K "_law_made"))
  g__law_mixed : mg "_law_mixed" = some (.ref (He.ga K "_law_mixed"))
  g__law_of : mg "_law_of" = some (.ref (He.ga K "_law_of"))
  g__law_on : mg "_law_on" = some (.ref (He.ga K "_law_on"))
  g__law_outs : mg "_law_outs" = some (.ref (He.ga K "_law_outs"))
  g__law_pull : mg "_law_pull" = some (.ref (He.ga K "_law_pull"))
  g__law_walk : mg "_law_walk" = some (.ref (He.ga K "_law_walk"))
  g__law_walker : mg "_law_walker" = some (.ref (He.ga K "_law_walker"))
  g__law_web : mg "_law_web" = some (.ref (He.ga K "_law_web"))
  g_drawn_in : mg "drawn_in" = some (.ref (He.ga K "drawn_in"))
  g_is_listed : mg "is_listed" = some (.ref (He.ga K "is_listed"))
  g_is_pair : mg "is_pair" = some (.ref (He.ga K "is_pair"))
  g_is_within : mg "is_within" = some (.ref (He.ga K "is_within"))
  g_shortest_ring : mg "shortest_ring" = some (.ref (He.ga K "shortest_ring"))
  i_MOST_ARROWS : ∃ t, mg "MOST_ARROWS" = some (.int 400 t)
  i_MOST_ROOMS : ∃ t, mg "MOST_ROOMS" = some (.int 100 t)
  k_Walker : KWalker K
  k_Web : KWeb K
  m_Walker_arrow : Meth K (He.ga K "Walker") "arrow" (He.fAd K ("Walker", some "arrow"))
  m_Walker_arrow_at : Meth K (He.ga K "Walker") "arrow_at" (He.fAd K ("Walker", some "arrow_at"))
  m_Web_begin : Meth K (He.ga K "Web") "begin" (He.fAd K ("Web", some "begin"))
  m_Web_end : Meth K (He.ga K "Web") "end" (He.fAd K ("Web", some "end"))
  m_Web_first_wrong : Meth K (He.ga K "Web") "first_wrong" (He.fAd K ("Web", some "first_wrong"))
  m_Web_has_arrow : Meth K (He.ga K "Web") "has_arrow" (He.fAd K ("Web", some "has_arrow"))
  mk_Walker : Mk K (He.ga K "Walker") (He.fAd K ("Walker", some "__init__"))
  mk_Web : Mk K (He.ga K "Web") (He.fAd K ("Web", some "__init__"))
  mo_Walker : PySem.W.mroIn K (He.ga K "Walker") (.type "object") = some true
  mo_Web : PySem.W.mroIn K (He.ga K "Web") (.type "object") = some true
  ne_Walker : PySem.W.findIn K (.ref (He.ga K "Walker")) "__ne__" = some (some (.builtin "object.__ne__"))
  ne_Web : PySem.W.findIn K (.ref (He.ga K "Web")) "__ne__" = some (some (.builtin "object.__ne__"))
  q_Walker : PySem.W.findIn K (.ref (He.ga K "Walker")) "__eq__" = some (some (.ref (He.fAd K ("Walker", some "__eq__"))))
  q_Web : PySem.W.findIn K (.ref (He.ga K "Web")) "__eq__" = some (some (.ref (He.fAd K ("Web", some "__eq__"))))
  qf_Walker : PySem.W.isFn K (.ref (He.fAd K ("Walker", some "__eq__"))) = true
  qf_Web : PySem.W.isFn K (.ref (He.fAd K ("Web", some "__eq__"))) = true
abbrev S__law_bag (K : PySem.W.Frag) : SpecA := ⟨K, sem__law_bag⟩
def t__law_bag (K : PySem.W.Frag) (E : XK) : TS := (tSeq (tAsg (tC (.int 53)) (gName 1))
    (tSeq (tFor (iSeq K (tSl (rSlL K) (tVar 0) tNoPart (tPart (tC (.int 63))))) (gName 2)
    (tAsg (tOp rModI (tOp rAddI (tOp rAddI (tOp rMulI (tVar 1) (tC (.int 69069))) (tVar 2)) (tC (.int 11))) (tC (.int 2147483629))) (gName 1)))
    (tRet (tLst (tCons (tCB (rListOf K) (tCons (tSl (rSlL K) (tVar 0) tNoPart (tPart (tC (.int 63)))) tNil)) (tCons (tC (.int 0)) (tCons (tC (.int 0)) (tCons (tVar 1) (tCons (tC (.int 0)) tNil)))))))))
theorem u__law_bag {K : PySem.W.Frag} {mg : Str → Option Value} (T : Tx K mg) (c : Cfg) (E : XK) : SS K c E (t__law_bag K E) m__law_bag := by
  exact (ss_seq (ss_asg se_int sg_name)
    (ss_seq (ss_for (si_seq (se_dt (sl_sl se_var so_none (so_some se_int)))) sgi_name
    (ss_asg (se_op os_mod (se_op os_add (se_op os_add (se_op os_mul se_var se_int) se_var) se_int) se_int) sg_name))
    (ss_ret (se_al (sl_lst (sa_cons (se_dt (sl_cu l1_list (se_dt (sl_sl se_var so_none (so_some se_int))))) (sa_cons se_int (sa_cons se_int (sa_cons se_var (sa_cons se_int sa_nil))))))))))
theorem r__law_bag {K : PySem.W.Frag} {mg : Str → Option Value} (T : Tx K mg) : ∀ vs H Q E, FP (S__law_bag K) vs H Q E → t__law_bag K E { nx := fun _ H' => Q .non H', rt := Q } (L2.start ["_law_script", "_law_seed", "_law_cell"] vs) H := r_bodyN (N := ["_law_script", "_law_seed", "_law_cell"]) (ps := ["_law_script"]) fun c E => u__law_bag T c E
abbrev S__law_pull (K : PySem.W.Frag) : SpecA := ⟨K, sem__law_pull⟩
def t__law_pull (K : PySem.W.Frag) (E : XK) : TS := (tSeq (tAugS (tVar 0) (tC (.int 4)) (tC (.int 1)) rGetL (ipI fun i j => i + j) rSetL)
    (tSeq (tIfS (tTest (tOp rGtI (tOp (rIx K) (tVar 0) (tC (.int 2))) (tC (.int 0))))
    (tSeq (tAsg (tOp (rIx K) (tVar 0) (tC (.int 2))) (gName 2))
    (tSeq (tAsg (tOp rDivI (tVar 2) (tVar 1)) (gSub (tVar 0) (tC (.int 2)) rSetL))
    (tRet (tOp rModI (tVar 2) (tVar 1)))))
    tNext)
    (tSeq (tAsg (tOp (rIx K) (tVar 0) (tC (.int 3))) (gName 3))
    (tSeq (tIfS (tTest (tOp rLtI (tOp (rIx K) (tVar 0) (tC (.int 1))) (tCB (rLen K) (tCons (tOp (rIx K) (tVar 0) (tC (.int 0))) tNil))))
    (tSeq (tAsg (tOp (rIx K) (tOp (rIx K) (tVar 0) (tC (.int 0))) (tOp (rIx K) (tVar 0) (tC (.int 1)))) (gName 3))
    (tAugS (tVar 0) (tC (.int 1)) (tC (.int 1)) rGetL (ipI fun i j => i + j) rSetL))
    tNext)
    (tSeq (tIfS (tTest (tOp rGeI (tVar 3) (tOp rPowI (tC (.int 10)) (tC (.int 18)))))
    (tSeq (tAsg (tOp rDivI (tVar 3) (tVar 1)) (gSub (tVar 0) (tC (.int 2)) rSetL))
    (tRet (tOp rModI (tVar 3) (tVar 1))))
    tNext)
    (tSeq (tAsg (tOp rModI (tOp rAddI (tOp rAddI (tOp rAddI (tOp rMulI (tVar 3) (tC (.int 48271))) (tOp rMulI (tOp (rIx K) (tVar 0) (tC (.int 3))) (tC (.int 40503)))) (tOp rMulI (tOp (rIx K) (tVar 0) (tC (.int 4))) (tC (.int 69621)))) (tC (.int 9176))) (tC (.int 2147483629))) (gName 4))
    (tSeq (tAsg (tOp rModI (tOp rAddI (tOp rAddI (tOp rMulI (tVar 4) (tOp rAddI (tOp rModI (tVar 4) (tC (.int 65521))) (tC (.int 13)))) (tOp rMulI (tOp (rIx K) (tVar 0) (tC (.int 4))) (tC (.int 40692)))) (tOp rModI (tOp (rIx K) (tVar 0) (tC (.int 3))) (tC (.int 104729)))) (tC (.int 998244353))) (gName 5))
    (tSeq (tAsg (tOp rModI (tOp rAddI (tOp rMulI (tOp (rIx K) (tVar 0) (tC (.int 3))) (tC (.int 16807))) (tVar 5)) (tC (.int 2147483563))) (gSub (tVar 0) (tC (.int 3)) rSetL))
    (tRet (tOp rModI (tOp rDivI (tVar 5) (tC (.int 7))) (tVar 1)))))))))))
theorem u__law_pull {K : PySem.W.Frag} {mg : Str → Option Value} (T : Tx K mg) (c : Cfg) (E : XK) : SS K c E (t__law_pull K E) m__law_pull := by
  exact (ss_seq (ss_augS (n := 4) se_var se_int)
    (ss_seq (ss_if (st_test (se_op os_gt (se_b f2_ix se_var se_int) se_int)) (ss_seq (ss_asg (se_b f2_ix se_var se_int) sg_name)
    (ss_seq (ss_setI se_var (se_op os_div se_var se_var) se_int)
    (ss_ret (se_op os_mod se_var se_var)))) ss_next)
    (ss_seq (ss_asg (se_b f2_ix se_var se_int) sg_name)
    (ss_seq (ss_if (st_test (se_op os_lt (se_b f2_ix se_var se_int) (se_cu f1_len (se_b f2_ix se_var se_int)))) (ss_seq (ss_asg (se_b f2_ix (se_b f2_ix se_var se_int) (se_b f2_ix se_var se_int)) sg_name)
    (ss_augS (n := 1) se_var se_int)) ss_next)
    (ss_seq (ss_if (st_test (se_op os_ge se_var (se_op os_pow se_int se_int))) (ss_seq (ss_setI se_var (se_op os_div se_var se_var) se_int)
    (ss_ret (se_op os_mod se_var se_var))) ss_next)
    (ss_seq (ss_asg (se_op os_mod (se_op os_add (se_op os_add (se_op os_add (se_op os_mul se_var se_int) (se_op os_mul (se_b f2_ix se_var se_int) se_int)) (se_op os_mul (se_b f2_ix se_var se_int) se_int)) se_int) se_int) sg_name)
    (ss_seq (ss_asg (se_op os_mod (se_op os_add (se_op os_add (se_op os_mul se_var (se_op os_add (se_op os_mod se_var se_int) se_int)) (se_op os_mul (se_b f2_ix se_var se_int) se_int)) (se_op os_mod (se_b f2_ix se_var se_int) se_int)) se_int) sg_name)
    (ss_seq (ss_setI se_var (se_op os_mod (se_op os_add (se_op os_mul (se_b f2_ix se_var se_int) se_int) se_var) se_int) se_int)
    (ss_ret (se_op os_mod (se_op os_div se_var se_int) se_var))))))))))
theorem r__law_pull {K : PySem.W.Frag} {mg : Str → Option Value} (T : Tx K mg) : ∀ vs H Q E, FP (S__law_pull K) vs H Q E → t__law_pull K E { nx := fun _ H' => Q .non H', rt := Q } (L2.start ["_law_bag_here", "_law_many", "_law_rest", "_law_cell", "_law_one", "_law_two"] vs) H := r_body (N := ["_law_bag_here", "_law_many", "_law_rest", "_law_cell", "_law_one", "_law_two"]) (ps := ["_law_bag_here", "_law_many"]) fun c E => u__law_pull T c E
abbrev S__law_mixed (K : PySem.W.Frag) : SpecA := ⟨K, sem__law_mixed⟩
def t__law_mixed (K : PySem.W.Frag) (E : XK) : TS := (tSeq (tPar 2 3 (tCons (tCB (rListOf K) (tCons (tVar 1) tNil)) (tCons (tLst tNil) tNil)))
    (tSeq (tFor (iRng1 (tCons (tCB (rLen K) (tCons (tVar 1) tNil)) tNil)) (gName 4)
    (tDrop (tBM K "list" rAppend (tVar 3) (tCons (tBM K "list" rPopAt (tVar 2) (tCons (tCall (FP (S__law_pull K)) [] E (tCons (tVar 0) (tCons (tCB (rLen K) (tCons (tVar 2) tNil)) tNil))) tNil)) tNil))))
    (tRet (tVar 3))))
theorem u__law_mixed {K : PySem.W.Frag} {mg : Str → Option Value} (T : Tx K mg) (c : Cfg) (E : XK) : SS K c E (t__law_mixed K E) m__law_mixed := by
  exact (ss_seq (ss_par (se_al (sl_cu l1_list se_var)) (se_al (sl_lst sa_nil)))
    (ss_seq (ss_for (si_rng1 (sa_cons (se_cu f1_len se_var) sa_nil)) sgi_name
    (ss_drop (se_app se_var (se_popAt se_var (se_call (S := sem__law_pull) (sa_cons se_var (sa_cons (se_cu f1_len se_var) sa_nil)))))))
    (ss_ret se_var)))
theorem r__law_mixed {K : PySem.W.Frag} {mg : Str → Option Value} (T : Tx K mg) : ∀ vs H Q E, FP (S__law_mixed K) vs H Q E → t__law_mixed K E { nx := fun _ H' => Q .non H', rt := Q } (L2.start ["_law_bag_here", "_law_some", "_law_left", "_law_found", "_law_k"] vs) H := r_body (N := ["_law_bag_here", "_law_some", "_law_left", "_law_found", "_law_k"]) (ps := ["_law_bag_here", "_law_some"]) fun c E => u__law_mixed T c E
abbrev S__law_web (K : PySem.W.Frag) : SpecA := ⟨K, sem__law_web⟩
def t__law_web (K : PySem.W.Frag) (E : XK) : TS := (tSeq (tAsg (tOp rAddI (tC (.int 1)) (tCall (FP (S__law_pull K)) [] E (tCons (tVar 0) (tCons (tVar 1) tNil)))) (gName 3))
    (tSeq (tAsg (tLc (iRng1 (tCons (tVar 3) tNil)) (gName 6) tYes (tTup (tCons (tVar 6) (tCons (tCall (FP (S__law_pull K)) [] E0 (tCons (tVar 0) (tCons (tVar 3) tNil))) tNil))) [6]) (gName 4))
    (tSeq (tFor (iRng1 (tCons (tCall (FP (S__law_pull K)) [] E (tCons (tVar 0) (tCons (tOp rAddI (tVar 2) (tC (.int 1))) tNil))) tNil)) (gName 5)
    (tDrop (tBM K "list" rAppend (tVar 4) (tCons (tTup (tCons (tCall (FP (S__law_pull K)) [] E (tCons (tVar 0) (tCons (tVar 3) tNil))) (tCons (tCall (FP (S__law_pull K)) [] E (tCons (tVar 0) (tCons (tVar 3) tNil))) tNil))) tNil))))
    (tRet (tTup (tCons (tVar 3) (tCons (tCB (rTupN K) (tCons (tCall (FP (S__law_mixed K)) [] E (tCons (tVar 0) (tCons (tVar 4) tNil))) tNil)) tNil)))))))
theorem u__law_web {K : PySem.W.Frag} {mg : Str → Option Value} (T : Tx K mg) (c : Cfg) (E : XK) : SS K c E (t__law_web K E) m__law_web := by
  exact (ss_seq (ss_asg (se_op os_add se_int (se_call (S := sem__law_pull) (sa_cons se_var (sa_cons se_var sa_nil)))) sg_name)
    (ss_seq (ss_asg (se_al (sl_lc (gw_name (by decide)) (si_rng1 (sa_cons se_var sa_nil)) sgi_name st_yes (se_tup (sa_cons se_var (sa_cons (se_call (S := sem__law_pull) (sa_cons se_var (sa_cons se_var sa_nil))) sa_nil))))) sg_name)
    (ss_seq (ss_for (si_rng1 (sa_cons (se_call (S := sem__law_pull) (sa_cons se_var (sa_cons (se_op os_add se_var se_int) sa_nil))) sa_nil)) sgi_name
    (ss_drop (se_app se_var (se_tup (sa_cons (se_call (S := sem__law_pull) (sa_cons se_var (sa_cons se_var sa_nil))) (sa_cons (se_call (S := sem__law_pull) (sa_cons se_var (sa_cons se_var sa_nil))) sa_nil))))))
    (ss_ret (se_tup (sa_cons se_var (sa_cons (se_cu f1_tup (se_call (S := sem__law_mixed) (sa_cons se_var (sa_cons se_var sa_nil)))) sa_nil)))))))
theorem r__law_web {K : PySem.W.Frag} {mg : Str → Option Value} (T : Tx K mg) : ∀ vs H Q E, FP (S__law_web K) vs H Q E → t__law_web K E { nx := fun _ H' => Q .non H', rt := Q } (L2.start ["_law_bag_here", "_law_rooms_most", "_law_more_most", "_law_rooms", "_law_pairs", "_law_k", "_law_room"] vs) H := r_body (N := ["_law_bag_here", "_law_rooms_most", "_law_more_most", "_law_rooms", "_law_pairs", "_law_k", "_law_room"]) (ps := ["_law_bag_here", "_law_rooms_most", "_law_more_most"]) fun c E => u__law_web T c E
abbrev S__law_of (K : PySem.W.Frag) : SpecA := ⟨K, sem__law_of⟩
def t__law_of (K : PySem.W.Frag) (E : XK) : TS := (tRet (tOp (rIx K) (tVar 1) (tCall (FP (S__law_pull K)) [] E (tCons (tVar 0) (tCons (tCB (rLen K) (tCons (tVar 1) tNil)) tNil)))))
theorem u__law_of {K : PySem.W.Frag} {mg : Str → Option Value} (T : Tx K mg) (c : Cfg) (E : XK) : SS K c E (t__law_of K E) m__law_of := by
  exact (ss_ret (se_b f2_ix se_var (se_call (S := sem__law_pull) (sa_cons se_var (sa_cons (se_cu f1_len se_var) sa_nil)))))
theorem r__law_of {K : PySem.W.Frag} {mg : Str → Option Value} (T : Tx K mg) : ∀ vs H Q E, FP (S__law_of K) vs H Q E → t__law_of K E { nx := fun _ H' => Q .non H', rt := Q } (L2.start ["_law_bag_here", "_law_some"] vs) H := r_body (N := ["_law_bag_here", "_law_some"]) (ps := ["_law_bag_here", "_law_some"]) fun c E => u__law_of T c E
abbrev S__law_outs (K : PySem.W.Frag) : SpecA := ⟨K, sem__law_outs⟩
def t__law_outs (K : PySem.W.Frag) (E : XK) : TS := (tRet (tLc (iEnumA K (tCons (tOp (rIx K) (tVar 0) (tC (.int 1))) tNil)) (gTup K 2 (gCons (gName 2) (gCons (gName 3) gNil))) (tTest (tOp (rEqD K) (tOp (rIx K) (tVar 3) (tC (.int 0))) (tVar 1))) (tVar 2) [2, 3]))
theorem u__law_outs {K : PySem.W.Frag} {mg : Str → Option Value} (T : Tx K mg) (c : Cfg) (E : XK) : SS K c E (t__law_outs K E) m__law_outs := by
  exact (ss_ret (se_dt (sl_lc (gw_tup (gws_name (by decide) (gws_name (by decide) gws_nil))) (si_enum (sa_cons (se_b f2_ix se_var se_int) sa_nil)) (sgi_tup2 sg_name sg_name) (st_test (se_op os_eq (se_b f2_ix se_var se_int) se_var)) se_var)))
theorem r__law_outs {K : PySem.W.Frag} {mg : Str → Option Value} (T : Tx K mg) : ∀ vs H Q E, FP (S__law_outs K) vs H Q E → t__law_outs K E { nx := fun _ H' => Q .non H', rt := Q } (L2.start ["_law_w", "_law_room", "_law_at", "_law_pair"] vs) H := r_body (N := ["_law_w", "_law_room", "_law_at", "_law_pair"]) (ps := ["_law_w", "_law_room"]) fun c E => u__law_outs T c E
abbrev S__law_on (K : PySem.W.Frag) : SpecA := ⟨K, sem__law_on⟩
def t__law_on (K : PySem.W.Frag) (E : XK) : TS := (tRet (tCall (FP (S__law_outs K)) [] E (tCons (tVar 0) (tCons (tOp (rIx K) (tOp (rIx K) (tOp (rIx K) (tVar 0) (tC (.int 1))) (tVar 1)) (tC (.int 1))) tNil))))
theorem u__law_on {K : PySem.W.Frag} {mg : Str → Option Value} (T : Tx K mg) (c : Cfg) (E : XK) : SS K c E (t__law_on K E) m__law_on := by
  exact (ss_ret (se_call (S := sem__law_outs) (sa_cons se_var (sa_cons (se_b f2_ix (se_b f2_ix (se_b f2_ix se_var se_int) se_var) se_int) sa_nil))))
theorem r__law_on {K : PySem.W.Frag} {mg : Str → Option Value} (T : Tx K mg) : ∀ vs H Q E, FP (S__law_on K) vs H Q E → t__law_on K E { nx := fun _ H' => Q .non H', rt := Q } (L2.start ["_law_w", "_law_arrow"] vs) H := r_body (N := ["_law_w", "_law_arrow"]) (ps := ["_law_w", "_law_arrow"]) fun c E => u__law_on T c E
abbrev S__law_walk (K : PySem.W.Frag) : SpecA := ⟨K, sem__law_walk⟩
def t__law_walk (K : PySem.W.Frag) (E : XK) : TS := (tSeq (tAsg (tCall (FP (S__law_pull K)) [] E (tCons (tVar 0) (tCons (tCB (rLen K) (tCons (tOp (rIx K) (tVar 1) (tC (.int 1))) tNil)) tNil))) (gName 2))
    (tSeq (tAsg (tLst (tCons (tVar 2) tNil)) (gName 3))
    (tSeq (tFor (iRng1 (tCons (tCall (FP (S__law_pull K)) [] E (tCons (tVar 0) (tCons (tC (.int 5)) tNil))) tNil)) (gName 4)
    (tDrop (tBM K "list" rAppend (tVar 3) (tCons (tCall (FP (S__law_of K)) [] E (tCons (tVar 0) (tCons (tCall (FP (S__law_on K)) [] E (tCons (tVar 1) (tCons (tOp (rIx K) (tVar 3) (tUn rNegI (tC (.int 1)))) tNil))) tNil))) tNil))))
    (tSeq (tAsg (tLc (iSeq K (tVar 3)) (gName 7) tYes (tOp (rIx K) (tOp (rIx K) (tOp (rIx K) (tVar 1) (tC (.int 1))) (tVar 7)) (tC (.int 0))) [7]) (gName 5))
    (tSeq (tWhile (tTest (tOp (rNotInD K) (tOp (rIx K) (tOp (rIx K) (tOp (rIx K) (tVar 1) (tC (.int 1))) (tOp (rIx K) (tVar 3) (tUn rNegI (tC (.int 1))))) (tC (.int 1))) (tVar 5)))
    (tSeq (tDrop (tBM K "list" rAppend (tVar 3) (tCons (tCall (FP (S__law_of K)) [] E (tCons (tVar 0) (tCons (tCall (FP (S__law_on K)) [] E (tCons (tVar 1) (tCons (tOp (rIx K) (tVar 3) (tUn rNegI (tC (.int 1)))) tNil))) tNil))) tNil)))
    (tDrop (tBM K "list" rAppend (tVar 5) (tCons (tOp (rIx K) (tOp (rIx K) (tOp (rIx K) (tVar 1) (tC (.int 1))) (tOp (rIx K) (tVar 3) (tUn rNegI (tC (.int 1))))) (tC (.int 0))) tNil)))))
    (tSeq (tAsg (tOp (rIx K) (tLc (iEnumA K (tCons (tVar 5) tNil)) (gTup K 2 (gCons (gName 4) (gCons (gName 8) gNil))) (tTest (tOp (rEqD K) (tVar 8) (tOp (rIx K) (tOp (rIx K) (tOp (rIx K) (tVar 1) (tC (.int 1))) (tOp (rIx K) (tVar 3) (tUn rNegI (tC (.int 1))))) (tC (.int 1))))) (tVar 4) [4, 8]) (tUn rNegI (tC (.int 1)))) (gName 6))
    (tRet (tTup (tCons (tSl (rSlL K) (tVar 3) tNoPart (tPart (tVar 6))) (tCons (tSl (rSlL K) (tVar 3) (tPart (tVar 6)) tNoPart) tNil))))))))))
theorem u__law_walk {K : PySem.W.Frag} {mg : Str → Option Value} (T : Tx K mg) (c : Cfg) (E : XK) : SS K c E (t__law_walk K E) m__law_walk := by
  exact (ss_seq (ss_asg (se_call (S := sem__law_pull) (sa_cons se_var (sa_cons (se_cu f1_len (se_b f2_ix se_var se_int)) sa_nil))) sg_name)
    (ss_seq (ss_asg (se_al (sl_lst (sa_cons se_var sa_nil))) sg_name)
    (ss_seq (ss_for (si_rng1 (sa_cons (se_call (S := sem__law_pull) (sa_cons se_var (sa_cons se_int sa_nil))) sa_nil)) sgi_name
    (ss_drop (se_app se_var (se_call (S := sem__law_of) (sa_cons se_var (sa_cons (se_call (S := sem__law_on) (sa_cons se_var (sa_cons (se_b f2_ix se_var (se_u f1_neg se_int)) sa_nil))) sa_nil))))))
    (ss_seq (ss_asg (se_al (sl_lc (gw_name (by decide)) (si_seq se_var) sgi_name st_yes (se_b f2_ix (se_b f2_ix (se_b f2_ix se_var se_int) se_var) se_int))) sg_name)
    (ss_seq (ss_while (st_test (se_op os_notIn (se_b f2_ix (se_b f2_ix (se_b f2_ix se_var se_int) (se_b f2_ix se_var (se_u f1_neg se_int))) se_int) se_var))
    (ss_seq (ss_drop (se_app se_var (se_call (S := sem__law_of) (sa_cons se_var (sa_cons (se_call (S := sem__law_on) (sa_cons se_var (sa_cons (se_b f2_ix se_var (se_u f1_neg se_int)) sa_nil))) sa_nil)))))
    (ss_drop (se_app se_var (se_b f2_ix (se_b f2_ix (se_b f2_ix se_var se_int) (se_b f2_ix se_var (se_u f1_neg se_int))) se_int)))))
    (ss_seq (ss_asg (se_b f2_ix (se_dt (sl_lc (gw_tup (gws_name (by decide) (gws_name (by decide) gws_nil))) (si_enum (sa_cons se_var sa_nil)) (sgi_tup2 sg_name sg_name) (st_test (se_op os_eq se_var (se_b f2_ix (se_b f2_ix (se_b f2_ix se_var se_int) (se_b f2_ix se_var (se_u f1_neg se_int))) se_int))) se_var)) (se_u f1_neg se_int)) sg_name)
    (ss_ret (se_tup (sa_cons (se_dt (sl_sl se_var so_none (so_some se_var))) (sa_cons (se_dt (sl_sl se_var (so_some se_var) so_none)) sa_nil))))))))))
theorem r__law_walk {K : PySem.W.Frag} {mg : Str → Option Value} (T : Tx K mg) : ∀ vs H Q E, FP (S__law_walk K) vs H Q E → t__law_walk K E { nx := fun _ H' => Q .non H', rt := Q } (L2.start ["_law_bag_here", "_law_w", "_law_arrow", "_law_row", "_law_k", "_law_begins", "_law_at", "_law_one", "_law_room"] vs) H := r_body (N := ["_law_bag_here", "_law_w", "_law_arrow", "_law_row", "_law_k", "_law_begins", "_law_at", "_law_one", "_law_room"]) (ps := ["_law_bag_here", "_law_w"]) fun c E => u__law_walk T c E
abbrev S__law_beats (K : PySem.W.Frag) : SpecA := ⟨K, sem__law_beats⟩
def t__law_beats (K : PySem.W.Frag) (E : XK) : TS := (tSeq (tAsg (tVar 0) (gTup K 2 (gCons (gName 2) (gCons (gName 3) gNil))))
    (tSeq (tAsg (tCB (rListOf K) (tCons (tVar 2) tNil)) (gName 4))
    (tSeq (tWhile (tTest (tOp rLtI (tCB (rLen K) (tCons (tVar 4) tNil)) (tVar 1)))
    (tAsg (tOp rCat (tVar 4) (tCB (rListOf K) (tCons (tVar 3) tNil))) (gName 4)))
    (tRet (tSl (rSlL K) (tVar 4) tNoPart (tPart (tVar 1)))))))
theorem u__law_beats {K : PySem.W.Frag} {mg : Str → Option Value} (T : Tx K mg) (c : Cfg) (E : XK) : SS K c E (t__law_beats K E) m__law_beats := by
  exact (ss_seq (ss_asg se_var (sg_tup2 sg_name sg_name))
    (ss_seq (ss_asg (se_dt (sl_cu l1_list se_var)) sg_name)
    (ss_seq (ss_while (st_test (se_op os_lt (se_cu f1_len se_var) se_var))
    (ss_asg (se_dt (sl_b l2_cat se_var (se_dt (sl_cu l1_list se_var)))) sg_name))
    (ss_ret (se_dt (sl_sl se_var so_none (so_some se_var)))))))
theorem r__law_beats {K : PySem.W.Frag} {mg : Str → Option Value} (T : Tx K mg) : ∀ vs H Q E, FP (S__law_beats K) vs H Q E → t__law_beats K E { nx := fun _ H' => Q .non H', rt := Q } (L2.start ["_law_walk_here", "_law_many", "_law_ahead", "_law_ring", "_law_found"] vs) H := r_body (N := ["_law_walk_here", "_law_many", "_law_ahead", "_law_ring", "_law_found"]) (ps := ["_law_walk_here", "_law_many"]) fun c E => u__law_beats T c E
abbrev S_is_within (K : PySem.W.Frag) : SpecA := ⟨K, sem_is_within⟩
def t_is_within (K : PySem.W.Frag) (E : XK) : TS := (tRet (tAndV (tCB (rIsi K) (tCons (tVar 0) (tCons (tC (.ty "int")) tNil))) (tAndV (tNotV (tCB (rIsi K) (tCons (tVar 0) (tCons (tC (.ty "bool")) tNil)))) (tChain rLeI rLeI (tVar 1) (tVar 0) (tVar 2)))))
theorem u_is_within {K : PySem.W.Frag} {mg : Str → Option Value} (T : Tx K mg) (c : Cfg) (E : XK) : SS K c E (t_is_within K E) m_is_within := by
  exact (ss_ret (se_andV (se_isi se_var) (se_andV (se_notV (se_isi se_var)) (se_chain os_le os_le se_var se_var se_var))))
theorem r_is_within {K : PySem.W.Frag} {mg : Str → Option Value} (T : Tx K mg) : ∀ vs H Q E, FP (S_is_within K) vs H Q E → t_is_within K E { nx := fun _ H' => Q .non H', rt := Q } (L2.start ["thing", "low", "high"] vs) H := r_body (N := ["thing", "low", "high"]) (ps := ["thing", "low", "high"]) fun c E => u_is_within T c E
abbrev S_Web_has_arrow (K : PySem.W.Frag) : SpecA := ⟨K, sem_Web_has_arrow⟩
def t_Web_has_arrow (K : PySem.W.Frag) (E : XK) : TS := (tRet (tCall (FP (S_is_within K)) [] E (tCons (tVar 1) (tCons (tC (.int 0)) (tCons (tOp rSubI (tCB (rLen K) (tCons (tFld K (tVar 0) "pairs") tNil)) (tC (.int 1))) tNil)))))
theorem u_Web_has_arrow {K : PySem.W.Frag} {mg : Str → Option Value} (T : Tx K mg) (c : Cfg) (E : XK) : SS K c E (t_Web_has_arrow K E) m_Web_has_arrow := by
  exact (ss_ret (se_call (S := sem_is_within) (sa_cons se_var (sa_cons se_int (sa_cons (se_op os_sub (se_cu f1_len (se_fld (n := "Web") (f := "pairs") T.k_Web.k.c T.k_Web.pairs se_var)) se_int) sa_nil)))))
theorem r_Web_has_arrow {K : PySem.W.Frag} {mg : Str → Option Value} (T : Tx K mg) : ∀ vs H Q E, FP (S_Web_has_arrow K) vs H Q E → t_Web_has_arrow K E { nx := fun _ H' => Q .non H', rt := Q } (L2.start ["self", "arrow"] vs) H := r_body (N := ["self", "arrow"]) (ps := ["self", "arrow"]) fun c E => u_Web_has_arrow T c E
abbrev S_Web_first_wrong (K : PySem.W.Frag) : SpecA := ⟨K, sem_Web_first_wrong⟩
def t_Web_first_wrong (K : PySem.W.Frag) (E : XK) : TS := (tSeq (tFor (iEnumA K (tCons (tVar 1) tNil)) (gTup K 2 (gCons (gName 2) (gCons (gName 3) gNil)))
    (tIfS (tOr (tNot (tB (tMeth (He.ga K "Web") "has_arrow" (FP (S_Web_has_arrow K)) [] E (tVar 0) (tCons (tVar 3) tNil)))) (tAnd (tTest (tOp rGtI (tVar 2) (tC (.int 0)))) (tTest (tOp (rNeD K) (tOp (rIx K) (tOp (rIx K) (tFld K (tVar 0) "pairs") (tOp (rIx K) (tVar 1) (tOp rSubI (tVar 2) (tC (.int 1))))) (tC (.int 1))) (tOp (rIx K) (tOp (rIx K) (tFld K (tVar 0) "pairs") (tVar 3)) (tC (.int 0)))))))
    (tRet (tVar 2))
    tNext))
    (tRet (tC .non)))
theorem u_Web_first_wrong {K : PySem.W.Frag} {mg : Str → Option Value} (T : Tx K mg) (c : Cfg) (E : XK) : SS K c E (t_Web_first_wrong K E) m_Web_first_wrong := by
  exact (ss_seq (ss_for (si_enum (sa_cons se_var sa_nil)) (sgi_tup2 sg_name sg_name)
    (ss_if (st_or (st_not (st_B (se_meth (n := "Web") (f := "has_arrow") (S := sem_Web_has_arrow) se_var (sa_cons se_var sa_nil)))) (st_and (st_test (se_op os_gt se_var se_int)) (st_test (se_op os_ne (se_b f2_ix (se_b f2_ix (se_fld (n := "Web") (f := "pairs") T.k_Web.k.c T.k_Web.pairs se_var) (se_b f2_ix se_var (se_op os_sub se_var se_int))) se_int) (se_b f2_ix (se_b f2_ix (se_fld (n := "Web") (f := "pairs") T.k_Web.k.c T.k_Web.pairs se_var) se_var) se_int))))) (ss_ret se_var) ss_next))
    (ss_ret se_non))
theorem r_Web_first_wrong {K : PySem.W.Frag} {mg : Str → Option Value} (T : Tx K mg) : ∀ vs H Q E, FP (S_Web_first_wrong K) vs H Q E → t_Web_first_wrong K E { nx := fun _ H' => Q .non H', rt := Q } (L2.start ["self", "row", "at", "arrow"] vs) H := r_body (N := ["self", "row", "at", "arrow"]) (ps := ["self", "row"]) fun c E => u_Web_first_wrong T c E
abbrev S_Web_end (K : PySem.W.Frag) : SpecA := ⟨K, sem_Web_end⟩
def t_Web_end (K : PySem.W.Frag) (E : XK) : TS := (tSeq (tIfS (tNot (tB (tMeth (He.ga K "Web") "has_arrow" (FP (S_Web_has_arrow K)) [] E (tVar 0) (tCons (tVar 1) tNil))))
    tNever
    tNext)
    (tRet (tOp (rIx K) (tOp (rIx K) (tFld K (tVar 0) "pairs") (tVar 1)) (tC (.int 1)))))
theorem u_Web_end {K : PySem.W.Frag} {mg : Str → Option Value} (T : Tx K mg) (c : Cfg) (E : XK) : SS K c E (t_Web_end K E) m_Web_end := by
  exact (ss_seq (ss_if (st_not (st_B (se_meth (n := "Web") (f := "has_arrow") (S := sem_Web_has_arrow) se_var (sa_cons se_var sa_nil)))) ss_never ss_next)
    (ss_ret (se_b f2_ix (se_b f2_ix (se_fld (n := "Web") (f := "pairs") T.k_Web.k.c T.k_Web.pairs se_var) se_var) se_int)))
theorem r_Web_end {K : PySem.W.Frag} {mg : Str → Option Value} (T : Tx K mg) : ∀ vs H Q E, FP (S_Web_end K) vs H Q E → t_Web_end K E { nx := fun _ H' => Q .non H', rt := Q } (L2.start ["self", "arrow"] vs) H := r_body (N := ["self", "arrow"]) (ps := ["self", "arrow"]) fun c E => u_Web_end T c E
abbrev S_Web_begin (K : PySem.W.Frag) : SpecA := ⟨K, sem_Web_begin⟩
def t_Web_begin (K : PySem.W.Frag) (E : XK) : TS := (tSeq (tIfS (tNot (tB (tMeth (He.ga K "Web") "has_arrow" (FP (S_Web_has_arrow K)) [] E (tVar 0) (tCons (tVar 1) tNil))))
    tNever
    tNext)
    (tRet (tOp (rIx K) (tOp (rIx K) (tFld K (tVar 0) "pairs") (tVar 1)) (tC (.int 0)))))
theorem u_Web_begin {K : PySem.W.Frag} {mg : Str → Option Value} (T : Tx K mg) (c : Cfg) (E : XK) : SS K c E (t_Web_begin K E) m_Web_begin := by
  exact (ss_seq (ss_if (st_not (st_B (se_meth (n := "Web") (f := "has_arrow") (S := sem_Web_has_arrow) se_var (sa_cons se_var sa_nil)))) ss_never ss_next)
    (ss_ret (se_b f2_ix (se_b f2_ix (se_fld (n := "Web") (f := "pairs") T.k_Web.k.c T.k_Web.pairs se_var) se_var) se_int)))
theorem r_Web_begin {K : PySem.W.Frag} {mg : Str → Option Value} (T : Tx K mg) : ∀ vs H Q E, FP (S_Web_begin K) vs H Q E → t_Web_begin K E { nx := fun _ H' => Q .non H', rt := Q } (L2.start ["self", "arrow"] vs) H := r_body (N := ["self", "arrow"]) (ps := ["self", "arrow"]) fun c E => u_Web_begin T c E
abbrev S_shortest_ring (K : PySem.W.Frag) : SpecA := ⟨K, sem_shortest_ring⟩
def t_shortest_ring (K : PySem.W.Frag) (E : XK) : TS := (tSeq (tFor (iRng2 (tCons (tC (.int 1)) (tCons (tCB (rLen K) (tCons (tVar 0) tNil)) tNil))) (gName 1)
    (tIfS (tAnd (tTest (tOp (rEqD K) (tOp rModI (tCB (rLen K) (tCons (tVar 0) tNil)) (tVar 1)) (tC (.int 0)))) (tTest (tOp (rEqD K) (tVar 0) (tOp rRep (tSl (rSlL K) (tVar 0) tNoPart (tPart (tVar 1))) (tOp rDivI (tCB (rLen K) (tCons (tVar 0) tNil)) (tVar 1))))))
    (tRet (tSl (rSlL K) (tVar 0) tNoPart (tPart (tVar 1))))
    tNext))
    (tRet (tVar 0)))
theorem u_shortest_ring {K : PySem.W.Frag} {mg : Str → Option Value} (T : Tx K mg) (c : Cfg) (E : XK) : SS K c E (t_shortest_ring K E) m_shortest_ring := by
  exact (ss_seq (ss_for (si_rng2 (sa_cons se_int (sa_cons (se_cu f1_len se_var) sa_nil))) sgi_name
    (ss_if (st_and (st_test (se_op os_eq (se_op os_mod (se_cu f1_len se_var) se_var) se_int)) (st_test (se_op os_eq se_var (se_dt (sl_b l2_rep (se_dt (sl_sl se_var so_none (so_some se_var))) (se_op os_div (se_cu f1_len se_var) se_var)))))) (ss_ret (se_dt (sl_sl se_var so_none (so_some se_var)))) ss_next))
    (ss_ret se_var))
theorem r_shortest_ring {K : PySem.W.Frag} {mg : Str → Option Value} (T : Tx K mg) : ∀ vs H Q E, FP (S_shortest_ring K) vs H Q E → t_shortest_ring K E { nx := fun _ H' => Q .non H', rt := Q } (L2.start ["ring", "size"] vs) H := r_body (N := ["ring", "size"]) (ps := ["ring"]) fun c E => u_shortest_ring T c E
abbrev S_drawn_in (K : PySem.W.Frag) : SpecA := ⟨K, sem_drawn_in⟩
def t_drawn_in (K : PySem.W.Frag) (E : XK) : TS := (tSeq (tPar 0 1 (tCons (tCB (rListOf K) (tCons (tVar 0) tNil)) (tCons (tCall (FP (S_shortest_ring K)) [] E (tCons (tCB (rListOf K) (tCons (tVar 1) tNil)) tNil)) tNil)))
    (tSeq (tWhile (tAnd (tTest (tOp rGtI (tCB (rLen K) (tCons (tVar 0) tNil)) (tC (.int 0)))) (tTest (tOp (rEqD K) (tOp (rIx K) (tVar 0) (tUn rNegI (tC (.int 1)))) (tOp (rIx K) (tVar 1) (tUn rNegI (tC (.int 1)))))))
    (tSeq (tAsg (tVar 0) (gStar K 2 0 (gCons (gName 0) (gCons (gName 2) gNil))))
    (tAsg (tOp rCat (tLst (tCons (tVar 2) tNil)) (tSl (rSlL K) (tVar 1) tNoPart (tPart (tUn rNegI (tC (.int 1)))))) (gName 1))))
    (tRet (tTup (tCons (tCB (rTupN K) (tCons (tVar 0) tNil)) (tCons (tCB (rTupN K) (tCons (tVar 1) tNil)) tNil))))))
theorem u_drawn_in {K : PySem.W.Frag} {mg : Str → Option Value} (T : Tx K mg) (c : Cfg) (E : XK) : SS K c E (t_drawn_in K E) m_drawn_in := by
  exact (ss_seq (ss_par (se_dt (sl_cu l1_list se_var)) (se_call (S := sem_shortest_ring) (sa_cons (se_dt (sl_cu l1_list se_var)) sa_nil)))
    (ss_seq (ss_while (st_and (st_test (se_op os_gt (se_cu f1_len se_var) se_int)) (st_test (se_op os_eq (se_b f2_ix se_var (se_u f1_neg se_int)) (se_b f2_ix se_var (se_u f1_neg se_int)))))
    (ss_seq (ss_asg se_var (sg_star sg_name sg_name))
    (ss_asg (se_dt (sl_b l2_cat (se_dt (sl_lst (sa_cons se_var sa_nil))) (se_dt (sl_sl se_var so_none (so_some (se_u f1_neg se_int)))))) sg_name)))
    (ss_ret (se_tup (sa_cons (se_cu f1_tup se_var) (sa_cons (se_cu f1_tup se_var) sa_nil))))))
theorem r_drawn_in {K : PySem.W.Frag} {mg : Str → Option Value} (T : Tx K mg) : ∀ vs H Q E, FP (S_drawn_in K) vs H Q E → t_drawn_in K E { nx := fun _ H' => Q .non H', rt := Q } (L2.start ["ahead", "ring", "last"] vs) H := r_body (N := ["ahead", "ring", "last"]) (ps := ["ahead", "ring"]) fun c E => u_drawn_in T c E
abbrev S_Walker___init__ (K : PySem.W.Frag) : SpecA := ⟨K, sem_Walker___init__⟩
def t_Walker___init__ (K : PySem.W.Frag) (E : XK) : TS := (tSeq (tAsg (tOp rCat (tCB (rListOf K) (tCons (tVar 2) tNil)) (tCB (rListOf K) (tCons (tVar 3) tNil))) (gName 4))
    (tSeq (tAsg (tMeth (He.ga K "Web") "first_wrong" (FP (S_Web_first_wrong K)) [] E (tVar 1) (tCons (tVar 4) tNil)) (gName 5))
    (tSeq (tIfS (tTest (tOp rNotN (tVar 5) (tC .non)))
    tNever
    tNext)
    (tSeq (tIfS (tOr (tTest (tOp (rEqD K) (tCB (rLen K) (tCons (tVar 3) tNil)) (tC (.int 0)))) (tTest (tOp (rNeD K) (tMeth (He.ga K "Web") "end" (FP (S_Web_end K)) [] E (tVar 1) (tCons (tOp (rIx K) (tVar 4) (tUn rNegI (tC (.int 1)))) tNil)) (tMeth (He.ga K "Web") "begin" (FP (S_Web_begin K)) [] E (tVar 1) (tCons (tOp (rIx K) (tVar 3) (tC (.int 0))) tNil)))))
    tNever
    tNext)
    (tSeq (sFld K (tVar 0) (tVar 1) "home")
    (tAsg (tCall (FP (S_drawn_in K)) [] E (tCons (tVar 2) (tCons (tVar 3) tNil))) (gTup K 2 (gCons (gFld K (tVar 0) "front") (gCons (gFld K (tVar 0) "round") gNil)))))))))
theorem u_Walker___init__ {K : PySem.W.Frag} {mg : Str → Option Value} (T : Tx K mg) (c : Cfg) (E : XK) : SS K c E (t_Walker___init__ K E) m_Walker___init__ := by
  exact (ss_seq (ss_asg (se_dt (sl_b l2_cat (se_dt (sl_cu l1_list se_var)) (se_dt (sl_cu l1_list se_var)))) sg_name)
    (ss_seq (ss_asg (se_meth (n := "Web") (f := "first_wrong") (S := sem_Web_first_wrong) se_var (sa_cons se_var sa_nil)) sg_name)
    (ss_seq (ss_if (st_test (se_op os_isNot se_var se_non)) ss_never ss_next)
    (ss_seq (ss_if (st_or (st_test (se_op os_eq (se_cu f1_len se_var) se_int)) (st_test (se_op os_ne (se_meth (n := "Web") (f := "end") (S := sem_Web_end) se_var (sa_cons (se_b f2_ix se_var (se_u f1_neg se_int)) sa_nil)) (se_meth (n := "Web") (f := "begin") (S := sem_Web_begin) se_var (sa_cons (se_b f2_ix se_var se_int) sa_nil))))) ss_never ss_next)
    (ss_seq (ss_fld (n := "Walker") (f := "home") T.k_Walker.k.c T.k_Walker.home se_var se_var)
    (ss_asg (se_call (S := sem_drawn_in) (sa_cons se_var (sa_cons se_var sa_nil))) (sg_tup2 (sg_fld (n := "Walker") (f := "front") T.k_Walker.k.c T.k_Walker.front) (sg_fld (n := "Walker") (f := "round") T.k_Walker.k.c T.k_Walker.round))))))))
theorem r_Walker___init__ {K : PySem.W.Frag} {mg : Str → Option Value} (T : Tx K mg) : ∀ vs H Q E, FP (S_Walker___init__ K) vs H Q E → t_Walker___init__ K E { nx := fun _ H' => Q .non H', rt := Q } (L2.start ["self", "web", "ahead", "ring", "row", "wrong"] vs) H := r_body (N := ["self", "web", "ahead", "ring", "row", "wrong"]) (ps := ["self", "web", "ahead", "ring"]) fun c E => u_Walker___init__ T c E
abbrev S_is_listed (K : PySem.W.Frag) : SpecA := ⟨K, sem_is_listed⟩
def t_is_listed (K : PySem.W.Frag) (E : XK) : TS := (tRet (tCB (rIsiT K) (tCons (tVar 0) (tCons (tTup (tCons (tC (.ty "list")) (tCons (tC (.ty "tuple")) tNil))) tNil))))
theorem u_is_listed {K : PySem.W.Frag} {mg : Str → Option Value} (T : Tx K mg) (c : Cfg) (E : XK) : SS K c E (t_is_listed K E) m_is_listed := by
  exact (ss_ret (se_isi2 se_var))
theorem r_is_listed {K : PySem.W.Frag} {mg : Str → Option Value} (T : Tx K mg) : ∀ vs H Q E, FP (S_is_listed K) vs H Q E → t_is_listed K E { nx := fun _ H' => Q .non H', rt := Q } (L2.start ["thing"] vs) H := r_body (N := ["thing"]) (ps := ["thing"]) fun c E => u_is_listed T c E
abbrev S_is_pair (K : PySem.W.Frag) : SpecA := ⟨K, sem_is_pair⟩
def t_is_pair (K : PySem.W.Frag) (E : XK) : TS := (tRet (tAndV (tCall (FP (S_is_listed K)) [] E (tCons (tVar 0) tNil)) (tAndV (tOp (rEqD K) (tCB (rLen K) (tCons (tVar 0) tNil)) (tC (.int 2))) (tCB (rAll K) (tCons (tLc (iSeq K (tVar 0)) (gName 2) tYes (tCall (FP (S_is_within K)) [] E0 (tCons (tVar 2) (tCons (tC (.int 0)) (tCons (tOp rSubI (tVar 1) (tC (.int 1))) tNil)))) [2]) tNil)))))
theorem u_is_pair {K : PySem.W.Frag} {mg : Str → Option Value} (T : Tx K mg) (c : Cfg) (E : XK) : SS K c E (t_is_pair K E) m_is_pair := by
  exact (ss_ret (se_andV (se_call (S := sem_is_listed) (sa_cons se_var sa_nil)) (se_andV (se_op os_eq (se_cu f1_len se_var) se_int) (se_cb cs_all (sa_cons (se_dt (sl_lc (gw_name (by decide)) (si_seq se_var) sgi_name st_yes (se_call (S := sem_is_within) (sa_cons se_var (sa_cons se_int (sa_cons (se_op os_sub se_var se_int) sa_nil)))))) sa_nil)))))
theorem r_is_pair {K : PySem.W.Frag} {mg : Str → Option Value} (T : Tx K mg) : ∀ vs H Q E, FP (S_is_pair K) vs H Q E → t_is_pair K E { nx := fun _ H' => Q .non H', rt := Q } (L2.start ["thing", "rooms", "one"] vs) H := r_body (N := ["thing", "rooms", "one"]) (ps := ["thing", "rooms"]) fun c E => u_is_pair T c E
abbrev S_Web___init__ (K : PySem.W.Frag) : SpecA := ⟨K, sem_Web___init__⟩
def t_Web___init__ (K : PySem.W.Frag) (E : XK) : TS := (tSeq (tIfS (tNot (tB (tCall (FP (S_is_within K)) [] E (tCons (tVar 1) (tCons (tC (.int 1)) (tCons (tC (.int 100)) tNil))))))
    tNever
    tNext)
    (tSeq (tFor (iEnumA K (tCons (tVar 2) tNil)) (gTup K 2 (gCons (gName 3) (gCons (gName 4) gNil)))
    (tIfS (tOr (tTest (tOp (rEqD K) (tVar 3) (tC (.int 400)))) (tNot (tB (tCall (FP (S_is_pair K)) [] E (tCons (tVar 4) (tCons (tVar 1) tNil))))))
    tNever
    tNext))
    (tSeq (sFld K (tVar 0) (tVar 1) "size")
    (tSeq (sFld K (tVar 0) (tCB (rTupN K) (tCons (tLc (iSeq K (tVar 2)) (gName 4) tYes (tCB (rTupN K) (tCons (tVar 4) tNil)) [4]) tNil)) "pairs")
    (tSeq (sFld K (tVar 0) (tLc (iRng1 (tCons (tVar 1) tNil)) (gName 5) tYes (tLc (iEnumA K (tCons (tFld K (tVar 0) "pairs") tNil)) (gTup K 2 (gCons (gName 3) (gCons (gName 4) gNil))) (tTest (tOp (rEqD K) (tOp (rIx K) (tVar 4) (tC (.int 0))) (tVar 5))) (tVar 3) [3, 4]) [5]) "leaving")
    (tSeq (sFld K (tVar 0) (tLc (iRng1 (tCons (tVar 1) tNil)) (gName 5) tYes (tLc (iEnumA K (tCons (tFld K (tVar 0) "pairs") tNil)) (gTup K 2 (gCons (gName 3) (gCons (gName 4) gNil))) (tTest (tOp (rEqD K) (tOp (rIx K) (tVar 4) (tC (.int 1))) (tVar 5))) (tVar 3) [3, 4]) [5]) "coming")
    (tIfS (tTest (tOp (rInD K) (tLst tNil) (tFld K (tVar 0) "leaving")))
    tNever
    tNext)))))))
theorem u_Web___init__ {K : PySem.W.Frag} {mg : Str → Option Value} (T : Tx K mg) (c : Cfg) (E : XK) : SS K c E (t_Web___init__ K E) m_Web___init__ := by
  exact (ss_seq (ss_if (st_not (st_B (se_call (S := sem_is_within) (sa_cons se_var (sa_cons se_int (sa_cons se_int sa_nil)))))) ss_never ss_next)
    (ss_seq (ss_for (si_enum (sa_cons se_var sa_nil)) (sgi_tup2 sg_name sg_name)
    (ss_if (st_or (st_test (se_op os_eq se_var se_int)) (st_not (st_B (se_call (S := sem_is_pair) (sa_cons se_var (sa_cons se_var sa_nil)))))) ss_never ss_next))
    (ss_seq (ss_fld (n := "Web") (f := "size") T.k_Web.k.c T.k_Web.size se_var se_var)
    (ss_seq (ss_fld (n := "Web") (f := "pairs") T.k_Web.k.c T.k_Web.pairs se_var (se_cu f1_tupN (se_dt (sl_lc (gw_name (by decide)) (si_seq se_var) sgi_name st_yes (se_cu f1_tup se_var)))))
    (ss_seq (ss_fld (n := "Web") (f := "leaving") T.k_Web.k.c T.k_Web.leaving se_var (se_dt (sl_lc (gw_name (by decide)) (si_rng1 (sa_cons se_var sa_nil)) sgi_name st_yes (se_dt (sl_lc (gw_tup (gws_name (by decide) (gws_name (by decide) gws_nil))) (si_enum (sa_cons (se_fld (n := "Web") (f := "pairs") T.k_Web.k.c T.k_Web.pairs se_var) sa_nil)) (sgi_tup2 sg_name sg_name) (st_test (se_op os_eq (se_b f2_ix se_var se_int) se_var)) se_var)))))
    (ss_seq (ss_fld (n := "Web") (f := "coming") T.k_Web.k.c T.k_Web.coming se_var (se_dt (sl_lc (gw_name (by decide)) (si_rng1 (sa_cons se_var sa_nil)) sgi_name st_yes (se_dt (sl_lc (gw_tup (gws_name (by decide) (gws_name (by decide) gws_nil))) (si_enum (sa_cons (se_fld (n := "Web") (f := "pairs") T.k_Web.k.c T.k_Web.pairs se_var) sa_nil)) (sgi_tup2 sg_name sg_name) (st_test (se_op os_eq (se_b f2_ix se_var se_int) se_var)) se_var)))))
    (ss_if (st_test (se_op os_in (se_dt (sl_lst sa_nil)) (se_fld (n := "Web") (f := "leaving") T.k_Web.k.c T.k_Web.leaving se_var))) ss_never ss_next)))))))
theorem r_Web___init__ {K : PySem.W.Frag} {mg : Str → Option Value} (T : Tx K mg) : ∀ vs H Q E, FP (S_Web___init__ K) vs H Q E → t_Web___init__ K E { nx := fun _ H' => Q .non H', rt := Q } (L2.start ["self", "rooms", "arrows", "at", "pair", "room"] vs) H := r_body (N := ["self", "rooms", "arrows", "at", "pair", "room"]) (ps := ["self", "rooms", "arrows"]) fun c E => u_Web___init__ T c E
abbrev S__law_made (K : PySem.W.Frag) : SpecA := ⟨K, sem__law_made⟩
def t__law_made (K : PySem.W.Frag) (E : XK) : TS := (tRet (tMake (He.ga K "Web") (FP (S_Web___init__ K)) [] E (tCons (tOp (rIx K) (tVar 0) (tC (.int 0))) (tCons (tCB (rListOf K) (tCons (tOp (rIx K) (tVar 0) (tC (.int 1))) tNil)) tNil))))
theorem u__law_made {K : PySem.W.Frag} {mg : Str → Option Value} (T : Tx K mg) (c : Cfg) (E : XK) : SS K c E (t__law_made K E) m__law_made := by
  exact (ss_ret (se_make (n := "Web") (S := sem_Web___init__) (sa_cons (se_b f2_ix se_var se_int) (sa_cons (se_dt (sl_cu l1_list (se_b f2_ix se_var se_int))) sa_nil))))
theorem r__law_made {K : PySem.W.Frag} {mg : Str → Option Value} (T : Tx K mg) : ∀ vs H Q E, FP (S__law_made K) vs H Q E → t__law_made K E { nx := fun _ H' => Q .non H', rt := Q } (L2.start ["_law_w"] vs) H := r_body (N := ["_law_w"]) (ps := ["_law_w"]) fun c E => u__law_made T c E
abbrev S__law_walker (K : PySem.W.Frag) : SpecA := ⟨K, sem__law_walker⟩
def t__law_walker (K : PySem.W.Frag) (E : XK) : TS := (tRet (tMake (He.ga K "Walker") (FP (S_Walker___init__ K)) [] E (tCons (tCall (FP (S__law_made K)) [] E (tCons (tVar 0) tNil)) (tCons (tCB (rListOf K) (tCons (tOp (rIx K) (tVar 1) (tC (.int 0))) tNil)) (tCons (tCB (rListOf K) (tCons (tOp (rIx K) (tVar 1) (tC (.int 1))) tNil)) tNil)))))
theorem u__law_walker {K : PySem.W.Frag} {mg : Str → Option Value} (T : Tx K mg) (c : Cfg) (E : XK) : SS K c E (t__law_walker K E) m__law_walker := by
  exact (ss_ret (se_make (n := "Walker") (S := sem_Walker___init__) (sa_cons (se_call (S := sem__law_made) (sa_cons se_var sa_nil)) (sa_cons (se_dt (sl_cu l1_list (se_b f2_ix se_var se_int))) (sa_cons (se_dt (sl_cu l1_list (se_b f2_ix se_var se_int))) sa_nil)))))
theorem r__law_walker {K : PySem.W.Frag} {mg : Str → Option Value} (T : Tx K mg) : ∀ vs H Q E, FP (S__law_walker K) vs H Q E → t__law_walker K E { nx := fun _ H' => Q .non H', rt := Q } (L2.start ["_law_w", "_law_walk_here"] vs) H := r_body (N := ["_law_w", "_law_walk_here"]) (ps := ["_law_w", "_law_walk_here"]) fun c E => u__law_walker T c E
abbrev S_Web___eq__ (K : PySem.W.Frag) : SpecA := ⟨K, sem_Web___eq__⟩
def t_Web___eq__ (K : PySem.W.Frag) (E : XK) : TS := (tRet (tAndV (tCB (rIsi K) (tCons (tVar 1) (tCons (tC (.ref (He.ga K "Web"))) tNil))) (tAndV (tOp (rEqD K) (tFld K (tVar 0) "size") (tFld K (tVar 1) "size")) (tOp (rEqD K) (tFld K (tVar 0) "pairs") (tFld K (tVar 1) "pairs")))))
theorem u_Web___eq__ {K : PySem.W.Frag} {mg : Str → Option Value} (T : Tx K mg) (c : Cfg) (E : XK) : SS K c E (t_Web___eq__ K E) m_Web___eq__ := by
  exact (ss_ret (se_andV (se_isiO (n := "Web") T.k_Web.k se_var) (se_andV (se_op os_eq (se_fld (n := "Web") (f := "size") T.k_Web.k.c T.k_Web.size se_var) (se_fld (n := "Web") (f := "size") T.k_Web.k.c T.k_Web.size se_var)) (se_op os_eq (se_fld (n := "Web") (f := "pairs") T.k_Web.k.c T.k_Web.pairs se_var) (se_fld (n := "Web") (f := "pairs") T.k_Web.k.c T.k_Web.pairs se_var)))))
theorem r_Web___eq__ {K : PySem.W.Frag} {mg : Str → Option Value} (T : Tx K mg) : ∀ vs H Q E, FP (S_Web___eq__ K) vs H Q E → t_Web___eq__ K E { nx := fun _ H' => Q .non H', rt := Q } (L2.start ["self", "other"] vs) H := r_body (N := ["self", "other"]) (ps := ["self", "other"]) fun c E => u_Web___eq__ T c E
abbrev S_Walker___eq__ (K : PySem.W.Frag) : SpecA := ⟨K, sem_Walker___eq__⟩
def t_Walker___eq__ (K : PySem.W.Frag) (E : XK) : TS := (tSeq (tIfS (tOr (tNot (tB (tCB (rIsi K) (tCons (tVar 1) (tCons (tC (.ref (He.ga K "Walker"))) tNil))))) (tTest (tOp (rOwnNe K (He.ga K "Web") (FP (S_Web___eq__ K)) E) (tFld K (tVar 0) "home") (tFld K (tVar 1) "home"))))
    (tRet (tC (.bl false)))
    tNext)
    (tRet (tAndV (tOp (rEqD K) (tFld K (tVar 0) "front") (tFld K (tVar 1) "front")) (tOp (rEqD K) (tFld K (tVar 0) "round") (tFld K (tVar 1) "round")))))
theorem u_Walker___eq__ {K : PySem.W.Frag} {mg : Str → Option Value} (T : Tx K mg) (c : Cfg) (E : XK) : SS K c E (t_Walker___eq__ K E) m_Walker___eq__ := by
  exact (ss_seq (ss_if (st_or (st_not (st_B (se_isiO (n := "Walker") T.k_Walker.k se_var))) (st_test (se_ownNe (n := "Web") (S := sem_Web___eq__) T.k_Web.k.sub (se_fld (n := "Walker") (f := "home") T.k_Walker.k.c T.k_Walker.home se_var) (se_fld (n := "Walker") (f := "home") T.k_Walker.k.c T.k_Walker.home se_var)))) (ss_ret se_bl) ss_next)
    (ss_ret (se_andV (se_op os_eq (se_fld (n := "Walker") (f := "front") T.k_Walker.k.c T.k_Walker.front se_var) (se_fld (n := "Walker") (f := "front") T.k_Walker.k.c T.k_Walker.front se_var)) (se_op os_eq (se_fld (n := "Walker") (f := "round") T.k_Walker.k.c T.k_Walker.round se_var) (se_fld (n := "Walker") (f := "round") T.k_Walker.k.c T.k_Walker.round se_var)))))
theorem r_Walker___eq__ {K : PySem.W.Frag} {mg : Str → Option Value} (T : Tx K mg) : ∀ vs H Q E, FP (S_Walker___eq__ K) vs H Q E → t_Walker___eq__ K E { nx := fun _ H' => Q .non H', rt := Q } (L2.start ["self", "other"] vs) H := r_body (N := ["self", "other"]) (ps := ["self", "other"]) fun c E => u_Walker___eq__ T c E
abbrev S_Walker_arrow_at (K : PySem.W.Frag) : SpecA := ⟨K, sem_Walker_arrow_at⟩
def t_Walker_arrow_at (K : PySem.W.Frag) (E : XK) : TS := (tSeq (tAsg (tCB (rLen K) (tCons (tFld K (tVar 0) "front") tNil)) (gName 2))
    (tRet (tIf (tTest (tOp rLtI (tVar 1) (tVar 2))) (tOp (rIx K) (tFld K (tVar 0) "front") (tVar 1)) (tOp (rIx K) (tFld K (tVar 0) "round") (tOp rModI (tOp rSubI (tVar 1) (tVar 2)) (tCB (rLen K) (tCons (tFld K (tVar 0) "round") tNil)))))))
theorem u_Walker_arrow_at {K : PySem.W.Frag} {mg : Str → Option Value} (T : Tx K mg) (c : Cfg) (E : XK) : SS K c E (t_Walker_arrow_at K E) m_Walker_arrow_at := by
  exact (ss_seq (ss_asg (se_cu f1_len (se_fld (n := "Walker") (f := "front") T.k_Walker.k.c T.k_Walker.front se_var)) sg_name)
    (ss_ret (se_if (st_test (se_op os_lt se_var se_var)) (se_b f2_ix (se_fld (n := "Walker") (f := "front") T.k_Walker.k.c T.k_Walker.front se_var) se_var) (se_b f2_ix (se_fld (n := "Walker") (f := "round") T.k_Walker.k.c T.k_Walker.round se_var) (se_op os_mod (se_op os_sub se_var se_var) (se_cu f1_len (se_fld (n := "Walker") (f := "round") T.k_Walker.k.c T.k_Walker.round se_var)))))))
theorem r_Walker_arrow_at {K : PySem.W.Frag} {mg : Str → Option Value} (T : Tx K mg) : ∀ vs H Q E, FP (S_Walker_arrow_at K) vs H Q E → t_Walker_arrow_at K E { nx := fun _ H' => Q .non H', rt := Q } (L2.start ["self", "beat", "many"] vs) H := r_body (N := ["self", "beat", "many"]) (ps := ["self", "beat"]) fun c E => u_Walker_arrow_at T c E
abbrev S_Walker_arrow (K : PySem.W.Frag) : SpecA := ⟨K, sem_Walker_arrow⟩
def t_Walker_arrow (K : PySem.W.Frag) (E : XK) : TS := (tSeq (tIfS (tTest (tOp rLtI (tVar 1) (tC (.int 0))))
    tNever
    tNext)
    (tRet (tMeth (He.ga K "Walker") "arrow_at" (FP (S_Walker_arrow_at K)) [] E (tVar 0) (tCons (tVar 1) tNil))))
theorem u_Walker_arrow {K : PySem.W.Frag} {mg : Str → Option Value} (T : Tx K mg) (c : Cfg) (E : XK) : SS K c E (t_Walker_arrow K E) m_Walker_arrow := by
  exact (ss_seq (ss_if (st_test (se_op os_lt se_var se_int)) ss_never ss_next)
    (ss_ret (se_meth (n := "Walker") (f := "arrow_at") (S := sem_Walker_arrow_at) se_var (sa_cons se_var sa_nil))))
theorem r_Walker_arrow {K : PySem.W.Frag} {mg : Str → Option Value} (T : Tx K mg) : ∀ vs H Q E, FP (S_Walker_arrow K) vs H Q E → t_Walker_arrow K E { nx := fun _ H' => Q .non H', rt := Q } (L2.start ["self", "beat"] vs) H := r_body (N := ["self", "beat"]) (ps := ["self", "beat"]) fun c E => u_Walker_arrow T c E
abbrev S_law (K : PySem.W.Frag) : SpecA := ⟨K, sem_law⟩
def t_law (K : PySem.W.Frag) (E : XK) : TS := (tSeq (tAsg (tCall (FP (S__law_bag K)) [] E (tCons (tVar 0) tNil)) (gName 1))
    (tSeq (tFor (iRng1 (tCons (tC (.int 6)) tNil)) (gName 2)
    (tSeq (tAsg (tCall (FP (S__law_web K)) [] E (tCons (tVar 1) (tCons (tC (.int 3)) (tCons (tC (.int 3)) tNil)))) (gName 3))
    (tSeq (tPar 4 5 (tCons (tCall (FP (S__law_walk K)) [] E (tCons (tVar 1) (tCons (tVar 3) tNil))) (tCons (tCall (FP (S__law_walk K)) [] E (tCons (tVar 1) (tCons (tVar 3) tNil))) tNil)))
    (tSeq (tIfS (tTest (tOp (rEqD K) (tCall (FP (S__law_pull K)) [] E (tCons (tVar 1) (tCons (tC (.int 3)) tNil))) (tC (.int 0))))
    (tAsg (tTup (tCons (tCall (FP (S__law_beats K)) [] E (tCons (tVar 4) (tCons (tOp rAddI (tCB (rLen K) (tCons (tOp (rIx K) (tVar 4) (tC (.int 0))) tNil)) (tCB (rLen K) (tCons (tOp (rIx K) (tVar 4) (tC (.int 1))) tNil))) tNil))) (tCons (tOp rRep (tCB (rListOf K) (tCons (tOp (rIx K) (tVar 4) (tC (.int 1))) tNil)) (tC (.int 2))) tNil))) (gName 5))
    (tIfS (tTest (tOp (rEqD K) (tCall (FP (S__law_pull K)) [] E (tCons (tVar 1) (tCons (tC (.int 2)) tNil))) (tC (.int 0))))
    (tSeq (tAsg (tOp (rIx K) (tOp (rIx K) (tOp (rIx K) (tVar 3) (tC (.int 1))) (tOp (rIx K) (tOp (rIx K) (tVar 4) (tC (.int 1))) (tUn rNegI (tC (.int 1))))) (tC (.int 1))) (gName 6))
    (tSeq (tAsg (tOp rCat (tLc (iSeq K (tCall (FP (S__law_outs K)) [] E (tCons (tVar 3) (tCons (tVar 6) tNil)))) (gName 13) (tTest (tOp (rEqD K) (tOp (rIx K) (tOp (rIx K) (tOp (rIx K) (tVar 3) (tC (.int 1))) (tVar 13)) (tC (.int 1))) (tVar 6))) (tVar 13) [13]) (tSl (rSlL K) (tOp (rIx K) (tVar 4) (tC (.int 1))) tNoPart (tPart (tC (.int 1))))) (gName 7))
    (tSeq (tAsg (tTup (tCons (tOp rCat (tCall (FP (S__law_beats K)) [] E (tCons (tVar 4) (tCons (tOp rAddI (tCB (rLen K) (tCons (tOp (rIx K) (tVar 4) (tC (.int 0))) tNil)) (tOp rMulI (tC (.int 2)) (tCB (rLen K) (tCons (tOp (rIx K) (tVar 4) (tC (.int 1))) tNil)))) tNil))) (tSl (rSlL K) (tVar 7) tNoPart (tPart (tC (.int 1))))) (tCons (tLst tNil) tNil))) (gName 5))
    (tAsg (tIf (tTest (tOp (rEqD K) (tOp (rIx K) (tOp (rIx K) (tOp (rIx K) (tVar 3) (tC (.int 1))) (tOp (rIx K) (tVar 7) (tC (.int 0)))) (tC (.int 1))) (tVar 6))) (tTup (tCons (tOp (rIx K) (tVar 5) (tC (.int 0))) (tCons (tSl (rSlL K) (tVar 7) tNoPart (tPart (tC (.int 1)))) tNil))) (tVar 4)) (gName 5)))))
    tNext))
    (tSeq (tAsg (tOp rAddI (tOp rAddI (tOp rAddI (tCB (rLen K) (tCons (tOp (rIx K) (tVar 4) (tC (.int 0))) tNil)) (tCB (rLen K) (tCons (tOp (rIx K) (tVar 5) (tC (.int 0))) tNil))) (tCB (rLen K) (tCons (tOp (rIx K) (tVar 4) (tC (.int 1))) tNil))) (tCB (rLen K) (tCons (tOp (rIx K) (tVar 5) (tC (.int 1))) tNil))) (gName 8))
    (tSeq (tAsg (tOp (rEqD K) (tCall (FP (S__law_beats K)) [] E (tCons (tVar 4) (tCons (tVar 8) tNil))) (tCall (FP (S__law_beats K)) [] E (tCons (tVar 5) (tCons (tVar 8) tNil)))) (gName 9))
    (tSeq (tPar 10 11 (tCons (tCall (FP (S__law_walker K)) [] E (tCons (tVar 3) (tCons (tVar 4) tNil))) (tCons (tCall (FP (S__law_walker K)) [] E (tCons (tVar 3) (tCons (tVar 5) tNil))) tNil)))
    (tSeq (tIfS (tOr (tTest (tOp (rNeD K) (tOp (rOwnEq K (He.ga K "Walker") (FP (S_Walker___eq__ K)) E) (tVar 10) (tVar 11)) (tVar 9))) (tOr (tTest (tOp (rNeD K) (tOp (rOwnEq K (He.ga K "Walker") (FP (S_Walker___eq__ K)) E) (tVar 11) (tVar 10)) (tVar 9))) (tTest (tOp (rEqD K) (tOp (rOwnNe K (He.ga K "Walker") (FP (S_Walker___eq__ K)) E) (tVar 10) (tVar 11)) (tVar 9)))))
    (tRet (tC (.bl false)))
    tNext)
    (tSeq (tAsg (tTup (tCons (tOp (rIx K) (tVar 3) (tC (.int 0))) (tCons (tOp (rCatA K) (tOp (rIx K) (tVar 3) (tC (.int 1))) (tTup (tCons (tTup (tCons (tC (.int 0)) (tCons (tC (.int 0)) tNil))) tNil))) tNil))) (gName 12))
    (tSeq (tIfS (tOr (tTest (tOp (rOwnEq K (He.ga K "Walker") (FP (S_Walker___eq__ K)) E) (tVar 10) (tCall (FP (S__law_walker K)) [] E (tCons (tVar 12) (tCons (tVar 4) tNil))))) (tTest (tOp (rOwnNe K (He.ga K "Walker") (FP (S_Walker___eq__ K)) E) (tVar 10) (tCall (FP (S__law_walker K)) [] E (tCons (tVar 3) (tCons (tVar 4) tNil))))))
    (tRet (tC (.bl false)))
    tNext)
    (tIfS (tAnd (tB (tVar 9)) (tTest (tOp (rNeD K) (tMeth (He.ga K "Walker") "arrow" (FP (S_Walker_arrow K)) [] E (tVar 10) (tCons (tOp rPowI (tC (.int 10)) (tC (.int 20))) tNil)) (tMeth (He.ga K "Walker") "arrow" (FP (S_Walker_arrow K)) [] E (tVar 11) (tCons (tOp rPowI (tC (.int 10)) (tC (.int 20))) tNil)))))
    (tRet (tC (.bl false)))
    tNext)))))))))))
    (tRet (tC (.bl true)))))
theorem u_law {K : PySem.W.Frag} {mg : Str → Option Value} (T : Tx K mg) (c : Cfg) (E : XK) : SS K c E (t_law K E) m_law := by
  exact (ss_seq (ss_asg (se_call (S := sem__law_bag) (sa_cons se_var sa_nil)) sg_name)
    (ss_seq (ss_for (si_rng1 (sa_cons se_int sa_nil)) sgi_name
    (ss_seq (ss_asg (se_call (S := sem__law_web) (sa_cons se_var (sa_cons se_int (sa_cons se_int sa_nil)))) sg_name)
    (ss_seq (ss_par (se_call (S := sem__law_walk) (sa_cons se_var (sa_cons se_var sa_nil))) (se_call (S := sem__law_walk) (sa_cons se_var (sa_cons se_var sa_nil))))
    (ss_seq (ss_if (st_test (se_op os_eq (se_call (S := sem__law_pull) (sa_cons se_var (sa_cons se_int sa_nil))) se_int)) (ss_asg (se_tup (sa_cons (se_call (S := sem__law_beats) (sa_cons se_var (sa_cons (se_op os_add (se_cu f1_len (se_b f2_ix se_var se_int)) (se_cu f1_len (se_b f2_ix se_var se_int))) sa_nil))) (sa_cons (se_dt (sl_b l2_rep (se_dt (sl_cu l1_list (se_b f2_ix se_var se_int))) se_int)) sa_nil))) sg_name) (ss_if (st_test (se_op os_eq (se_call (S := sem__law_pull) (sa_cons se_var (sa_cons se_int sa_nil))) se_int)) (ss_seq (ss_asg (se_b f2_ix (se_b f2_ix (se_b f2_ix se_var se_int) (se_b f2_ix (se_b f2_ix se_var se_int) (se_u f1_neg se_int))) se_int) sg_name)
    (ss_seq (ss_asg (se_dt (sl_b l2_cat (se_dt (sl_lc (gw_name (by decide)) (si_seq (se_call (S := sem__law_outs) (sa_cons se_var (sa_cons se_var sa_nil)))) sgi_name (st_test (se_op os_eq (se_b f2_ix (se_b f2_ix (se_b f2_ix se_var se_int) se_var) se_int) se_var)) se_var)) (se_dt (sl_sl (se_b f2_ix se_var se_int) so_none (so_some se_int))))) sg_name)
    (ss_seq (ss_asg (se_tup (sa_cons (se_dt (sl_b l2_cat (se_call (S := sem__law_beats) (sa_cons se_var (sa_cons (se_op os_add (se_cu f1_len (se_b f2_ix se_var se_int)) (se_op os_mul se_int (se_cu f1_len (se_b f2_ix se_var se_int)))) sa_nil))) (se_dt (sl_sl se_var so_none (so_some se_int))))) (sa_cons (se_dt (sl_lst sa_nil)) sa_nil))) sg_name)
    (ss_asg (se_if (st_test (se_op os_eq (se_b f2_ix (se_b f2_ix (se_b f2_ix se_var se_int) (se_b f2_ix se_var se_int)) se_int) se_var)) (se_tup (sa_cons (se_b f2_ix se_var se_int) (sa_cons (se_dt (sl_sl se_var so_none (so_some se_int))) sa_nil))) se_var) sg_name)))) ss_next))
    (ss_seq (ss_asg (se_op os_add (se_op os_add (se_op os_add (se_cu f1_len (se_b f2_ix se_var se_int)) (se_cu f1_len (se_b f2_ix se_var se_int))) (se_cu f1_len (se_b f2_ix se_var se_int))) (se_cu f1_len (se_b f2_ix se_var se_int))) sg_name)
    (ss_seq (ss_asg (se_op os_eq (se_call (S := sem__law_beats) (sa_cons se_var (sa_cons se_var sa_nil))) (se_call (S := sem__law_beats) (sa_cons se_var (sa_cons se_var sa_nil)))) sg_name)
    (ss_seq (ss_par (se_call (S := sem__law_walker) (sa_cons se_var (sa_cons se_var sa_nil))) (se_call (S := sem__law_walker) (sa_cons se_var (sa_cons se_var sa_nil))))
    (ss_seq (ss_if (st_or (st_test (se_op os_ne (se_ownEq (n := "Walker") (S := sem_Walker___eq__) T.k_Walker.k.sub se_var se_var) se_var)) (st_or (st_test (se_op os_ne (se_ownEq (n := "Walker") (S := sem_Walker___eq__) T.k_Walker.k.sub se_var se_var) se_var)) (st_test (se_op os_eq (se_ownNe (n := "Walker") (S := sem_Walker___eq__) T.k_Walker.k.sub se_var se_var) se_var)))) (ss_ret se_bl) ss_next)
    (ss_seq (ss_asg (se_tup (sa_cons (se_b f2_ix se_var se_int) (sa_cons (se_b f2_catT (se_b f2_ix se_var se_int) (se_tup (sa_cons (se_tup (sa_cons se_int (sa_cons se_int sa_nil))) sa_nil))) sa_nil))) sg_name)
    (ss_seq (ss_if (st_or (st_test (se_ownEq (n := "Walker") (S := sem_Walker___eq__) T.k_Walker.k.sub se_var (se_call (S := sem__law_walker) (sa_cons se_var (sa_cons se_var sa_nil))))) (st_test (se_ownNe (n := "Walker") (S := sem_Walker___eq__) T.k_Walker.k.sub se_var (se_call (S := sem__law_walker) (sa_cons se_var (sa_cons se_var sa_nil)))))) (ss_ret se_bl) ss_next)
    (ss_if (st_and (st_B se_var) (st_test (se_op os_ne (se_meth (n := "Walker") (f := "arrow") (S := sem_Walker_arrow) se_var (sa_cons (se_op os_pow se_int se_int) sa_nil)) (se_meth (n := "Walker") (f := "arrow") (S := sem_Walker_arrow) se_var (sa_cons (se_op os_pow se_int se_int) sa_nil))))) (ss_ret se_bl) ss_next)))))))))))
    (ss_ret se_bl)))
theorem r_law {K : PySem.W.Frag} {mg : Str → Option Value} (T : Tx K mg) : ∀ vs H Q E, FP (S_law K) vs H Q E → t_law K E { nx := fun _ H' => Q .non H', rt := Q } (L2.start ["_law_script", "_law_bag_here", "_law_turn", "_law_w", "_law_one", "_law_other", "_law_room", "_law_tail", "_law_many", "_law_due", "_law_here", "_law_there", "_law_wide", "_law_arrow"] vs) H := r_body (N := ["_law_script", "_law_bag_here", "_law_turn", "_law_w", "_law_one", "_law_other", "_law_room", "_law_tail", "_law_many", "_law_due", "_law_here", "_law_there", "_law_wide", "_law_arrow"]) (ps := ["_law_script"]) fun c E => u_law T c E
section
variable {P : Program} {w : World} {K : PySem.W.Frag} {mg : Str → Option Value}
abbrev s__law_bag : Stmt := topS 24
theorem sc__law_bag : FnScope ["_law_script", "_law_seed", "_law_cell"] ["_law_script"] (defScope s__law_bag) := ⟨rfl, rfl, rfl, by decide +kernel, rfl, by decide +kernel, by decide +kernel⟩
theorem ok__law_bag (T : Tx K mg) {fd : FuncData} (F : FnP K "_law_bag" "_law_bag" s__law_bag (He.fAd K ("_law_bag", none)) fd) : FO P w K mg 1 ("_law_bag", none) ["_law_script"] (S__law_bag K) := by
  refine ⟨⟨fd, F.kp, F.bindsN (fun _ _ _ _ _ _ us hl => match us, hl with | [_], _ => rfl), fun base => F.ok sc__law_bag len_bodyN (fun cdv A outer s H vs Q E hr h => ⟨t__law_bag K E, ?_, r__law_bag T vs H Q E h⟩)⟩⟩
  have tkD := L2N.takes_of (X := cxOf (CXZ P w) P w K mg base ["_law_script", "_law_seed", "_law_cell"] "_law_bag" (defScope s__law_bag) (He.fAd K ("_law_bag", none)) cdv A outer s H E) (E := E) rfl rfl rfl rfl
  exact (pss_cons (ps_set (i := 1) sc__law_bag.nd rfl (.inl rfl) pe_int)
    (pss_cons (ps_for (L2.passes_of rfl) rfl (pi_seq (pe_slice sl_list (pv 0) po_none (po_some pe_int))) (pg_name (i := 2) sc__law_bag.nd rfl (.inl rfl))
    (pss_one (ps_set (i := 1) sc__law_bag.nd rfl (.inl rfl) (pe_op op_mod (pe_op op_add (pe_op op_add (pe_op op_mul (pv 1) pe_int) (pv 2)) pe_int) pe_int))))
    (pss_one (ps_ret (pe_lst (pa_cons (pe_callTy call_list_of (by rfl) T.f_list (by decide +kernel) (pa_cons (pe_slice sl_list (pv 0) po_none (po_some pe_int)) pa_nil)) (pa_cons pe_int (pa_cons pe_int (pa_cons (pv 1) (pa_cons pe_int pa_nil))))))))))
abbrev s__law_pull : Stmt := topS 25
theorem sc__law_pull : FnScope ["_law_bag_here", "_law_many", "_law_rest", "_law_cell", "_law_one", "_law_two"] ["_law_bag_here", "_law_many"] (defScope s__law_pull) := ⟨rfl, rfl, rfl, by decide +kernel, rfl, by decide +kernel, by decide +kernel⟩
theorem ok__law_pull (T : Tx K mg) {fd : FuncData} (F : FnP K "_law_pull" "_law_pull" s__law_pull (He.fAd K ("_law_pull", none)) fd) : FO P w K mg 1 ("_law_pull", none) ["_law_bag_here", "_law_many"] (S__law_pull K) := by
  refine ⟨⟨fd, F.kp, F.bindsN (fun _ _ _ _ _ _ us hl => match us, hl with | [_, _], _ => rfl), fun base => F.ok sc__law_pull len_body (fun cdv A outer s H vs Q E hr h => ⟨t__law_pull K E, ?_, r__law_pull T vs H Q E h⟩)⟩⟩
  have tkD := L2N.takes_of (X := cxOf (CXZ P w) P w K mg base ["_law_bag_here", "_law_many", "_law_rest", "_law_cell", "_law_one", "_law_two"] "_law_pull" (defScope s__law_pull) (He.fAd K ("_law_pull", none)) cdv A outer s H E) (E := E) rfl rfl rfl rfl
  exact (pss_cons (ps_augS (pv 0) pe_int pget_list pe_int ip_add set_list (fun _ _ _ => rfl))
    (pss_cons (ps_if (pt_cmpR op_gt (pe_ix ix_seq (pv 0) pe_int (fun _ _ => rfl)) pe_int (nomark _)) (pss_cons (ps_set (i := 2) sc__law_pull.nd rfl (.inl rfl) (pe_ix ix_seq (pv 0) pe_int (fun _ _ => rfl)))
    (pss_cons (ps_asg (pe_op op_fdivW (pv 2) (pv 1)) (pg_sub (pv 0) pe_int set_list))
    (pss_one (ps_ret (pe_op op_mod (pv 2) (pv 1)))))) pss_nil)
    (pss_cons (ps_set (i := 3) sc__law_pull.nd rfl (.inl rfl) (pe_ix ix_seq (pv 0) pe_int (fun _ _ => rfl)))
    (pss_cons (ps_if (pt_cmpR op_lt (pe_ix ix_seq (pv 0) pe_int (fun _ _ => rfl)) (pe_callB call_len_seq (by rfl) T.f_len (by decide +kernel) (pa_cons (pe_ix ix_seq (pv 0) pe_int (fun _ _ => rfl)) pa_nil)) (nomark _)) (pss_cons (ps_set (i := 3) sc__law_pull.nd rfl (.inl rfl) (pe_ix ix_seq (pe_ix ix_seq (pv 0) pe_int (fun _ _ => rfl)) (pe_ix ix_seq (pv 0) pe_int (fun _ _ => rfl)) (fun _ _ => rfl)))
    (pss_one (ps_augS (pv 0) pe_int pget_list pe_int ip_add set_list (fun _ _ _ => rfl)))) pss_nil)
    (pss_cons (ps_if (pt_cmpR op_ge (pv 3) (pe_op op_pow pe_int pe_int) (nomark _)) (pss_cons (ps_asg (pe_op op_fdivW (pv 3) (pv 1)) (pg_sub (pv 0) pe_int set_list))
    (pss_one (ps_ret (pe_op op_mod (pv 3) (pv 1))))) pss_nil)
    (pss_cons (ps_set (i := 4) sc__law_pull.nd rfl (.inl rfl) (pe_op op_mod (pe_op op_add (pe_op op_add (pe_op op_add (pe_op op_mul (pv 3) pe_int) (pe_op op_mul (pe_ix ix_seq (pv 0) pe_int (fun _ _ => rfl)) pe_int)) (pe_op op_mul (pe_ix ix_seq (pv 0) pe_int (fun _ _ => rfl)) pe_int)) pe_int) pe_int))
    (pss_cons (ps_set (i := 5) sc__law_pull.nd rfl (.inl rfl) (pe_op op_mod (pe_op op_add (pe_op op_add (pe_op op_mul (pv 4) (pe_op op_add (pe_op op_mod (pv 4) pe_int) pe_int)) (pe_op op_mul (pe_ix ix_seq (pv 0) pe_int (fun _ _ => rfl)) pe_int)) (pe_op op_mod (pe_ix ix_seq (pv 0) pe_int (fun _ _ => rfl)) pe_int)) pe_int))
    (pss_cons (ps_asg (pe_op op_mod (pe_op op_add (pe_op op_mul (pe_ix ix_seq (pv 0) pe_int (fun _ _ => rfl)) pe_int) (pv 5)) pe_int) (pg_sub (pv 0) pe_int set_list))
    (pss_one (ps_ret (pe_op op_mod (pe_op op_fdivW (pv 5) pe_int) (pv 1))))))))))))
abbrev s__law_mixed : Stmt := topS 27
theorem sc__law_mixed : FnScope ["_law_bag_here", "_law_some", "_law_left", "_law_found", "_law_k"] ["_law_bag_here", "_law_some"] (defScope s__law_mixed) := ⟨rfl, rfl, rfl, by decide +kernel, rfl, by decide +kernel, by decide +kernel⟩
theorem ok__law_mixed (T : Tx K mg) {fd : FuncData} (F : FnP K "_law_mixed" "_law_mixed" s__law_mixed (He.fAd K ("_law_mixed", none)) fd) (D__law_pull : FO P w K mg 1 ("_law_pull", none) ["_law_bag_here", "_law_many"] (S__law_pull K)) : FO P w K mg 2 ("_law_mixed", none) ["_law_bag_here", "_law_some"] (S__law_mixed K) := by
  obtain ⟨fd__law_pull, k__law_pull, b__law_pull, G__law_pull⟩ := D__law_pull.ex
  refine ⟨⟨fd, F.kp, F.bindsN (fun _ _ _ _ _ _ us hl => match us, hl with | [_, _], _ => rfl), fun base => F.ok sc__law_mixed len_body (fun cdv A outer s H vs Q E hr h => ⟨t__law_mixed K E, ?_, r__law_mixed T vs H Q E h⟩)⟩⟩
  have G__law_pull := G__law_pull base
  have tkD := L2N.takes_of (X := cxOf (CXZ P w) P w K mg base ["_law_bag_here", "_law_some", "_law_left", "_law_found", "_law_k"] "_law_mixed" (defScope s__law_mixed) (He.fAd K ("_law_mixed", none)) cdv A outer s H E) (E := E) rfl rfl rfl rfl
  exact (pss_cons (ps_par (i := 2) (j := 3) (by rfl) sc__law_mixed.nd rfl rfl (by decide) rfl rfl (pa_cons (pe_callTy call_list_of (by rfl) T.f_list (by decide +kernel) (pa_cons (pv 1) pa_nil)) (pa_cons (pe_lst pa_nil) pa_nil)) (by rfl))
    (pss_cons (ps_for (L2.passes_of rfl) rfl (pi_range1 (by rfl) T.f_range (pa_cons (pe_callB call_len_seq (by rfl) T.f_len (by decide +kernel) (pa_cons (pv 1) pa_nil)) pa_nil)) (pg_name (i := 4) sc__law_mixed.nd rfl (.inl rfl))
    (pss_one (ps_expr (pe_bm PySem.F.plainAttrs_list PySem.F.slot_list_append PySem.F.type_list_append mt_append (pv 3) (pa_cons (pe_bm PySem.F.plainAttrs_list PySem.F.slot_list_pop PySem.F.type_list_pop mt_popAt (pv 2) (pa_cons (pe_call G__law_pull (hr.mono (by decide)) rfl T.g__law_pull k__law_pull b__law_pull .nil (passD tkD) (pa_cons (pv 0) (pa_cons (pe_callB call_len_seq (by rfl) T.f_len (by decide +kernel) (pa_cons (pv 2) pa_nil)) pa_nil))) pa_nil)) pa_nil)))))
    (pss_one (ps_ret (pv 3)))))
abbrev s__law_web : Stmt := topS 28
theorem sc__law_web : FnScope ["_law_bag_here", "_law_rooms_most", "_law_more_most", "_law_rooms", "_law_pairs", "_law_k", "_law_room"] ["_law_bag_here", "_law_rooms_most", "_law_more_most"] (defScope s__law_web) := ⟨rfl, rfl, rfl, by decide +kernel, rfl, by decide +kernel, by decide +kernel⟩
theorem ok__law_web (T : Tx K mg) {fd : FuncData} (F : FnP K "_law_web" "_law_web" s__law_web (He.fAd K ("_law_web", none)) fd) (D__law_pull : FO P w K mg 1 ("_law_pull", none) ["_law_bag_here", "_law_many"] (S__law_pull K)) (D__law_mixed : FO P w K mg 2 ("_law_mixed", none) ["_law_bag_here", "_law_some"] (S__law_mixed K)) : FO P w K mg 3 ("_law_web", none) ["_law_bag_here", "_law_rooms_most", "_law_more_most"] (S__law_web K) := by
  obtain ⟨fd__law_pull, k__law_pull, b__law_pull, G__law_pull⟩ := D__law_pull.ex
  obtain ⟨fd__law_mixed, k__law_mixed, b__law_mixed, G__law_mixed⟩ := D__law_mixed.ex
  refine ⟨⟨fd, F.kp, F.bindsN (fun _ _ _ _ _ _ us hl => match us, hl with | [_, _, _], _ => rfl), fun base => F.ok sc__law_web len_body (fun cdv A outer s H vs Q E hr h => ⟨t__law_web K E, ?_, r__law_web T vs H Q E h⟩)⟩⟩
  have G__law_pull := G__law_pull base
  have G__law_mixed := G__law_mixed base
  have tkD := L2N.takes_of (X := cxOf (CXZ P w) P w K mg base ["_law_bag_here", "_law_rooms_most", "_law_more_most", "_law_rooms", "_law_pairs", "_law_k", "_law_room"] "_law_web" (defScope s__law_web) (He.fAd K ("_law_web", none)) cdv A outer s H E) (E := E) rfl rfl rfl rfl
  exact (pss_cons (ps_set (i := 3) sc__law_web.nd rfl (.inr rfl) (pe_op op_add pe_int (pe_call G__law_pull (hr.mono (by decide)) rfl T.g__law_pull k__law_pull b__law_pull .nil (passD tkD) (pa_cons (pv 0) (pa_cons (pv 1) pa_nil)))))
    (pss_cons (ps_setLc (i := 4) (own := [("_law_room", 6)]) (g := (gName 6)) (tt := tYes) (by rfl) sc__law_web.nd rfl rfl (sw_true rfl rfl rfl (by decide +kernel)) (pi_range1 (by rfl) T.f_range (pa_cons (pv 3) pa_nil)) (blkOk_by (by kernel_rfl)) (fun _ _ _ _ _ => (pg_name (i := 6) sc__law_web.nd rfl (.inl rfl))) (fun _ _ _ _ _ => pts_nil) (fun _ _ _ _ _ => (pe_tup (pa_cons (pv 6) (pa_cons (pe_call G__law_pull (hr.mono (by decide)) rfl T.g__law_pull k__law_pull b__law_pull .nil passL0 (pa_cons (pv 0) (pa_cons (pv 3) pa_nil))) pa_nil)))))
    (pss_cons (ps_for (L2.passes_of rfl) rfl (pi_range1 (by rfl) T.f_range (pa_cons (pe_call G__law_pull (hr.mono (by decide)) rfl T.g__law_pull k__law_pull b__law_pull .nil (passD tkD) (pa_cons (pv 0) (pa_cons (pe_op op_add (pv 2) pe_int) pa_nil))) pa_nil)) (pg_name (i := 5) sc__law_web.nd rfl (.inl rfl))
    (pss_one (ps_expr (pe_bm PySem.F.plainAttrs_list PySem.F.slot_list_append PySem.F.type_list_append mt_append (pv 4) (pa_cons (pe_tup (pa_cons (pe_call G__law_pull (hr.mono (by decide)) rfl T.g__law_pull k__law_pull b__law_pull .nil (passD tkD) (pa_cons (pv 0) (pa_cons (pv 3) pa_nil))) (pa_cons (pe_call G__law_pull (hr.mono (by decide)) rfl T.g__law_pull k__law_pull b__law_pull .nil (passD tkD) (pa_cons (pv 0) (pa_cons (pv 3) pa_nil))) pa_nil))) pa_nil)))))
    (pss_one (ps_ret (pe_tup (pa_cons (pv 3) (pa_cons (pe_callTy call_tupleN (by rfl) T.f_tuple (by decide +kernel) (pa_cons (pe_call G__law_mixed (hr.mono (by decide)) rfl T.g__law_mixed k__law_mixed b__law_mixed .nil (passD tkD) (pa_cons (pv 0) (pa_cons (pv 4) pa_nil))) pa_nil)) pa_nil))))))))
abbrev s__law_of : Stmt := topS 26
theorem sc__law_of : FnScope ["_law_bag_here", "_law_some"] ["_law_bag_here", "_law_some"] (defScope s__law_of) := ⟨rfl, rfl, rfl, by decide +kernel, rfl, by decide +kernel, by decide +kernel⟩
theorem ok__law_of (T : Tx K mg) {fd : FuncData} (F : FnP K "_law_of" "_law_of" s__law_of (He.fAd K ("_law_of", none)) fd) (D__law_pull : FO P w K mg 1 ("_law_pull", none) ["_law_bag_here", "_law_many"] (S__law_pull K)) : FO P w K mg 2 ("_law_of", none) ["_law_bag_here", "_law_some"] (S__law_of K) := by
  obtain ⟨fd__law_pull, k__law_pull, b__law_pull, G__law_pull⟩ := D__law_pull.ex
  refine ⟨⟨fd, F.kp, F.bindsN (fun _ _ _ _ _ _ us hl => match us, hl with | [_, _], _ => rfl), fun base => F.ok sc__law_of len_body (fun cdv A outer s H vs Q E hr h => ⟨t__law_of K E, ?_, r__law_of T vs H Q E h⟩)⟩⟩
  have G__law_pull := G__law_pull base
  have tkD := L2N.takes_of (X := cxOf (CXZ P w) P w K mg base ["_law_bag_here", "_law_some"] "_law_of" (defScope s__law_of) (He.fAd K ("_law_of", none)) cdv A outer s H E) (E := E) rfl rfl rfl rfl
  exact (pss_one (ps_ret (pe_ix ix_seq (pv 1) (pe_call G__law_pull (hr.mono (by decide)) rfl T.g__law_pull k__law_pull b__law_pull .nil (passD tkD) (pa_cons (pv 0) (pa_cons (pe_callB call_len_seq (by rfl) T.f_len (by decide +kernel) (pa_cons (pv 1) pa_nil)) pa_nil))) (fun _ _ => rfl))))
abbrev s__law_outs : Stmt := topS 30
theorem sc__law_outs : FnScope ["_law_w", "_law_room", "_law_at", "_law_pair"] ["_law_w", "_law_room"] (defScope s__law_outs) := ⟨rfl, rfl, rfl, by decide +kernel, rfl, by decide +kernel, by decide +kernel⟩
theorem ok__law_outs (T : Tx K mg) {fd : FuncData} (F : FnP K "_law_outs" "_law_outs" s__law_outs (He.fAd K ("_law_outs", none)) fd) : FO P w K mg 1 ("_law_outs", none) ["_law_w", "_law_room"] (S__law_outs K) := by
  refine ⟨⟨fd, F.kp, F.bindsN (fun _ _ _ _ _ _ us hl => match us, hl with | [_, _], _ => rfl), fun base => F.ok sc__law_outs len_body (fun cdv A outer s H vs Q E hr h => ⟨t__law_outs K E, ?_, r__law_outs T vs H Q E h⟩)⟩⟩
  have tkD := L2N.takes_of (X := cxOf (CXZ P w) P w K mg base ["_law_w", "_law_room", "_law_at", "_law_pair"] "_law_outs" (defScope s__law_outs) (He.fAd K ("_law_outs", none)) cdv A outer s H E) (E := E) rfl rfl rfl rfl
  exact (pss_one (ps_ret (pe_lc (own := [("_law_at", 2), ("_law_pair", 3)]) (g := (gTup K 2 (gCons (gName 2) (gCons (gName 3) gNil)))) (tt := (tTest (tOp (rEqD K) (tOp (rIx K) (tVar 3) (tC (.int 0))) (tVar 1)))) (by rfl) sc__law_outs.nd (pi_enumA (by rfl) T.f_enumerate (pa_cons (pe_ix ix_seq (pv 0) pe_int (fun _ _ => rfl)) pa_nil)) (blkOk_by (by kernel_rfl)) (fun _ _ _ _ _ => (pg_tup (by rfl) (pgs_cons (pg_name (i := 2) sc__law_outs.nd rfl (.inl rfl)) (pgs_cons (pg_name (i := 3) sc__law_outs.nd rfl (.inl rfl)) pgs_nil)))) (fun _ _ _ _ _ => (pts_one (pt_cmpR (op_eqD hr.units) (pe_ix ix_seq (pv 3) pe_int (fun _ _ => rfl)) (pv 1) (nomark _)))) (fun _ _ _ _ _ => (pv 2)))))
abbrev s__law_on : Stmt := topS 31
theorem sc__law_on : FnScope ["_law_w", "_law_arrow"] ["_law_w", "_law_arrow"] (defScope s__law_on) := ⟨rfl, rfl, rfl, by decide +kernel, rfl, by decide +kernel, by decide +kernel⟩
theorem ok__law_on (T : Tx K mg) {fd : FuncData} (F : FnP K "_law_on" "_law_on" s__law_on (He.fAd K ("_law_on", none)) fd) (D__law_outs : FO P w K mg 1 ("_law_outs", none) ["_law_w", "_law_room"] (S__law_outs K)) : FO P w K mg 2 ("_law_on", none) ["_law_w", "_law_arrow"] (S__law_on K) := by
  obtain ⟨fd__law_outs, k__law_outs, b__law_outs, G__law_outs⟩ := D__law_outs.ex
  refine ⟨⟨fd, F.kp, F.bindsN (fun _ _ _ _ _ _ us hl => match us, hl with | [_, _], _ => rfl), fun base => F.ok sc__law_on len_body (fun cdv A outer s H vs Q E hr h => ⟨t__law_on K E, ?_, r__law_on T vs H Q E h⟩)⟩⟩
  have G__law_outs := G__law_outs base
  have tkD := L2N.takes_of (X := cxOf (CXZ P w) P w K mg base ["_law_w", "_law_arrow"] "_law_on" (defScope s__law_on) (He.fAd K ("_law_on", none)) cdv A outer s H E) (E := E) rfl rfl rfl rfl
  exact (pss_one (ps_ret (pe_call G__law_outs (hr.mono (by decide)) rfl T.g__law_outs k__law_outs b__law_outs .nil (passD tkD) (pa_cons (pv 0) (pa_cons (pe_ix ix_seq (pe_ix ix_seq (pe_ix ix_seq (pv 0) pe_int (fun _ _ => rfl)) (pv 1) (fun _ _ => rfl)) pe_int (fun _ _ => rfl)) pa_nil)))))
abbrev s__law_walk : Stmt := topS 33
theorem sc__law_walk : FnScope ["_law_bag_here", "_law_w", "_law_arrow", "_law_row", "_law_k", "_law_begins", "_law_at", "_law_one", "_law_room"] ["_law_bag_here", "_law_w"] (defScope s__law_walk) := ⟨rfl, rfl, rfl, by decide +kernel, rfl, by decide +kernel, by decide +kernel⟩
theorem ok__law_walk (T : Tx K mg) {fd : FuncData} (F : FnP K "_law_walk" "_law_walk" s__law_walk (He.fAd K ("_law_walk", none)) fd) (D__law_pull : FO P w K mg 1 ("_law_pull", none) ["_law_bag_here", "_law_many"] (S__law_pull K)) (D__law_of : FO P w K mg 2 ("_law_of", none) ["_law_bag_here", "_law_some"] (S__law_of K)) (D__law_on : FO P w K mg 2 ("_law_on", none) ["_law_w", "_law_arrow"] (S__law_on K)) : FO P w K mg 3 ("_law_walk", none) ["_law_bag_here", "_law_w"] (S__law_walk K) := by
  obtain ⟨fd__law_pull, k__law_pull, b__law_pull, G__law_pull⟩ := D__law_pull.ex
  obtain ⟨fd__law_of, k__law_of, b__law_of, G__law_of⟩ := D__law_of.ex
  obtain ⟨fd__law_on, k__law_on, b__law_on, G__law_on⟩ := D__law_on.ex
  refine ⟨⟨fd, F.kp, F.bindsN (fun _ _ _ _ _ _ us hl => match us, hl with | [_, _], _ => rfl), fun base => F.ok sc__law_walk len_body (fun cdv A outer s H vs Q E hr h => ⟨t__law_walk K E, ?_, r__law_walk T vs H Q E h⟩)⟩⟩
  have G__law_pull := G__law_pull base
  have G__law_of := G__law_of base
  have G__law_on := G__law_on base
  have tkD := L2N.takes_of (X := cxOf (CXZ P w) P w K mg base ["_law_bag_here", "_law_w", "_law_arrow", "_law_row", "_law_k", "_law_begins", "_law_at", "_law_one", "_law_room"] "_law_walk" (defScope s__law_walk) (He.fAd K ("_law_walk", none)) cdv A outer s H E) (E := E) rfl rfl rfl rfl
  exact (pss_cons (ps_set (i := 2) sc__law_walk.nd rfl (.inl rfl) (pe_call G__law_pull (hr.mono (by decide)) rfl T.g__law_pull k__law_pull b__law_pull .nil (passD tkD) (pa_cons (pv 0) (pa_cons (pe_callB call_len_seq (by rfl) T.f_len (by decide +kernel) (pa_cons (pe_ix ix_seq (pv 1) pe_int (fun _ _ => rfl)) pa_nil)) pa_nil))))
    (pss_cons (ps_set (i := 3) sc__law_walk.nd rfl (.inr rfl) (pe_lst (pa_cons (pv 2) pa_nil)))
    (pss_cons (ps_for (L2.passes_of rfl) rfl (pi_range1 (by rfl) T.f_range (pa_cons (pe_call G__law_pull (hr.mono (by decide)) rfl T.g__law_pull k__law_pull b__law_pull .nil (passD tkD) (pa_cons (pv 0) (pa_cons pe_int pa_nil))) pa_nil)) (pg_name (i := 4) sc__law_walk.nd rfl (.inl rfl))
    (pss_one (ps_expr (pe_bm PySem.F.plainAttrs_list PySem.F.slot_list_append PySem.F.type_list_append mt_append (pv 3) (pa_cons (pe_call G__law_of (hr.mono (by decide)) rfl T.g__law_of k__law_of b__law_of .nil (passD tkD) (pa_cons (pv 0) (pa_cons (pe_call G__law_on (hr.mono (by decide)) rfl T.g__law_on k__law_on b__law_on .nil (passD tkD) (pa_cons (pv 1) (pa_cons (pe_ix ix_seq (pv 3) (pe_un un_neg pe_int) (fun _ _ => rfl)) pa_nil))) pa_nil))) pa_nil)))))
    (pss_cons (ps_setLc (i := 5) (own := [("_law_one", 7)]) (g := (gName 7)) (tt := tYes) (by rfl) sc__law_walk.nd rfl rfl (sw_true rfl rfl rfl (by decide +kernel)) (pi_seq (pv 3)) (blkOk_by (by kernel_rfl)) (fun _ _ _ _ _ => (pg_name (i := 7) sc__law_walk.nd rfl (.inl rfl))) (fun _ _ _ _ _ => pts_nil) (fun _ _ _ _ _ => (pe_ix ix_seq (pe_ix ix_seq (pe_ix ix_seq (pv 1) pe_int (fun _ _ => rfl)) (pv 7) (fun _ _ => rfl)) pe_int (fun _ _ => rfl))))
    (pss_cons (ps_while (L2.passes_of rfl) (pt_cmpR (op_notInD (un65 hr)) (pe_ix ix_seq (pe_ix ix_seq (pe_ix ix_seq (pv 1) pe_int (fun _ _ => rfl)) (pe_ix ix_seq (pv 3) (pe_un un_neg pe_int) (fun _ _ => rfl)) (fun _ _ => rfl)) pe_int (fun _ _ => rfl)) (pv 5) (by rfl))
    (pss_cons (ps_expr (pe_bm PySem.F.plainAttrs_list PySem.F.slot_list_append PySem.F.type_list_append mt_append (pv 3) (pa_cons (pe_call G__law_of (hr.mono (by decide)) rfl T.g__law_of k__law_of b__law_of .nil (passD tkD) (pa_cons (pv 0) (pa_cons (pe_call G__law_on (hr.mono (by decide)) rfl T.g__law_on k__law_on b__law_on .nil (passD tkD) (pa_cons (pv 1) (pa_cons (pe_ix ix_seq (pv 3) (pe_un un_neg pe_int) (fun _ _ => rfl)) pa_nil))) pa_nil))) pa_nil)))
    (pss_one (ps_expr (pe_bm PySem.F.plainAttrs_list PySem.F.slot_list_append PySem.F.type_list_append mt_append (pv 5) (pa_cons (pe_ix ix_seq (pe_ix ix_seq (pe_ix ix_seq (pv 1) pe_int (fun _ _ => rfl)) (pe_ix ix_seq (pv 3) (pe_un un_neg pe_int) (fun _ _ => rfl)) (fun _ _ => rfl)) pe_int (fun _ _ => rfl)) pa_nil))))))
    (pss_cons (ps_set (i := 6) sc__law_walk.nd rfl (.inl rfl) (pe_ix ix_seq (pe_lc (own := [("_law_k", 4), ("_law_room", 8)]) (g := (gTup K 2 (gCons (gName 4) (gCons (gName 8) gNil)))) (tt := (tTest (tOp (rEqD K) (tVar 8) (tOp (rIx K) (tOp (rIx K) (tOp (rIx K) (tVar 1) (tC (.int 1))) (tOp (rIx K) (tVar 3) (tUn rNegI (tC (.int 1))))) (tC (.int 1)))))) (by rfl) sc__law_walk.nd (pi_enumA (by rfl) T.f_enumerate (pa_cons (pv 5) pa_nil)) (blkOk_by (by kernel_rfl)) (fun _ _ _ _ _ => (pg_tup (by rfl) (pgs_cons (pg_name (i := 4) sc__law_walk.nd rfl (.inl rfl)) (pgs_cons (pg_name (i := 8) sc__law_walk.nd rfl (.inl rfl)) pgs_nil)))) (fun _ _ _ _ _ => (pts_one (pt_cmpR (op_eqD hr.units) (pv 8) (pe_ix ix_seq (pe_ix ix_seq (pe_ix ix_seq (pv 1) pe_int (fun _ _ => rfl)) (pe_ix ix_seq (pv 3) (pe_un un_neg pe_int) (fun _ _ => rfl)) (fun _ _ => rfl)) pe_int (fun _ _ => rfl)) (nomark _)))) (fun _ _ _ _ _ => (pv 4))) (pe_un un_neg pe_int) (fun _ _ => rfl)))
    (pss_one (ps_ret (pe_tup (pa_cons (pe_slice sl_list (pv 3) po_none (po_some (pv 6))) (pa_cons (pe_slice sl_list (pv 3) (po_some (pv 6)) po_none) pa_nil)))))))))))
abbrev s__law_beats : Stmt := topS 32
theorem sc__law_beats : FnScope ["_law_walk_here", "_law_many", "_law_ahead", "_law_ring", "_law_found"] ["_law_walk_here", "_law_many"] (defScope s__law_beats) := ⟨rfl, rfl, rfl, by decide +kernel, rfl, by decide +kernel, by decide +kernel⟩
theorem ok__law_beats (T : Tx K mg) {fd : FuncData} (F : FnP K "_law_beats" "_law_beats" s__law_beats (He.fAd K ("_law_beats", none)) fd) : FO P w K mg 1 ("_law_beats", none) ["_law_walk_here", "_law_many"] (S__law_beats K) := by
  refine ⟨⟨fd, F.kp, F.bindsN (fun _ _ _ _ _ _ us hl => match us, hl with | [_, _], _ => rfl), fun base => F.ok sc__law_beats len_body (fun cdv A outer s H vs Q E hr h => ⟨t__law_beats K E, ?_, r__law_beats T vs H Q E h⟩)⟩⟩
  have tkD := L2N.takes_of (X := cxOf (CXZ P w) P w K mg base ["_law_walk_here", "_law_many", "_law_ahead", "_law_ring", "_law_found"] "_law_beats" (defScope s__law_beats) (He.fAd K ("_law_beats", none)) cdv A outer s H E) (E := E) rfl rfl rfl rfl
  exact (pss_cons (ps_asg (pv 0) (pg_tup (by rfl) (pgs_cons (pg_name (i := 2) sc__law_beats.nd rfl (.inl rfl)) (pgs_cons (pg_name (i := 3) sc__law_beats.nd rfl (.inl rfl)) pgs_nil))))
    (pss_cons (ps_set (i := 4) sc__law_beats.nd rfl (.inl rfl) (pe_callTy call_list_of (by rfl) T.f_list (by decide +kernel) (pa_cons (pv 2) pa_nil)))
    (pss_cons (ps_while (L2.passes_of rfl) (pt_cmpR op_lt (pe_callB call_len_seq (by rfl) T.f_len (by decide +kernel) (pa_cons (pv 4) pa_nil)) (pv 1) (nomark _))
    (pss_one (ps_set (i := 4) sc__law_beats.nd rfl (.inl rfl) (pe_op op_cat (pv 4) (pe_callTy call_list_of (by rfl) T.f_list (by decide +kernel) (pa_cons (pv 3) pa_nil))))))
    (pss_one (ps_ret (pe_slice sl_list (pv 4) po_none (po_some (pv 1))))))))
abbrev s_is_within : Stmt := topS 15
theorem sc_is_within : FnScope ["thing", "low", "high"] ["thing", "low", "high"] (defScope s_is_within) := ⟨rfl, rfl, rfl, by decide +kernel, rfl, by decide +kernel, by decide +kernel⟩
theorem ok_is_within (T : Tx K mg) {fd : FuncData} (F : FnP K "is_within" "is_within" s_is_within (He.fAd K ("is_within", none)) fd) : FO P w K mg 1 ("is_within", none) ["thing", "low", "high"] (S_is_within K) := by
  refine ⟨⟨fd, F.kp, F.bindsN (fun _ _ _ _ _ _ us hl => match us, hl with | [_, _, _], _ => rfl), fun base => F.ok sc_is_within len_body (fun cdv A outer s H vs Q E hr h => ⟨t_is_within K E, ?_, r_is_within T vs H Q E h⟩)⟩⟩
  have tkD := L2N.takes_of (X := cxOf (CXZ P w) P w K mg base ["thing", "low", "high"] "is_within" (defScope s_is_within) (He.fAd K ("is_within", none)) cdv A outer s H E) (E := E) rfl rfl rfl rfl
  exact (pss_one (ps_ret (pe_and (pe_callB call_isi (by rfl) T.f_isinstance (by decide +kernel) (pa_cons (pv 0) (pa_cons (pe_bltn (v := .ty "int") (by rfl) T.f_int (by decide +kernel) rfl) pa_nil))) (pe_and (pe_not (pe_callB call_isi (by rfl) T.f_isinstance (by decide +kernel) (pa_cons (pv 0) (pa_cons (pe_bltn (v := .ty "bool") (by rfl) T.f_bool (by decide +kernel) rfl) pa_nil)))) (pe_one (pe_chain op_le op_le (pv 1) (pv 0) (pv 2)))))))
abbrev s_Web_has_arrow : Stmt := inClass (topS 18) 6
theorem sc_Web_has_arrow : FnScope ["self", "arrow"] ["self", "arrow"] (defScope s_Web_has_arrow) := ⟨rfl, rfl, rfl, by decide +kernel, rfl, by decide +kernel, by decide +kernel⟩
theorem ok_Web_has_arrow (T : Tx K mg) {fd : FuncData} (F : FnP K "has_arrow" "Web.has_arrow" s_Web_has_arrow (He.fAd K ("Web", some "has_arrow")) fd) (D_is_within : FO P w K mg 1 ("is_within", none) ["thing", "low", "high"] (S_is_within K)) : FO P w K mg 2 ("Web", some "has_arrow") ["self", "arrow"] (S_Web_has_arrow K) := by
  obtain ⟨fd_is_within, k_is_within, b_is_within, G_is_within⟩ := D_is_within.ex
  refine ⟨⟨fd, F.kp, F.bindsN (fun _ _ _ _ _ _ us hl => match us, hl with | [_, _], _ => rfl), fun base => F.ok sc_Web_has_arrow len_body (fun cdv A outer s H vs Q E hr h => ⟨t_Web_has_arrow K E, ?_, r_Web_has_arrow T vs H Q E h⟩)⟩⟩
  have G_is_within := G_is_within base
  have tkD := L2N.takes_of (X := cxOf (CXZ P w) P w K mg base ["self", "arrow"] "Web.has_arrow" (defScope s_Web_has_arrow) (He.fAd K ("Web", some "has_arrow")) cdv A outer s H E) (E := E) rfl rfl rfl rfl
  exact (pss_one (ps_ret (pe_call G_is_within (hr.mono (by decide)) rfl T.g_is_within k_is_within b_is_within .nil (passD tkD) (pa_cons (pv 1) (pa_cons pe_int (pa_cons (pe_op op_sub (pe_callB call_len_seq (by rfl) T.f_len (by decide +kernel) (pa_cons (pe_fld (pv 0) rfl) pa_nil)) pe_int) pa_nil))))))
abbrev s_Web_first_wrong : Stmt := inClass (topS 18) 17
theorem sc_Web_first_wrong : FnScope ["self", "row", "at", "arrow"] ["self", "row"] (defScope s_Web_first_wrong) := ⟨rfl, rfl, rfl, by decide +kernel, rfl, by decide +kernel, by decide +kernel⟩
theorem ok_Web_first_wrong (T : Tx K mg) {fd : FuncData} (F : FnP K "first_wrong" "Web.first_wrong" s_Web_first_wrong (He.fAd K ("Web", some "first_wrong")) fd) (D_Web_has_arrow : FO P w K mg 2 ("Web", some "has_arrow") ["self", "arrow"] (S_Web_has_arrow K)) : FO P w K mg 3 ("Web", some "first_wrong") ["self", "row"] (S_Web_first_wrong K) := by
  obtain ⟨fd_Web_has_arrow, k_Web_has_arrow, b_Web_has_arrow, G_Web_has_arrow⟩ := D_Web_has_arrow.ex
  refine ⟨⟨fd, F.kp, F.bindsN (fun _ _ _ _ _ _ us hl => match us, hl with | [_, _], _ => rfl), fun base => F.ok sc_Web_first_wrong len_body (fun cdv A outer s H vs Q E hr h => ⟨t_Web_first_wrong K E, ?_, r_Web_first_wrong T vs H Q E h⟩)⟩⟩
  have G_Web_has_arrow := G_Web_has_arrow base
  have tkD := L2N.takes_of (X := cxOf (CXZ P w) P w K mg base ["self", "row", "at", "arrow"] "Web.first_wrong" (defScope s_Web_first_wrong) (He.fAd K ("Web", some "first_wrong")) cdv A outer s H E) (E := E) rfl rfl rfl rfl
  exact (pss_cons (ps_for (L2.passes_of rfl) rfl (pi_enumA (by rfl) T.f_enumerate (pa_cons (pv 1) pa_nil)) (pg_tup (by rfl) (pgs_cons (pg_name (i := 2) sc_Web_first_wrong.nd rfl (.inl rfl)) (pgs_cons (pg_name (i := 3) sc_Web_first_wrong.nd rfl (.inl rfl)) pgs_nil)))
    (pss_one (ps_if (PW.pt (pw_or (pt_not (pt_val (pe_meth (pv 0) T.k_Web.k.c T.m_Web_has_arrow G_Web_has_arrow (hr.mono (by decide)) b_Web_has_arrow .nil (passD tkD) (pa_cons (pv 3) pa_nil)))) (pw_or1 (PW.pt (pw_and (pt_cmpR op_gt (pv 2) pe_int (nomark _)) (pw_and1 (pt_cmpR (op_neD hr.units) (pe_ix ix_seq (pe_ix ix_seq (pe_fld (pv 0) rfl) (pe_ix ix_seq (pv 1) (pe_op op_sub (pv 2) pe_int) (fun _ _ => rfl)) (fun _ _ => rfl)) pe_int (fun _ _ => rfl)) (pe_ix ix_seq (pe_ix ix_seq (pe_fld (pv 0) rfl) (pv 3) (fun _ _ => rfl)) pe_int (fun _ _ => rfl)) (nomark _)))))))) (pss_one (ps_ret (pv 2))) pss_nil)))
    (pss_one (ps_ret pe_non)))
abbrev s_Web_end : Stmt := inClass (topS 18) 9
theorem sc_Web_end : FnScope ["self", "arrow"] ["self", "arrow"] (defScope s_Web_end) := ⟨rfl, rfl, rfl, by decide +kernel, rfl, by decide +kernel, by decide +kernel⟩
theorem ok_Web_end (T : Tx K mg) {fd : FuncData} (F : FnP K "end" "Web.end" s_Web_end (He.fAd K ("Web", some "end")) fd) (D_Web_has_arrow : FO P w K mg 2 ("Web", some "has_arrow") ["self", "arrow"] (S_Web_has_arrow K)) : FO P w K mg 3 ("Web", some "end") ["self", "arrow"] (S_Web_end K) := by
  obtain ⟨fd_Web_has_arrow, k_Web_has_arrow, b_Web_has_arrow, G_Web_has_arrow⟩ := D_Web_has_arrow.ex
  refine ⟨⟨fd, F.kp, F.bindsN (fun _ _ _ _ _ _ us hl => match us, hl with | [_, _], _ => rfl), fun base => F.ok sc_Web_end len_body (fun cdv A outer s H vs Q E hr h => ⟨t_Web_end K E, ?_, r_Web_end T vs H Q E h⟩)⟩⟩
  have G_Web_has_arrow := G_Web_has_arrow base
  have tkD := L2N.takes_of (X := cxOf (CXZ P w) P w K mg base ["self", "arrow"] "Web.end" (defScope s_Web_end) (He.fAd K ("Web", some "end")) cdv A outer s H E) (E := E) rfl rfl rfl rfl
  exact (pss_cons (ps_if (pt_not (pt_val (pe_meth (pv 0) T.k_Web.k.c T.m_Web_has_arrow G_Web_has_arrow (hr.mono (by decide)) b_Web_has_arrow .nil (passD tkD) (pa_cons (pv 1) pa_nil)))) (pss_one ps_never) pss_nil)
    (pss_one (ps_ret (pe_ix ix_seq (pe_ix ix_seq (pe_fld (pv 0) rfl) (pv 1) (fun _ _ => rfl)) pe_int (fun _ _ => rfl)))))
abbrev s_Web_begin : Stmt := inClass (topS 18) 8
theorem sc_Web_begin : FnScope ["self", "arrow"] ["self", "arrow"] (defScope s_Web_begin) := ⟨rfl, rfl, rfl, by decide +kernel, rfl, by decide +kernel, by decide +kernel⟩
theorem ok_Web_begin (T : Tx K mg) {fd : FuncData} (F : FnP K "begin" "Web.begin" s_Web_begin (He.fAd K ("Web", some "begin")) fd) (D_Web_has_arrow : FO P w K mg 2 ("Web", some "has_arrow") ["self", "arrow"] (S_Web_has_arrow K)) : FO P w K mg 3 ("Web", some "begin") ["self", "arrow"] (S_Web_begin K) := by
  obtain ⟨fd_Web_has_arrow, k_Web_has_arrow, b_Web_has_arrow, G_Web_has_arrow⟩ := D_Web_has_arrow.ex
  refine ⟨⟨fd, F.kp, F.bindsN (fun _ _ _ _ _ _ us hl => match us, hl with | [_, _], _ => rfl), fun base => F.ok sc_Web_begin len_body (fun cdv A outer s H vs Q E hr h => ⟨t_Web_begin K E, ?_, r_Web_begin T vs H Q E h⟩)⟩⟩
  have G_Web_has_arrow := G_Web_has_arrow base
  have tkD := L2N.takes_of (X := cxOf (CXZ P w) P w K mg base ["self", "arrow"] "Web.begin" (defScope s_Web_begin) (He.fAd K ("Web", some "begin")) cdv A outer s H E) (E := E) rfl rfl rfl rfl
  exact (pss_cons (ps_if (pt_not (pt_val (pe_meth (pv 0) T.k_Web.k.c T.m_Web_has_arrow G_Web_has_arrow (hr.mono (by decide)) b_Web_has_arrow .nil (passD tkD) (pa_cons (pv 1) pa_nil)))) (pss_one ps_never) pss_nil)
    (pss_one (ps_ret (pe_ix ix_seq (pe_ix ix_seq (pe_fld (pv 0) rfl) (pv 1) (fun _ _ => rfl)) pe_int (fun _ _ => rfl)))))
abbrev s_shortest_ring : Stmt := topS 20
theorem sc_shortest_ring : FnScope ["ring", "size"] ["ring"] (defScope s_shortest_ring) := ⟨rfl, rfl, rfl, by decide +kernel, rfl, by decide +kernel, by decide +kernel⟩
theorem ok_shortest_ring (T : Tx K mg) {fd : FuncData} (F : FnP K "shortest_ring" "shortest_ring" s_shortest_ring (He.fAd K ("shortest_ring", none)) fd) : FO P w K mg 1 ("shortest_ring", none) ["ring"] (S_shortest_ring K) := by
  refine ⟨⟨fd, F.kp, F.bindsN (fun _ _ _ _ _ _ us hl => match us, hl with | [_], _ => rfl), fun base => F.ok sc_shortest_ring len_body (fun cdv A outer s H vs Q E hr h => ⟨t_shortest_ring K E, ?_, r_shortest_ring T vs H Q E h⟩)⟩⟩
  have tkD := L2N.takes_of (X := cxOf (CXZ P w) P w K mg base ["ring", "size"] "shortest_ring" (defScope s_shortest_ring) (He.fAd K ("shortest_ring", none)) cdv A outer s H E) (E := E) rfl rfl rfl rfl
  exact (pss_cons (ps_for (L2.passes_of rfl) rfl (pi_range2 (by rfl) T.f_range (pa_cons pe_int (pa_cons (pe_callB call_len_seq (by rfl) T.f_len (by decide +kernel) (pa_cons (pv 0) pa_nil)) pa_nil))) (pg_name (i := 1) sc_shortest_ring.nd rfl (.inl rfl))
    (pss_one (ps_if (PW.pt (pw_and (pt_cmpR (op_eqD hr.units) (pe_op op_mod (pe_callB call_len_seq (by rfl) T.f_len (by decide +kernel) (pa_cons (pv 0) pa_nil)) (pv 1)) pe_int (nomark _)) (pw_and1 (pt_cmpR (op_eqD hr.units) (pv 0) (pe_op op_rep (pe_slice sl_list (pv 0) po_none (po_some (pv 1))) (pe_op op_fdivW (pe_callB call_len_seq (by rfl) T.f_len (by decide +kernel) (pa_cons (pv 0) pa_nil)) (pv 1))) (nomark _))))) (pss_one (ps_ret (pe_slice sl_list (pv 0) po_none (po_some (pv 1))))) pss_nil)))
    (pss_one (ps_ret (pv 0))))
abbrev s_drawn_in : Stmt := topS 21
theorem sc_drawn_in : FnScope ["ahead", "ring", "last"] ["ahead", "ring"] (defScope s_drawn_in) := ⟨rfl, rfl, rfl, by decide +kernel, rfl, by decide +kernel, by decide +kernel⟩
theorem ok_drawn_in (T : Tx K mg) {fd : FuncData} (F : FnP K "drawn_in" "drawn_in" s_drawn_in (He.fAd K ("drawn_in", none)) fd) (D_shortest_ring : FO P w K mg 1 ("shortest_ring", none) ["ring"] (S_shortest_ring K)) : FO P w K mg 2 ("drawn_in", none) ["ahead", "ring"] (S_drawn_in K) := by
  obtain ⟨fd_shortest_ring, k_shortest_ring, b_shortest_ring, G_shortest_ring⟩ := D_shortest_ring.ex
  refine ⟨⟨fd, F.kp, F.bindsN (fun _ _ _ _ _ _ us hl => match us, hl with | [_, _], _ => rfl), fun base => F.ok sc_drawn_in len_body (fun cdv A outer s H vs Q E hr h => ⟨t_drawn_in K E, ?_, r_drawn_in T vs H Q E h⟩)⟩⟩
  have G_shortest_ring := G_shortest_ring base
  have tkD := L2N.takes_of (X := cxOf (CXZ P w) P w K mg base ["ahead", "ring", "last"] "drawn_in" (defScope s_drawn_in) (He.fAd K ("drawn_in", none)) cdv A outer s H E) (E := E) rfl rfl rfl rfl
  exact (pss_cons (ps_par (i := 0) (j := 1) (by rfl) sc_drawn_in.nd rfl rfl (by decide) rfl rfl (pa_cons (pe_callTy call_list_of (by rfl) T.f_list (by decide +kernel) (pa_cons (pv 0) pa_nil)) (pa_cons (pe_call G_shortest_ring (hr.mono (by decide)) rfl T.g_shortest_ring k_shortest_ring b_shortest_ring .nil (passD tkD) (pa_cons (pe_callTy call_list_of (by rfl) T.f_list (by decide +kernel) (pa_cons (pv 1) pa_nil)) pa_nil)) pa_nil)) (by rfl))
    (pss_cons (ps_while (L2.passes_of rfl) (PW.pt (pw_and (pt_cmpR op_gt (pe_callB call_len_seq (by rfl) T.f_len (by decide +kernel) (pa_cons (pv 0) pa_nil)) pe_int (nomark _)) (pw_and1 (pt_cmpR (op_eqD hr.units) (pe_ix ix_seq (pv 0) (pe_un un_neg pe_int) (fun _ _ => rfl)) (pe_ix ix_seq (pv 1) (pe_un un_neg pe_int) (fun _ _ => rfl)) (nomark _)))))
    (pss_cons (ps_asg (pv 0) (pg_star (by rfl) (pgs_starred (pg_name (i := 0) sc_drawn_in.nd rfl (.inl rfl)) (pgs_cons (pg_name (i := 2) sc_drawn_in.nd rfl (.inl rfl)) pgs_nil))))
    (pss_one (ps_set (i := 1) sc_drawn_in.nd rfl (.inl rfl) (pe_op op_cat (pe_lst (pa_cons (pv 2) pa_nil)) (pe_slice sl_list (pv 1) po_none (po_some (pe_un un_neg pe_int))))))))
    (pss_one (ps_ret (pe_tup (pa_cons (pe_callTy call_tupleN (by rfl) T.f_tuple (by decide +kernel) (pa_cons (pv 0) pa_nil)) (pa_cons (pe_callTy call_tupleN (by rfl) T.f_tuple (by decide +kernel) (pa_cons (pv 1) pa_nil)) pa_nil)))))))
abbrev s_Walker___init__ : Stmt := inClass (topS 22) 0
theorem sc_Walker___init__ : FnScope ["self", "web", "ahead", "ring", "row", "wrong"] ["self", "web", "ahead", "ring"] (defScope s_Walker___init__) := ⟨rfl, rfl, rfl, by decide +kernel, rfl, by decide +kernel, by decide +kernel⟩
theorem ok_Walker___init__ (T : Tx K mg) {fd : FuncData} (F : FnP K "__init__" "Walker.__init__" s_Walker___init__ (He.fAd K ("Walker", some "__init__")) fd) (D_Web_first_wrong : FO P w K mg 3 ("Web", some "first_wrong") ["self", "row"] (S_Web_first_wrong K)) (D_Web_end : FO P w K mg 3 ("Web", some "end") ["self", "arrow"] (S_Web_end K)) (D_Web_begin : FO P w K mg 3 ("Web", some "begin") ["self", "arrow"] (S_Web_begin K)) (D_drawn_in : FO P w K mg 2 ("drawn_in", none) ["ahead", "ring"] (S_drawn_in K)) : FO P w K mg 4 ("Walker", some "__init__") ["self", "web", "ahead", "ring"] (S_Walker___init__ K) := by
  obtain ⟨fd_Web_first_wrong, k_Web_first_wrong, b_Web_first_wrong, G_Web_first_wrong⟩ := D_Web_first_wrong.ex
  obtain ⟨fd_Web_end, k_Web_end, b_Web_end, G_Web_end⟩ := D_Web_end.ex
  obtain ⟨fd_Web_begin, k_Web_begin, b_Web_begin, G_Web_begin⟩ := D_Web_begin.ex
  obtain ⟨fd_drawn_in, k_drawn_in, b_drawn_in, G_drawn_in⟩ := D_drawn_in.ex
  refine ⟨⟨fd, F.kp, F.bindsN (fun _ _ _ _ _ _ us hl => match us, hl with | [_, _, _, _], _ => rfl), fun base => F.ok sc_Walker___init__ len_body (fun cdv A outer s H vs Q E hr h => ⟨t_Walker___init__ K E, ?_, r_Walker___init__ T vs H Q E h⟩)⟩⟩
  have G_Web_first_wrong := G_Web_first_wrong base
  have G_Web_end := G_Web_end base
  have G_Web_begin := G_Web_begin base
  have G_drawn_in := G_drawn_in base
  have tkD := L2N.takes_of (X := cxOf (CXZ P w) P w K mg base ["self", "web", "ahead", "ring", "row", "wrong"] "Walker.__init__" (defScope s_Walker___init__) (He.fAd K ("Walker", some "__init__")) cdv A outer s H E) (E := E) rfl rfl rfl rfl
  exact (pss_cons (ps_set (i := 4) sc_Walker___init__.nd rfl (.inl rfl) (pe_op op_cat (pe_callTy call_list_of (by rfl) T.f_list (by decide +kernel) (pa_cons (pv 2) pa_nil)) (pe_callTy call_list_of (by rfl) T.f_list (by decide +kernel) (pa_cons (pv 3) pa_nil))))
    (pss_cons (ps_set (i := 5) sc_Walker___init__.nd rfl (.inl rfl) (pe_meth (pv 1) T.k_Web.k.c T.m_Web_first_wrong G_Web_first_wrong (hr.mono (by decide)) b_Web_first_wrong .nil (passD tkD) (pa_cons (pv 4) pa_nil)))
    (pss_cons (ps_if (pt_cmpR op_notN (pv 5) pe_non (nomark _)) (pss_one ps_never) pss_nil)
    (pss_cons (ps_if (PW.pt (pw_or (pt_cmpR (op_eqD hr.units) (pe_callB call_len_seq (by rfl) T.f_len (by decide +kernel) (pa_cons (pv 3) pa_nil)) pe_int (nomark _)) (pw_or1 (pt_cmpR (op_neD hr.units) (pe_meth (pv 1) T.k_Web.k.c T.m_Web_end G_Web_end (hr.mono (by decide)) b_Web_end .nil (passD tkD) (pa_cons (pe_ix ix_seq (pv 4) (pe_un un_neg pe_int) (fun _ _ => rfl)) pa_nil)) (pe_meth (pv 1) T.k_Web.k.c T.m_Web_begin G_Web_begin (hr.mono (by decide)) b_Web_begin .nil (passD tkD) (pa_cons (pe_ix ix_seq (pv 3) pe_int (fun _ _ => rfl)) pa_nil)) (nomark _))))) (pss_one ps_never) pss_nil)
    (pss_cons (ps_fld (pv 0) (pv 1) rfl)
    (pss_one (ps_asg (pe_call G_drawn_in (hr.mono (by decide)) rfl T.g_drawn_in k_drawn_in b_drawn_in .nil (passD tkD) (pa_cons (pv 2) (pa_cons (pv 3) pa_nil))) (pg_tup (by rfl) (pgs_cons (pg_fld (pv 0)) (pgs_cons (pg_fld (pv 0)) pgs_nil))))))))))
abbrev s_is_listed : Stmt := topS 16
theorem sc_is_listed : FnScope ["thing"] ["thing"] (defScope s_is_listed) := ⟨rfl, rfl, rfl, by decide +kernel, rfl, by decide +kernel, by decide +kernel⟩
theorem ok_is_listed (T : Tx K mg) {fd : FuncData} (F : FnP K "is_listed" "is_listed" s_is_listed (He.fAd K ("is_listed", none)) fd) : FO P w K mg 1 ("is_listed", none) ["thing"] (S_is_listed K) := by
  refine ⟨⟨fd, F.kp, F.bindsN (fun _ _ _ _ _ _ us hl => match us, hl with | [_], _ => rfl), fun base => F.ok sc_is_listed len_body (fun cdv A outer s H vs Q E hr h => ⟨t_is_listed K E, ?_, r_is_listed T vs H Q E h⟩)⟩⟩
  have tkD := L2N.takes_of (X := cxOf (CXZ P w) P w K mg base ["thing"] "is_listed" (defScope s_is_listed) (He.fAd K ("is_listed", none)) cdv A outer s H E) (E := E) rfl rfl rfl rfl
  exact (pss_one (ps_ret (pe_callB call_isiT (by rfl) T.f_isinstance (by decide +kernel) (pa_cons (pv 0) (pa_cons (pe_tup (pa_cons (pe_bltn (v := .ty "list") (by rfl) T.f_list (by decide +kernel) rfl) (pa_cons (pe_bltn (v := .ty "tuple") (by rfl) T.f_tuple (by decide +kernel) rfl) pa_nil))) pa_nil)))))
abbrev s_is_pair : Stmt := topS 17
theorem sc_is_pair : FnScope ["thing", "rooms", "one"] ["thing", "rooms"] (defScope s_is_pair) := ⟨rfl, rfl, rfl, by decide +kernel, rfl, by decide +kernel, by decide +kernel⟩
theorem ok_is_pair (T : Tx K mg) {fd : FuncData} (F : FnP K "is_pair" "is_pair" s_is_pair (He.fAd K ("is_pair", none)) fd) (D_is_within : FO P w K mg 1 ("is_within", none) ["thing", "low", "high"] (S_is_within K)) (D_is_listed : FO P w K mg 1 ("is_listed", none) ["thing"] (S_is_listed K)) : FO P w K mg 2 ("is_pair", none) ["thing", "rooms"] (S_is_pair K) := by
  obtain ⟨fd_is_within, k_is_within, b_is_within, G_is_within⟩ := D_is_within.ex
  obtain ⟨fd_is_listed, k_is_listed, b_is_listed, G_is_listed⟩ := D_is_listed.ex
  refine ⟨⟨fd, F.kp, F.bindsN (fun _ _ _ _ _ _ us hl => match us, hl with | [_, _], _ => rfl), fun base => F.ok sc_is_pair len_body (fun cdv A outer s H vs Q E hr h => ⟨t_is_pair K E, ?_, r_is_pair T vs H Q E h⟩)⟩⟩
  have G_is_within := G_is_within base
  have G_is_listed := G_is_listed base
  have tkD := L2N.takes_of (X := cxOf (CXZ P w) P w K mg base ["thing", "rooms", "one"] "is_pair" (defScope s_is_pair) (He.fAd K ("is_pair", none)) cdv A outer s H E) (E := E) rfl rfl rfl rfl
  exact (pss_one (ps_ret (pe_and (pe_call G_is_listed (hr.mono (by decide)) rfl T.g_is_listed k_is_listed b_is_listed .nil (passD tkD) (pa_cons (pv 0) pa_nil)) (pe_and (pe_cmpR (op_eqD hr.units) (pe_callB call_len_seq (by rfl) T.f_len (by decide +kernel) (pa_cons (pv 0) pa_nil)) pe_int (nomark _)) (pe_one (pe_callB (cr_all (by rfl)) (by rfl) T.f_all (by decide +kernel) (pa_cons (pe_lc (own := [("one", 2)]) (g := (gName 2)) (tt := tYes) (by rfl) sc_is_pair.nd (pi_seq (pv 0)) (blkOk_by (by kernel_rfl)) (fun _ _ _ _ _ => (pg_name (i := 2) sc_is_pair.nd rfl (.inl rfl))) (fun _ _ _ _ _ => pts_nil) (fun _ _ _ _ _ => (pe_call G_is_within (hr.mono (by decide)) rfl T.g_is_within k_is_within b_is_within .nil passL0 (pa_cons (pv 2) (pa_cons pe_int (pa_cons (pe_op op_sub (pv 1) pe_int) pa_nil)))))) pa_nil)))))))
abbrev s_Web___init__ : Stmt := inClass (topS 18) 0
theorem sc_Web___init__ : FnScope ["self", "rooms", "arrows", "at", "pair", "room"] ["self", "rooms", "arrows"] (defScope s_Web___init__) := ⟨rfl, rfl, rfl, by decide +kernel, rfl, by decide +kernel, by decide +kernel⟩
theorem ok_Web___init__ (T : Tx K mg) {fd : FuncData} (F : FnP K "__init__" "Web.__init__" s_Web___init__ (He.fAd K ("Web", some "__init__")) fd) (D_is_within : FO P w K mg 1 ("is_within", none) ["thing", "low", "high"] (S_is_within K)) (D_is_pair : FO P w K mg 2 ("is_pair", none) ["thing", "rooms"] (S_is_pair K)) : FO P w K mg 3 ("Web", some "__init__") ["self", "rooms", "arrows"] (S_Web___init__ K) := by
  obtain ⟨fd_is_within, k_is_within, b_is_within, G_is_within⟩ := D_is_within.ex
  obtain ⟨fd_is_pair, k_is_pair, b_is_pair, G_is_pair⟩ := D_is_pair.ex
  refine ⟨⟨fd, F.kp, F.bindsN (fun _ _ _ _ _ _ us hl => match us, hl with | [_, _, _], _ => rfl), fun base => F.ok sc_Web___init__ len_body (fun cdv A outer s H vs Q E hr h => ⟨t_Web___init__ K E, ?_, r_Web___init__ T vs H Q E h⟩)⟩⟩
  have G_is_within := G_is_within base
  have G_is_pair := G_is_pair base
  have tkD := L2N.takes_of (X := cxOf (CXZ P w) P w K mg base ["self", "rooms", "arrows", "at", "pair", "room"] "Web.__init__" (defScope s_Web___init__) (He.fAd K ("Web", some "__init__")) cdv A outer s H E) (E := E) rfl rfl rfl rfl
  exact (pss_cons (ps_if (pt_not (pt_val (pe_call G_is_within (hr.mono (by decide)) rfl T.g_is_within k_is_within b_is_within .nil (passD tkD) (pa_cons (pv 1) (pa_cons pe_int (pa_cons (pe_glob (by rfl) T.i_MOST_ROOMS.choose_spec ⟨_, rfl⟩) pa_nil)))))) (pss_one ps_never) pss_nil)
    (pss_cons (ps_for (L2.passes_of rfl) rfl (pi_enumA (by rfl) T.f_enumerate (pa_cons (pv 2) pa_nil)) (pg_tup (by rfl) (pgs_cons (pg_name (i := 3) sc_Web___init__.nd rfl (.inl rfl)) (pgs_cons (pg_name (i := 4) sc_Web___init__.nd rfl (.inl rfl)) pgs_nil)))
    (pss_one (ps_if (PW.pt (pw_or (pt_cmpR (op_eqD hr.units) (pv 3) (pe_glob (by rfl) T.i_MOST_ARROWS.choose_spec ⟨_, rfl⟩) (nomark _)) (pw_or1 (pt_not (pt_val (pe_call G_is_pair (hr.mono (by decide)) rfl T.g_is_pair k_is_pair b_is_pair .nil (passD tkD) (pa_cons (pv 4) (pa_cons (pv 1) pa_nil)))))))) (pss_one ps_never) pss_nil)))
    (pss_cons (ps_fld (pv 0) (pv 1) rfl)
    (pss_cons (ps_fld (pv 0) (pe_callTy call_tupleN (by rfl) T.f_tuple (by decide +kernel) (pa_cons (pe_lc (own := [("pair", 4)]) (g := (gName 4)) (tt := tYes) (by rfl) sc_Web___init__.nd (pi_seq (pv 2)) (blkOk_by (by kernel_rfl)) (fun _ _ _ _ _ => (pg_name (i := 4) sc_Web___init__.nd rfl (.inl rfl))) (fun _ _ _ _ _ => pts_nil) (fun _ _ _ _ _ => (pe_callTy call_tupleN (by rfl) T.f_tuple (by decide +kernel) (pa_cons (pv 4) pa_nil)))) pa_nil)) rfl)
    (pss_cons (ps_fld (pv 0) (pe_lc (own := [("room", 5)]) (g := (gName 5)) (tt := tYes) (by rfl) sc_Web___init__.nd (pi_range1 (by rfl) T.f_range (pa_cons (pv 1) pa_nil)) (blkOk_by (by kernel_rfl)) (fun _ _ _ _ _ => (pg_name (i := 5) sc_Web___init__.nd rfl (.inr rfl))) (fun _ _ _ _ _ => pts_nil) (fun _ _ _ _ _ => (pe_lc (own := [("at", 3), ("pair", 4)]) (g := (gTup K 2 (gCons (gName 3) (gCons (gName 4) gNil)))) (tt := (tTest (tOp (rEqD K) (tOp (rIx K) (tVar 4) (tC (.int 0))) (tVar 5)))) (by rfl) sc_Web___init__.nd (pi_enumA (by rfl) T.f_enumerate (pa_cons (pe_fld (pv 0) rfl) pa_nil)) (blkOk_by (by kernel_rfl)) (fun _ _ _ _ _ => (pg_tup (by rfl) (pgs_cons (pg_name (i := 3) sc_Web___init__.nd rfl (.inl rfl)) (pgs_cons (pg_name (i := 4) sc_Web___init__.nd rfl (.inl rfl)) pgs_nil)))) (fun _ _ _ _ _ => (pts_one (pt_cmpR (op_eqD hr.units) (pe_ix ix_seq (pv 4) pe_int (fun _ _ => rfl)) (pv 5) (nomark _)))) (fun _ _ _ _ _ => (pv 3))))) rfl)
    (pss_cons (ps_fld (pv 0) (pe_lc (own := [("room", 5)]) (g := (gName 5)) (tt := tYes) (by rfl) sc_Web___init__.nd (pi_range1 (by rfl) T.f_range (pa_cons (pv 1) pa_nil)) (blkOk_by (by kernel_rfl)) (fun _ _ _ _ _ => (pg_name (i := 5) sc_Web___init__.nd rfl (.inr rfl))) (fun _ _ _ _ _ => pts_nil) (fun _ _ _ _ _ => (pe_lc (own := [("at", 3), ("pair", 4)]) (g := (gTup K 2 (gCons (gName 3) (gCons (gName 4) gNil)))) (tt := (tTest (tOp (rEqD K) (tOp (rIx K) (tVar 4) (tC (.int 1))) (tVar 5)))) (by rfl) sc_Web___init__.nd (pi_enumA (by rfl) T.f_enumerate (pa_cons (pe_fld (pv 0) rfl) pa_nil)) (blkOk_by (by kernel_rfl)) (fun _ _ _ _ _ => (pg_tup (by rfl) (pgs_cons (pg_name (i := 3) sc_Web___init__.nd rfl (.inl rfl)) (pgs_cons (pg_name (i := 4) sc_Web___init__.nd rfl (.inl rfl)) pgs_nil)))) (fun _ _ _ _ _ => (pts_one (pt_cmpR (op_eqD hr.units) (pe_ix ix_seq (pv 4) pe_int (fun _ _ => rfl)) (pv 5) (nomark _)))) (fun _ _ _ _ _ => (pv 3))))) rfl)
    (pss_one (ps_if (pt_cmpR (op_inD (un65 hr)) (pe_lst pa_nil) (pe_fld (pv 0) rfl) (by rfl)) (pss_one ps_never) pss_nil))))))))
abbrev s__law_made : Stmt := topS 29
theorem sc__law_made : FnScope ["_law_w"] ["_law_w"] (defScope s__law_made) := ⟨rfl, rfl, rfl, by decide +kernel, rfl, by decide +kernel, by decide +kernel⟩
theorem ok__law_made (T : Tx K mg) {fd : FuncData} (F : FnP K "_law_made" "_law_made" s__law_made (He.fAd K ("_law_made", none)) fd) (D_Web___init__ : FO P w K mg 3 ("Web", some "__init__") ["self", "rooms", "arrows"] (S_Web___init__ K)) : FO P w K mg 5 ("_law_made", none) ["_law_w"] (S__law_made K) := by
  obtain ⟨fd_Web___init__, k_Web___init__, b_Web___init__, G_Web___init__⟩ := D_Web___init__.ex
  refine ⟨⟨fd, F.kp, F.bindsN (fun _ _ _ _ _ _ us hl => match us, hl with | [_], _ => rfl), fun base => F.ok sc__law_made len_body (fun cdv A outer s H vs Q E hr h => ⟨t__law_made K E, ?_, r__law_made T vs H Q E h⟩)⟩⟩
  have G_Web___init__ := G_Web___init__ base
  have tkD := L2N.takes_of (X := cxOf (CXZ P w) P w K mg base ["_law_w"] "_law_made" (defScope s__law_made) (He.fAd K ("_law_made", none)) cdv A outer s H E) (E := E) rfl rfl rfl rfl
  exact (pss_one (ps_ret (pe_make T.mk_Web G_Web___init__ (hr.mono (by decide)) rfl T.g_Web b_Web___init__ .nil (passD tkD) (pa_cons (pe_ix ix_seq (pv 0) pe_int (fun _ _ => rfl)) (pa_cons (pe_callTy call_list_of (by rfl) T.f_list (by decide +kernel) (pa_cons (pe_ix ix_seq (pv 0) pe_int (fun _ _ => rfl)) pa_nil)) pa_nil)))))
abbrev s__law_walker : Stmt := topS 34
theorem sc__law_walker : FnScope ["_law_w", "_law_walk_here"] ["_law_w", "_law_walk_here"] (defScope s__law_walker) := ⟨rfl, rfl, rfl, by decide +kernel, rfl, by decide +kernel, by decide +kernel⟩
theorem ok__law_walker (T : Tx K mg) {fd : FuncData} (F : FnP K "_law_walker" "_law_walker" s__law_walker (He.fAd K ("_law_walker", none)) fd) (D_Walker___init__ : FO P w K mg 4 ("Walker", some "__init__") ["self", "web", "ahead", "ring"] (S_Walker___init__ K)) (D__law_made : FO P w K mg 5 ("_law_made", none) ["_law_w"] (S__law_made K)) : FO P w K mg 6 ("_law_walker", none) ["_law_w", "_law_walk_here"] (S__law_walker K) := by
  obtain ⟨fd_Walker___init__, k_Walker___init__, b_Walker___init__, G_Walker___init__⟩ := D_Walker___init__.ex
  obtain ⟨fd__law_made, k__law_made, b__law_made, G__law_made⟩ := D__law_made.ex
  refine ⟨⟨fd, F.kp, F.bindsN (fun _ _ _ _ _ _ us hl => match us, hl with | [_, _], _ => rfl), fun base => F.ok sc__law_walker len_body (fun cdv A outer s H vs Q E hr h => ⟨t__law_walker K E, ?_, r__law_walker T vs H Q E h⟩)⟩⟩
  have G_Walker___init__ := G_Walker___init__ base
  have G__law_made := G__law_made base
  have tkD := L2N.takes_of (X := cxOf (CXZ P w) P w K mg base ["_law_w", "_law_walk_here"] "_law_walker" (defScope s__law_walker) (He.fAd K ("_law_walker", none)) cdv A outer s H E) (E := E) rfl rfl rfl rfl
  exact (pss_one (ps_ret (pe_make T.mk_Walker G_Walker___init__ (hr.mono (by decide)) rfl T.g_Walker b_Walker___init__ .nil (passD tkD) (pa_cons (pe_call G__law_made (hr.mono (by decide)) rfl T.g__law_made k__law_made b__law_made .nil (passD tkD) (pa_cons (pv 0) pa_nil)) (pa_cons (pe_callTy call_list_of (by rfl) T.f_list (by decide +kernel) (pa_cons (pe_ix ix_seq (pv 1) pe_int (fun _ _ => rfl)) pa_nil)) (pa_cons (pe_callTy call_list_of (by rfl) T.f_list (by decide +kernel) (pa_cons (pe_ix ix_seq (pv 1) pe_int (fun _ _ => rfl)) pa_nil)) pa_nil))))))
abbrev s_Web___eq__ : Stmt := inClass (topS 18) 1
theorem sc_Web___eq__ : FnScope ["self", "other"] ["self", "other"] (defScope s_Web___eq__) := ⟨rfl, rfl, rfl, by decide +kernel, rfl, by decide +kernel, by decide +kernel⟩
theorem ok_Web___eq__ (T : Tx K mg) {fd : FuncData} (F : FnP K "__eq__" "Web.__eq__" s_Web___eq__ (He.fAd K ("Web", some "__eq__")) fd) : FO P w K mg 1 ("Web", some "__eq__") ["self", "other"] (S_Web___eq__ K) := by
  refine ⟨⟨fd, F.kp, F.bindsN (fun _ _ _ _ _ _ us hl => match us, hl with | [_, _], _ => rfl), fun base => F.ok sc_Web___eq__ len_body (fun cdv A outer s H vs Q E hr h => ⟨t_Web___eq__ K E, ?_, r_Web___eq__ T vs H Q E h⟩)⟩⟩
  have tkD := L2N.takes_of (X := cxOf (CXZ P w) P w K mg base ["self", "other"] "Web.__eq__" (defScope s_Web___eq__) (He.fAd K ("Web", some "__eq__")) cdv A outer s H E) (E := E) rfl rfl rfl rfl
  exact (pss_one (ps_ret (pe_and (pe_callB call_isi (by rfl) T.f_isinstance (by decide +kernel) (pa_cons (pv 1) (pa_cons (pe_glob (by rfl) T.g_Web rfl) pa_nil))) (pe_and (pe_cmpR (op_eqD hr.units) (pe_fld (pv 0) rfl) (pe_fld (pv 1) rfl) (nomark _)) (pe_one (pe_cmpR (op_eqD hr.units) (pe_fld (pv 0) rfl) (pe_fld (pv 1) rfl) (nomark _)))))))
abbrev s_Walker___eq__ : Stmt := inClass (topS 22) 1
theorem sc_Walker___eq__ : FnScope ["self", "other"] ["self", "other"] (defScope s_Walker___eq__) := ⟨rfl, rfl, rfl, by decide +kernel, rfl, by decide +kernel, by decide +kernel⟩
theorem ok_Walker___eq__ (T : Tx K mg) {fd : FuncData} (F : FnP K "__eq__" "Walker.__eq__" s_Walker___eq__ (He.fAd K ("Walker", some "__eq__")) fd) (D_Web___eq__ : FO P w K mg 1 ("Web", some "__eq__") ["self", "other"] (S_Web___eq__ K)) : FO P w K mg 3 ("Walker", some "__eq__") ["self", "other"] (S_Walker___eq__ K) := by
  obtain ⟨fd_Web___eq__, k_Web___eq__, b_Web___eq__, G_Web___eq__⟩ := D_Web___eq__.ex
  refine ⟨⟨fd, F.kp, F.bindsN (fun _ _ _ _ _ _ us hl => match us, hl with | [_, _], _ => rfl), fun base => F.ok sc_Walker___eq__ len_body (fun cdv A outer s H vs Q E hr h => ⟨t_Walker___eq__ K E, ?_, r_Walker___eq__ T vs H Q E h⟩)⟩⟩
  have G_Web___eq__ := G_Web___eq__ base
  have tkD := L2N.takes_of (X := cxOf (CXZ P w) P w K mg base ["self", "other"] "Walker.__eq__" (defScope s_Walker___eq__) (He.fAd K ("Walker", some "__eq__")) cdv A outer s H E) (E := E) rfl rfl rfl rfl
  exact (pss_cons (ps_if (PW.pt (pw_or (pt_not (pt_val (pe_callB call_isi (by rfl) T.f_isinstance (by decide +kernel) (pa_cons (pv 1) (pa_cons (pe_glob (by rfl) T.g_Walker rfl) pa_nil))))) (pw_or1 (pt_cmpR (op_ownne G_Web___eq__ (hr.mono (by decide)) b_Web___eq__ (passD tkD) T.q_Web T.qf_Web T.ne_Web T.mo_Web) (pe_fld (pv 0) rfl) (pe_fld (pv 1) rfl) (nomark _))))) (pss_one (ps_ret pe_bl)) pss_nil)
    (pss_one (ps_ret (pe_and (pe_cmpR (op_eqD hr.units) (pe_fld (pv 0) rfl) (pe_fld (pv 1) rfl) (nomark _)) (pe_one (pe_cmpR (op_eqD hr.units) (pe_fld (pv 0) rfl) (pe_fld (pv 1) rfl) (nomark _)))))))
abbrev s_Walker_arrow_at : Stmt := inClass (topS 22) 6
theorem sc_Walker_arrow_at : FnScope ["self", "beat", "many"] ["self", "beat"] (defScope s_Walker_arrow_at) := ⟨rfl, rfl, rfl, by decide +kernel, rfl, by decide +kernel, by decide +kernel⟩
theorem ok_Walker_arrow_at (T : Tx K mg) {fd : FuncData} (F : FnP K "arrow_at" "Walker.arrow_at" s_Walker_arrow_at (He.fAd K ("Walker", some "arrow_at")) fd) : FO P w K mg 1 ("Walker", some "arrow_at") ["self", "beat"] (S_Walker_arrow_at K) := by
  refine ⟨⟨fd, F.kp, F.bindsN (fun _ _ _ _ _ _ us hl => match us, hl with | [_, _], _ => rfl), fun base => F.ok sc_Walker_arrow_at len_body (fun cdv A outer s H vs Q E hr h => ⟨t_Walker_arrow_at K E, ?_, r_Walker_arrow_at T vs H Q E h⟩)⟩⟩
  have tkD := L2N.takes_of (X := cxOf (CXZ P w) P w K mg base ["self", "beat", "many"] "Walker.arrow_at" (defScope s_Walker_arrow_at) (He.fAd K ("Walker", some "arrow_at")) cdv A outer s H E) (E := E) rfl rfl rfl rfl
  exact (pss_cons (ps_set (i := 2) sc_Walker_arrow_at.nd rfl (.inl rfl) (pe_callB call_len_seq (by rfl) T.f_len (by decide +kernel) (pa_cons (pe_fld (pv 0) rfl) pa_nil)))
    (pss_one (ps_ret (pe_ifExp (pt_cmpR op_lt (pv 1) (pv 2) (nomark _)) (pe_ix ix_seq (pe_fld (pv 0) rfl) (pv 1) (fun _ _ => rfl)) (pe_ix ix_seq (pe_fld (pv 0) rfl) (pe_op op_mod (pe_op op_sub (pv 1) (pv 2)) (pe_callB call_len_seq (by rfl) T.f_len (by decide +kernel) (pa_cons (pe_fld (pv 0) rfl) pa_nil))) (fun _ _ => rfl))))))
abbrev s_Walker_arrow : Stmt := inClass (topS 22) 7
theorem sc_Walker_arrow : FnScope ["self", "beat"] ["self", "beat"] (defScope s_Walker_arrow) := ⟨rfl, rfl, rfl, by decide +kernel, rfl, by decide +kernel, by decide +kernel⟩
theorem ok_Walker_arrow (T : Tx K mg) {fd : FuncData} (F : FnP K "arrow" "Walker.arrow" s_Walker_arrow (He.fAd K ("Walker", some "arrow")) fd) (D_Walker_arrow_at : FO P w K mg 1 ("Walker", some "arrow_at") ["self", "beat"] (S_Walker_arrow_at K)) : FO P w K mg 2 ("Walker", some "arrow") ["self", "beat"] (S_Walker_arrow K) := by
  obtain ⟨fd_Walker_arrow_at, k_Walker_arrow_at, b_Walker_arrow_at, G_Walker_arrow_at⟩ := D_Walker_arrow_at.ex
  refine ⟨⟨fd, F.kp, F.bindsN (fun _ _ _ _ _ _ us hl => match us, hl with | [_, _], _ => rfl), fun base => F.ok sc_Walker_arrow len_body (fun cdv A outer s H vs Q E hr h => ⟨t_Walker_arrow K E, ?_, r_Walker_arrow T vs H Q E h⟩)⟩⟩
  have G_Walker_arrow_at := G_Walker_arrow_at base
  have tkD := L2N.takes_of (X := cxOf (CXZ P w) P w K mg base ["self", "beat"] "Walker.arrow" (defScope s_Walker_arrow) (He.fAd K ("Walker", some "arrow")) cdv A outer s H E) (E := E) rfl rfl rfl rfl
  exact (pss_cons (ps_if (pt_cmpR op_lt (pv 1) pe_int (nomark _)) (pss_one ps_never) pss_nil)
    (pss_one (ps_ret (pe_meth (pv 0) T.k_Walker.k.c T.m_Walker_arrow_at G_Walker_arrow_at (hr.mono (by decide)) b_Walker_arrow_at .nil (passD tkD) (pa_cons (pv 1) pa_nil)))))
abbrev s_law : Stmt := topS 35
theorem sc_law : FnScope ["_law_script", "_law_bag_here", "_law_turn", "_law_w", "_law_one", "_law_other", "_law_room", "_law_tail", "_law_many", "_law_due", "_law_here", "_law_there", "_law_wide", "_law_arrow"] ["_law_script"] (defScope s_law) := ⟨rfl, rfl, rfl, by decide +kernel, rfl, by decide +kernel, by decide +kernel⟩
theorem ok_law (T : Tx K mg) {fd : FuncData} (F : FnP K "law" "law" s_law (He.fAd K ("law", none)) fd) (D__law_bag : FO P w K mg 1 ("_law_bag", none) ["_law_script"] (S__law_bag K)) (D__law_web : FO P w K mg 3 ("_law_web", none) ["_law_bag_here", "_law_rooms_most", "_law_more_most"] (S__law_web K)) (D__law_walk : FO P w K mg 3 ("_law_walk", none) ["_law_bag_here", "_law_w"] (S__law_walk K)) (D__law_pull : FO P w K mg 1 ("_law_pull", none) ["_law_bag_here", "_law_many"] (S__law_pull K)) (D__law_beats : FO P w K mg 1 ("_law_beats", none) ["_law_walk_here", "_law_many"] (S__law_beats K)) (D__law_outs : FO P w K mg 1 ("_law_outs", none) ["_law_w", "_law_room"] (S__law_outs K)) (D__law_walker : FO P w K mg 6 ("_law_walker", none) ["_law_w", "_law_walk_here"] (S__law_walker K)) (D_Walker___eq__ : FO P w K mg 3 ("Walker", some "__eq__") ["self", "other"] (S_Walker___eq__ K)) (D_Walker_arrow : FO P w K mg 2 ("Walker", some "arrow") ["self", "beat"] (S_Walker_arrow K)) : ∀ base, FnOk P w K mg base (CXZ P w) 7 (He.fAd K ("law", none)) fd ["_law_script"] (FP (S_law K)) := by
  intro base
  obtain ⟨fd__law_bag, k__law_bag, b__law_bag, G__law_bag⟩ := D__law_bag.ex
  obtain ⟨fd__law_web, k__law_web, b__law_web, G__law_web⟩ := D__law_web.ex
  obtain ⟨fd__law_walk, k__law_walk, b__law_walk, G__law_walk⟩ := D__law_walk.ex
  obtain ⟨fd__law_pull, k__law_pull, b__law_pull, G__law_pull⟩ := D__law_pull.ex
  obtain ⟨fd__law_beats, k__law_beats, b__law_beats, G__law_beats⟩ := D__law_beats.ex
  obtain ⟨fd__law_outs, k__law_outs, b__law_outs, G__law_outs⟩ := D__law_outs.ex
  obtain ⟨fd__law_walker, k__law_walker, b__law_walker, G__law_walker⟩ := D__law_walker.ex
  obtain ⟨fd_Walker___eq__, k_Walker___eq__, b_Walker___eq__, G_Walker___eq__⟩ := D_Walker___eq__.ex
  obtain ⟨fd_Walker_arrow, k_Walker_arrow, b_Walker_arrow, G_Walker_arrow⟩ := D_Walker_arrow.ex
  refine F.ok sc_law len_body (fun cdv A outer s H vs Q E hr h => ⟨t_law K E, ?_, r_law T vs H Q E h⟩)
  have G__law_bag := G__law_bag base
  have G__law_web := G__law_web base
  have G__law_walk := G__law_walk base
  have G__law_pull := G__law_pull base
  have G__law_beats := G__law_beats base
  have G__law_outs := G__law_outs base
  have G__law_walker := G__law_walker base
  have G_Walker___eq__ := G_Walker___eq__ base
  have G_Walker_arrow := G_Walker_arrow base
  have tkD := L2N.takes_of (X := cxOf (CXZ P w) P w K mg base ["_law_script", "_law_bag_here", "_law_turn", "_law_w", "_law_one", "_law_other", "_law_room", "_law_tail", "_law_many", "_law_due", "_law_here", "_law_there", "_law_wide", "_law_arrow"] "law" (defScope s_law) (He.fAd K ("law", none)) cdv A outer s H E) (E := E) rfl rfl rfl rfl
  exact (pss_cons (ps_set (i := 1) sc_law.nd rfl (.inl rfl) (pe_call G__law_bag (hr.mono (by decide)) rfl T.g__law_bag k__law_bag b__law_bag .nil (passD tkD) (pa_cons (pv 0) pa_nil)))
    (pss_cons (ps_for (L2.passes_of rfl) rfl (pi_range1 (by rfl) T.f_range (pa_cons pe_int pa_nil)) (pg_name (i := 2) sc_law.nd rfl (.inl rfl))
    (pss_cons (ps_set (i := 3) sc_law.nd rfl (.inr rfl) (pe_call G__law_web (hr.mono (by decide)) rfl T.g__law_web k__law_web b__law_web .nil (passD tkD) (pa_cons (pv 1) (pa_cons pe_int (pa_cons pe_int pa_nil)))))
    (pss_cons (ps_par (i := 4) (j := 5) (by rfl) sc_law.nd rfl rfl (by decide) rfl rfl (pa_cons (pe_call G__law_walk (hr.mono (by decide)) rfl T.g__law_walk k__law_walk b__law_walk .nil (passD tkD) (pa_cons (pv 1) (pa_cons (pv 3) pa_nil))) (pa_cons (pe_call G__law_walk (hr.mono (by decide)) rfl T.g__law_walk k__law_walk b__law_walk .nil (passD tkD) (pa_cons (pv 1) (pa_cons (pv 3) pa_nil))) pa_nil)) (by rfl))
    (pss_cons (ps_if (pt_cmpR (op_eqD hr.units) (pe_call G__law_pull (hr.mono (by decide)) rfl T.g__law_pull k__law_pull b__law_pull .nil (passD tkD) (pa_cons (pv 1) (pa_cons pe_int pa_nil))) pe_int (nomark _)) (pss_one (ps_set (i := 5) sc_law.nd rfl (.inl rfl) (pe_tup (pa_cons (pe_call G__law_beats (hr.mono (by decide)) rfl T.g__law_beats k__law_beats b__law_beats .nil (passD tkD) (pa_cons (pv 4) (pa_cons (pe_op op_add (pe_callB call_len_seq (by rfl) T.f_len (by decide +kernel) (pa_cons (pe_ix ix_seq (pv 4) pe_int (fun _ _ => rfl)) pa_nil)) (pe_callB call_len_seq (by rfl) T.f_len (by decide +kernel) (pa_cons (pe_ix ix_seq (pv 4) pe_int (fun _ _ => rfl)) pa_nil))) pa_nil))) (pa_cons (pe_op op_rep (pe_callTy call_list_of (by rfl) T.f_list (by decide +kernel) (pa_cons (pe_ix ix_seq (pv 4) pe_int (fun _ _ => rfl)) pa_nil)) pe_int) pa_nil))))) (pss_one (ps_if (pt_cmpR (op_eqD hr.units) (pe_call G__law_pull (hr.mono (by decide)) rfl T.g__law_pull k__law_pull b__law_pull .nil (passD tkD) (pa_cons (pv 1) (pa_cons pe_int pa_nil))) pe_int (nomark _)) (pss_cons (ps_set (i := 6) sc_law.nd rfl (.inr rfl) (pe_ix ix_seq (pe_ix ix_seq (pe_ix ix_seq (pv 3) pe_int (fun _ _ => rfl)) (pe_ix ix_seq (pe_ix ix_seq (pv 4) pe_int (fun _ _ => rfl)) (pe_un un_neg pe_int) (fun _ _ => rfl)) (fun _ _ => rfl)) pe_int (fun _ _ => rfl)))
    (pss_cons (ps_set (i := 7) sc_law.nd rfl (.inl rfl) (pe_op op_cat (pe_lc (own := [("_law_arrow", 13)]) (g := (gName 13)) (tt := (tTest (tOp (rEqD K) (tOp (rIx K) (tOp (rIx K) (tOp (rIx K) (tVar 3) (tC (.int 1))) (tVar 13)) (tC (.int 1))) (tVar 6)))) (by rfl) sc_law.nd (pi_seq (pe_call G__law_outs (hr.mono (by decide)) rfl T.g__law_outs k__law_outs b__law_outs .nil (passD tkD) (pa_cons (pv 3) (pa_cons (pv 6) pa_nil)))) (blkOk_by (by kernel_rfl)) (fun _ _ _ _ _ => (pg_name (i := 13) sc_law.nd rfl (.inl rfl))) (fun _ _ _ _ _ => (pts_one (pt_cmpR (op_eqD hr.units) (pe_ix ix_seq (pe_ix ix_seq (pe_ix ix_seq (pv 3) pe_int (fun _ _ => rfl)) (pv 13) (fun _ _ => rfl)) pe_int (fun _ _ => rfl)) (pv 6) (nomark _)))) (fun _ _ _ _ _ => (pv 13))) (pe_slice sl_list (pe_ix ix_seq (pv 4) pe_int (fun _ _ => rfl)) po_none (po_some pe_int))))
    (pss_cons (ps_set (i := 5) sc_law.nd rfl (.inl rfl) (pe_tup (pa_cons (pe_op op_cat (pe_call G__law_beats (hr.mono (by decide)) rfl T.g__law_beats k__law_beats b__law_beats .nil (passD tkD) (pa_cons (pv 4) (pa_cons (pe_op op_add (pe_callB call_len_seq (by rfl) T.f_len (by decide +kernel) (pa_cons (pe_ix ix_seq (pv 4) pe_int (fun _ _ => rfl)) pa_nil)) (pe_op op_mul pe_int (pe_callB call_len_seq (by rfl) T.f_len (by decide +kernel) (pa_cons (pe_ix ix_seq (pv 4) pe_int (fun _ _ => rfl)) pa_nil)))) pa_nil))) (pe_slice sl_list (pv 7) po_none (po_some pe_int))) (pa_cons (pe_lst pa_nil) pa_nil))))
    (pss_one (ps_set (i := 5) sc_law.nd rfl (.inl rfl) (pe_ifExp (pt_cmpR (op_eqD hr.units) (pe_ix ix_seq (pe_ix ix_seq (pe_ix ix_seq (pv 3) pe_int (fun _ _ => rfl)) (pe_ix ix_seq (pv 7) pe_int (fun _ _ => rfl)) (fun _ _ => rfl)) pe_int (fun _ _ => rfl)) (pv 6) (nomark _)) (pe_tup (pa_cons (pe_ix ix_seq (pv 5) pe_int (fun _ _ => rfl)) (pa_cons (pe_slice sl_list (pv 7) po_none (po_some pe_int)) pa_nil))) (pv 4))))))) pss_nil)))
    (pss_cons (ps_set (i := 8) sc_law.nd rfl (.inl rfl) (pe_op op_add (pe_op op_add (pe_op op_add (pe_callB call_len_seq (by rfl) T.f_len (by decide +kernel) (pa_cons (pe_ix ix_seq (pv 4) pe_int (fun _ _ => rfl)) pa_nil)) (pe_callB call_len_seq (by rfl) T.f_len (by decide +kernel) (pa_cons (pe_ix ix_seq (pv 5) pe_int (fun _ _ => rfl)) pa_nil))) (pe_callB call_len_seq (by rfl) T.f_len (by decide +kernel) (pa_cons (pe_ix ix_seq (pv 4) pe_int (fun _ _ => rfl)) pa_nil))) (pe_callB call_len_seq (by rfl) T.f_len (by decide +kernel) (pa_cons (pe_ix ix_seq (pv 5) pe_int (fun _ _ => rfl)) pa_nil))))
    (pss_cons (ps_set (i := 9) sc_law.nd rfl (.inl rfl) (pe_cmpR (op_eqD hr.units) (pe_call G__law_beats (hr.mono (by decide)) rfl T.g__law_beats k__law_beats b__law_beats .nil (passD tkD) (pa_cons (pv 4) (pa_cons (pv 8) pa_nil))) (pe_call G__law_beats (hr.mono (by decide)) rfl T.g__law_beats k__law_beats b__law_beats .nil (passD tkD) (pa_cons (pv 5) (pa_cons (pv 8) pa_nil))) (nomark _)))
    (pss_cons (ps_par (i := 10) (j := 11) (by rfl) sc_law.nd rfl rfl (by decide) rfl rfl (pa_cons (pe_call G__law_walker (hr.mono (by decide)) rfl T.g__law_walker k__law_walker b__law_walker .nil (passD tkD) (pa_cons (pv 3) (pa_cons (pv 4) pa_nil))) (pa_cons (pe_call G__law_walker (hr.mono (by decide)) rfl T.g__law_walker k__law_walker b__law_walker .nil (passD tkD) (pa_cons (pv 3) (pa_cons (pv 5) pa_nil))) pa_nil)) (by rfl))
    (pss_cons (ps_if (PW.pt (pw_or (pt_cmpR (op_neD hr.units) (pe_cmpR (op_owneq G_Walker___eq__ (hr.mono (by decide)) b_Walker___eq__ (passD tkD) T.q_Walker T.qf_Walker) (pv 10) (pv 11) (nomark _)) (pv 9) (nomark _)) (pw_or (pt_cmpR (op_neD hr.units) (pe_cmpR (op_owneq G_Walker___eq__ (hr.mono (by decide)) b_Walker___eq__ (passD tkD) T.q_Walker T.qf_Walker) (pv 11) (pv 10) (nomark _)) (pv 9) (nomark _)) (pw_or1 (pt_cmpR (op_eqD hr.units) (pe_cmpR (op_ownne G_Walker___eq__ (hr.mono (by decide)) b_Walker___eq__ (passD tkD) T.q_Walker T.qf_Walker T.ne_Walker T.mo_Walker) (pv 10) (pv 11) (nomark _)) (pv 9) (nomark _)))))) (pss_one (ps_ret pe_bl)) pss_nil)
    (pss_cons (ps_set (i := 12) sc_law.nd rfl (.inl rfl) (pe_tup (pa_cons (pe_ix ix_seq (pv 3) pe_int (fun _ _ => rfl)) (pa_cons (pe_op op_catA (pe_ix ix_seq (pv 3) pe_int (fun _ _ => rfl)) (pe_tup (pa_cons (pe_tup (pa_cons pe_int (pa_cons pe_int pa_nil))) pa_nil))) pa_nil))))
    (pss_cons (ps_if (PW.pt (pw_or (pt_cmpR (op_owneq G_Walker___eq__ (hr.mono (by decide)) b_Walker___eq__ (passD tkD) T.q_Walker T.qf_Walker) (pv 10) (pe_call G__law_walker (hr.mono (by decide)) rfl T.g__law_walker k__law_walker b__law_walker .nil (passD tkD) (pa_cons (pv 12) (pa_cons (pv 4) pa_nil))) (nomark _)) (pw_or1 (pt_cmpR (op_ownne G_Walker___eq__ (hr.mono (by decide)) b_Walker___eq__ (passD tkD) T.q_Walker T.qf_Walker T.ne_Walker T.mo_Walker) (pv 10) (pe_call G__law_walker (hr.mono (by decide)) rfl T.g__law_walker k__law_walker b__law_walker .nil (passD tkD) (pa_cons (pv 3) (pa_cons (pv 4) pa_nil))) (nomark _))))) (pss_one (ps_ret pe_bl)) pss_nil)
    (pss_one (ps_if (PW.pt (pw_and (pt_val (pv 9)) (pw_and1 (pt_cmpR (op_neD hr.units) (pe_meth (pv 10) T.k_Walker.k.c T.m_Walker_arrow G_Walker_arrow (hr.mono (by decide)) b_Walker_arrow .nil (passD tkD) (pa_cons (pe_op op_pow pe_int pe_int) pa_nil)) (pe_meth (pv 11) T.k_Walker.k.c T.m_Walker_arrow G_Walker_arrow (hr.mono (by decide)) b_Walker_arrow .nil (passD tkD) (pa_cons (pe_op op_pow pe_int pe_int) pa_nil)) (nomark _))))) (pss_one (ps_ret pe_bl)) pss_nil))))))))))))
    (pss_one (ps_ret pe_bl))))
end
end Y
namespace Y
open PySem PySem.Spec PyProof.Rows L2 Z
/-! ### the head with facts of one's own -/
def kcB (K : PySem.W.Frag) (C : Addr) : Bool :=
  He.eqO (PySem.W.findIn K (.ref C) "__class__") (some (some (.builtin "object.__class__"))) && (He.eqO (PySem.W.specialIn K (.builtin "object.__class__") "__get__") (some (some (.builtin "getset_descriptor.__get__"))) &&
  (decide (PySem.W.takesIn K (.builtin "object.__class__") = some true) && (decide (PySem.W.mroIn K C (.type "object") = some true) && (decide (PySem.W.kitOne K (.type "tuple") (.ref C) = some false) &&
  (decide (PySem.W.subIn K (.type "tuple") (.ref C) = some false) && He.eqO (PySem.W.findIn K (.ref C) "__ne__") (some (some (.builtin "object.__ne__"))))))))
section
variable {K : PySem.W.Frag} {C : Addr}
theorem kc_ok (h : kcB K C = true) (hc : Cls K C) : KCls K C := by
  unfold kcB at h
  simp only [Bool.and_eq_true] at h
  obtain ⟨h1, h2, h3, h4, h5, h6, h7⟩ := h
  exact ⟨hc, He.eqO_ok h1, He.eqO_ok h2, of_decide_eq_true h3, of_decide_eq_true h4, of_decide_eq_true h5, of_decide_eq_true h6⟩
theorem ne_ok (h : kcB K C = true) : PySem.W.findIn K (.ref C) "__ne__" = some (some (.builtin "object.__ne__")) := by
  unfold kcB at h
  simp only [Bool.and_eq_true] at h
  exact He.eqO_ok h.2.2.2.2.2.2
theorem mo_ok (h : kcB K C = true) : PySem.W.mroIn K C (.type "object") = some true := by
  unfold kcB at h
  simp only [Bool.and_eq_true] at h
  exact of_decide_eq_true h.2.2.2.1
end
abbrev AlZ : Type := He.AlD × Bool
def obsK (fa : List He.Fa) (fn : List He.DefD) (ex : PySem.W.Frag → Bool) (K : PySem.W.Frag) : AlZ := (He.obsD fa fn K, ex K)
def obsZ (n : Nat) (fa : List He.Fa) (fn : List He.DefD) (ex : PySem.W.Frag → Bool) (g : Addr → Option Obj) : AlZ := obsK fa fn ex (He.frG g (He.asD g n))
def hookZ (n : Nat) (fa : List He.Fa) (fn : List He.DefD) (ex : PySem.W.Frag → Bool) : PySem.W.Hook where
  α := AlZ
  obs := fun s => obsZ n fa fn ex s.heap.get?
  val := fun _ => (He.valD fn, true)
  says := fun _ h => ∃ K : PySem.W.Frag, K.In h ∧ He.SaysD fa fn K ∧ ex K = true
  of := fun _ _ e => ⟨_, He.frG_in, congrArg (fun z : AlZ => z.1) e, congrArg (fun z : AlZ => z.2) e⟩
  keeps := fun _ _ _ ⟨K, hK, c⟩ k => ⟨K, PySem.W.Frag.In.keeps hK k, c⟩
theorem obsZ_eq {n : Nat} {fa : List He.Fa} {fn : List He.DefD} {ex : PySem.W.Frag → Bool} {g : Addr → Option Obj} {s : Shared} (h : ∀ a, g a = s.heap.get? a) : obsZ n fa fn ex g = (hookZ n fa fn ex).obs s := by
  rw [show g = s.heap.get? from funext h]
  rfl
/-- the end, the context of exceptions by the world -/
theorem walk_ofZ {l : PySem.W.OpenLaw} {n k : Nat} {q : Program} {loose : List Str} {XP : (Str → Option Value) → Heap → Prop} {YP : World → Heap → Prop} {d : DefRec} {CX : World → CXT} {x : Str} (hn : l.most = some n) (h2 : n ≤ sizeLine) (hd : d.params.defaults = []) (hr : Room k callerA)
    (F : ∀ (w : World) (mg : Str → Option Value) (fa : Addr) (h : Heap), YP w h → h.Ns mainGlobals mg → mg d.name = some (.ref fa) → ∃ (K : PySem.W.Frag) (fd : FuncData) (sp : Sp), K.In h ∧ (∀ (s : Shared) (u : Value), BindsTo s fd ⟨[u], []⟩ [(x, u)]) ∧ (∀ (H : Hp) (a : Addr) (ns : List Int), ns.length ≤ n → Only H → SqL K H a (ns.map V.int) → sp [.ref a] H (fun v _ => v = .bl true) fun _ _ _ => False) ∧ ∀ base : Heap, K.In base → base.Ns mainGlobals mg → FnOk l.prog w K mg base (CX w) k fa fd [x] sp)
    (hC : ∀ (w : World) (H : Hp) (s : Shared) (e : Value) (s' : Shared), CX w [] H s (fun _ _ _ => False) e s' → False) : PySem.W.WalkO q loose XP YP l.row.toRowW d [] (fun f vs => PySem.call f vs) := by
  refine Att.attach_call hn hd fun w s0 s1 mg mb fa o pm cd doc a vs ns G Y ho hdo hcd hmg hob hin hle hg => ?_
  obtain ⟨K, fd, sp, q1, q2, q3, q4⟩ := F w mg fa _ Y G.T.g hmg
  exact law_call q1 G.T.g G.T.b G.T.builtins G.T.nolimit hg hob hin (Nat.le_trans hle h2) hr q4 q2 (fun H a1 a2 => q3 H a ns hle a1 a2) fun H e s' => hC w H s1 e s'
theorem noCX {P : Program} {w : World} {H : Hp} {s : Shared} {e : Value} {s' : Shared} (h : CXZ P w [] H s (fun _ _ _ => False) e s') : False := by
  obtain ⟨_, _, _, _, _, _, _, _, _, _, _, _, z⟩ := h
  exact z
theorem at_law {P : Program} {w : World} {K : PySem.W.Frag} {mg : Str → Option Value} {h : Heap} {fa : Addr} {k : Nat} {x : Str} {S : Sem} {T : Prop} {Y : FuncData → Prop} (KX : K.In h) (t : T) (g : mg "law" = some (.ref (He.ga K "law"))) (hmg : mg "law" = some (.ref fa)) (hd : ∃ fd, Y fd ∧ ∀ base, FnOk P w K mg base (CXZ P w) k (He.fAd K ("law", none)) fd [x] (FP ⟨K, S⟩)) (hb : ∀ {fd}, Y fd → ∀ (s : Shared) (u : Value), BindsTo s fd ⟨[u], []⟩ [(x, u)])
    (pl : ∀ ns : List Int, ns.length ≤ 63 → ∃ μ, S [.dat (.scr ns)] [] = .v (.dat (.bl true)) μ) :
    ∃ (K : PySem.W.Frag) (fd : FuncData) (sp : Sp), K.In h ∧ (∀ (s : Shared) (u : Value), BindsTo s fd ⟨[u], []⟩ [(x, u)]) ∧ (∀ (H : Hp) (a : Addr) (ns : List Int), ns.length ≤ 63 → Only H → SqL K H a (ns.map V.int) → sp [.ref a] H (fun v _ => v = .bl true) fun _ _ _ => False) ∧ ∀ base : Heap, K.In base → base.Ns mainGlobals mg → FnOk P w K mg base (CXZ P w) k fa fd [x] sp := by
  obtain ⟨fd, hy, hF⟩ := hd
  have e : fa = He.ga K "law" := by
    have z := hmg.symm.trans g
    cases z
    rfl
  subst e
  refine ⟨K, fd, FP ⟨K, S⟩, KX, hb hy, fun H a ns hl ho hs => ?_, fun base _ _ => hF base⟩
  obtain ⟨μ, e⟩ := pl ns hl
  refine ⟨H, fun _ => a, [.dat (.scr ns)], [], ?_, ?_⟩
  · exact {
      ex := Same.refl H
      tu := fun _ _ _ z => z
      fr := FrY.refl
      len := rfl
      sl := fun i t z => by
        cases i with
        | zero =>
          cases z
          exact ⟨_, rfl, a, rfl, hs⟩
        | succ i => cases i <;> cases z
      ce := fun i cl z => by cases z
      sp := fun i z => absurd z (Nat.not_lt_zero i)
      inj := fun i j z => absurd z (Nat.not_lt_zero i)
      low := Nat.le_refl _
      tb := fun _ z => nomatch z
      tg := fun _ z => nomatch z }
  · show AccP _ _ (S [.dat (.scr ns)] [])
    rw [e]
    exact fun v m' G' H' B r => r
def d__law_bag : He.DefD := ⟨("_law_bag", none), "_law_bag", "_law_bag", defArgs s__law_bag, defBody s__law_bag, defScope s__law_bag, [], []⟩
def d__law_pull : He.DefD := ⟨("_law_pull", none), "_law_pull", "_law_pull", defArgs s__law_pull, defBody s__law_pull, defScope s__law_pull, [], []⟩
def d__law_mixed : He.DefD := ⟨("_law_mixed", none), "_law_mixed", "_law_mixed", defArgs s__law_mixed, defBody s__law_mixed, defScope s__law_mixed, [], []⟩
def d__law_web : He.DefD := ⟨("_law_web", none), "_law_web", "_law_web", defArgs s__law_web, defBody s__law_web, defScope s__law_web, [], []⟩
def d__law_of : He.DefD := ⟨("_law_of", none), "_law_of", "_law_of", defArgs s__law_of, defBody s__law_of, defScope s__law_of, [], []⟩
def d__law_outs : He.DefD := ⟨("_law_outs", none), "_law_outs", "_law_outs", defArgs s__law_outs, defBody s__law_outs, defScope s__law_outs, [], []⟩
def d__law_on : He.DefD := ⟨("_law_on", none), "_law_on", "_law_on", defArgs s__law_on, defBody s__law_on, defScope s__law_on, [], []⟩
def d__law_walk : He.DefD := ⟨("_law_walk", none), "_law_walk", "_law_walk", defArgs s__law_walk, defBody s__law_walk, defScope s__law_walk, [], []⟩
def d__law_beats : He.DefD := ⟨("_law_beats", none), "_law_beats", "_law_beats", defArgs s__law_beats, defBody s__law_beats, defScope s__law_beats, [], []⟩
def d_is_within : He.DefD := ⟨("is_within", none), "is_within", "is_within", defArgs s_is_within, defBody s_is_within, defScope s_is_within, [], []⟩
def d_Web_has_arrow : He.DefD := ⟨("Web", some "has_arrow"), "has_arrow", "Web.has_arrow", defArgs s_Web_has_arrow, defBody s_Web_has_arrow, defScope s_Web_has_arrow, [], []⟩
def d_Web_first_wrong : He.DefD := ⟨("Web", some "first_wrong"), "first_wrong", "Web.first_wrong", defArgs s_Web_first_wrong, defBody s_Web_first_wrong, defScope s_Web_first_wrong, [], []⟩
def d_Web_end : He.DefD := ⟨("Web", some "end"), "end", "Web.end", defArgs s_Web_end, defBody s_Web_end, defScope s_Web_end, [], []⟩
def d_Web_begin : He.DefD := ⟨("Web", some "begin"), "begin", "Web.begin", defArgs s_Web_begin, defBody s_Web_begin, defScope s_Web_begin, [], []⟩
def d_shortest_ring : He.DefD := ⟨("shortest_ring", none), "shortest_ring", "shortest_ring", defArgs s_shortest_ring, defBody s_shortest_ring, defScope s_shortest_ring, [], []⟩
def d_drawn_in : He.DefD := ⟨("drawn_in", none), "drawn_in", "drawn_in", defArgs s_drawn_in, defBody s_drawn_in, defScope s_drawn_in, [], []⟩
def d_Walker___init__ : He.DefD := ⟨("Walker", some "__init__"), "__init__", "Walker.__init__", defArgs s_Walker___init__, defBody s_Walker___init__, defScope s_Walker___init__, [], []⟩
def d_is_listed : He.DefD := ⟨("is_listed", none), "is_listed", "is_listed", defArgs s_is_listed, defBody s_is_listed, defScope s_is_listed, [], []⟩
def d_is_pair : He.DefD := ⟨("is_pair", none), "is_pair", "is_pair", defArgs s_is_pair, defBody s_is_pair, defScope s_is_pair, [], []⟩
def d_Web___init__ : He.DefD := ⟨("Web", some "__init__"), "__init__", "Web.__init__", defArgs s_Web___init__, defBody s_Web___init__, defScope s_Web___init__, [], []⟩
def d__law_made : He.DefD := ⟨("_law_made", none), "_law_made", "_law_made", defArgs s__law_made, defBody s__law_made, defScope s__law_made, [], []⟩
def d__law_walker : He.DefD := ⟨("_law_walker", none), "_law_walker", "_law_walker", defArgs s__law_walker, defBody s__law_walker, defScope s__law_walker, [], []⟩
def d_Web___eq__ : He.DefD := ⟨("Web", some "__eq__"), "__eq__", "Web.__eq__", defArgs s_Web___eq__, defBody s_Web___eq__, defScope s_Web___eq__, [], []⟩
def d_Walker___eq__ : He.DefD := ⟨("Walker", some "__eq__"), "__eq__", "Walker.__eq__", defArgs s_Walker___eq__, defBody s_Walker___eq__, defScope s_Walker___eq__, [], []⟩
def d_Walker_arrow_at : He.DefD := ⟨("Walker", some "arrow_at"), "arrow_at", "Walker.arrow_at", defArgs s_Walker_arrow_at, defBody s_Walker_arrow_at, defScope s_Walker_arrow_at, [], []⟩
def d_Walker_arrow : He.DefD := ⟨("Walker", some "arrow"), "arrow", "Walker.arrow", defArgs s_Walker_arrow, defBody s_Walker_arrow, defScope s_Walker_arrow, [], []⟩
def d_law : He.DefD := ⟨("law", none), "law", "law", defArgs s_law, defBody s_law, defScope s_law, [], []⟩
def fn : List He.DefD := [d__law_bag, d__law_pull, d__law_mixed, d__law_web, d__law_of, d__law_outs, d__law_on, d__law_walk, d__law_beats, d_is_within, d_Web_has_arrow, d_Web_first_wrong, d_Web_end, d_Web_begin, d_shortest_ring, d_drawn_in, d_Walker___init__, d_is_listed, d_is_pair, d_Web___init__, d__law_made, d__law_walker, d_Web___eq__, d_Walker___eq__, d_Walker_arrow_at, d_Walker_arrow, d_law]
def fa : List He.Fa := [.cls "Walker", .cls "Web", .free "all", .free "bool", .free "enumerate", .free "int", .free "isinstance", .free "len", .free "list", .free "range", .free "tuple", .glo "Walker", .glo "Web", .glo "_law_bag", .glo "_law_beats", .glo "_law_made", .glo "_law_mixed", .glo "_law_of", .glo "_law_on", .glo "_law_outs", .glo "_law_pull", .glo "_law_walk", .glo "_law_walker", .glo "_law_web", .glo "drawn_in", .glo "is_listed", .glo "is_pair", .glo "is_within", .glo "shortest_ring", .int "MOST_ARROWS" 400, .int "MOST_ROOMS" 100, .noat "Walker" "front", .noat "Walker" "home", .noat "Walker" "round", .noat "Web" "coming", .noat "Web" "leaving", .noat "Web" "pairs", .noat "Web" "size", .meth "Walker" "arrow", .meth "Walker" "arrow_at", .meth "Web" "begin", .meth "Web" "end", .meth "Web" "first_wrong", .meth "Web" "has_arrow", .mkr "Walker", .mkr "Web", .meth "Walker" "__eq__", .meth "Web" "__eq__", .glo "law"]
def ex (K : PySem.W.Frag) : Bool := kcB K (He.ga K "Walker") && kcB K (He.ga K "Web")
abbrev RwL : PySem.W.OpenRow := PySem.W.OpenLaw.row PySem.Challenge.rw_aheadfold_k09_whole_walkers_are_equal_wh
def loose : List Str := (["_wall", "FoldError", "BadWeb", "BadArrow", "BadWalk", "BadBeat", "BadWindow", "TooMany", "MOST_ROOMS", "MOST_ARROWS", "MOST_ROWS", "MOST_WINDOW", "MOST_LENGTH", "is_within", "is_listed", "is_pair", "Web", "shortest_ring", "drawn_in", "Walker", "_law_bag", "_law_pull", "_law_of", "_law_mixed", "_law_web", "_law_made", "_law_outs", "_law_on", "_law_beats", "_law_walk", "_law_walker"] : List Str)
abbrev hk : PySem.W.Hook := hookZ 5 fa fn ex
def ob (s : PySem.W.SharedT) : AlZ := obsZ 5 fa fn ex (HandSHeadRun.getT s)
theorem ob_eq (s : PySem.W.SharedT) : ob s = hk.obs s.abs := obsZ_eq (HandSHeadRun.getT_eq s)
theorem run (w : World) : HandSHeadRun.RunEq RwL (PySem.W.view RwL.prog [35]) hk ob 12000 loose w := by
  intro os
  kernel_rfl
theorem tx {K : PySem.W.Frag} {h : Heap} {mg : Str → Option Value} (X : K.In h) (G : h.Ns mainGlobals mg) (c : He.SaysD fa fn K) (e : ex K = true) : Tx K mg := by
  simp only [ex, Bool.and_eq_true] at e
  obtain ⟨ek_Walker, ek_Web⟩ := e
  exact {
    c_Walker := He.cls_ok (c.fact 0 (f := .cls "Walker") rfl)
    c_Web := He.cls_ok (c.fact 1 (f := .cls "Web") rfl)
    f_all := He.free_ok X G (c.fact 2 (f := .free "all") rfl)
    f_bool := He.free_ok X G (c.fact 3 (f := .free "bool") rfl)
    f_enumerate := He.free_ok X G (c.fact 4 (f := .free "enumerate") rfl)
    f_int := He.free_ok X G (c.fact 5 (f := .free "int") rfl)
    f_isinstance := He.free_ok X G (c.fact 6 (f := .free "isinstance") rfl)
    f_len := He.free_ok X G (c.fact 7 (f := .free "len") rfl)
    f_list := He.free_ok X G (c.fact 8 (f := .free "list") rfl)
    f_range := He.free_ok X G (c.fact 9 (f := .free "range") rfl)
    f_tuple := He.free_ok X G (c.fact 10 (f := .free "tuple") rfl)
    g_Walker := He.glo_ok X G (c.fact 11 (f := .glo "Walker") rfl)
    g_Web := He.glo_ok X G (c.fact 12 (f := .glo "Web") rfl)
    g__law_bag := He.glo_ok X G (c.fact 13 (f := .glo "_law_bag") rfl)
    g__law_beats := He.glo_ok X G (c.fact 14 (f := .glo "_law_beats") rfl)
    g__law_made := He.glo_ok X G (c.fact 15 (f := .glo "_law_made") rfl)
    g__law_mixed := He.glo_ok X G (c.fact 16 (f := .glo "_law_mixed") rfl)
    g__law_of := He.glo_ok X G (c.fact 17 (f := .glo "_law_of") rfl)
    g__law_on := He.glo_ok X G (c.fact 18 (f := .glo "_law_on") rfl)
    g__law_outs := He.glo_ok X G (c.fact 19 (f := .glo "_law_outs") rfl)
    g__law_pull := He.glo_ok X G (c.fact 20 (f := .glo "_law_pull") rfl)
    g__law_walk := He.glo_ok X G (c.fact 21 (f := .glo "_law_walk") rfl)
    g__law_walker := He.glo_ok X G (c.fact 22 (f := .glo "_law_walker") rfl)
    g__law_web := He.glo_ok X G (c.fact 23 (f := .glo "_law_web") rfl)
    g_drawn_in := He.glo_ok X G (c.fact 24 (f := .glo "drawn_in") rfl)
    g_is_listed := He.glo_ok X G (c.fact 25 (f := .glo "is_listed") rfl)
    g_is_pair := He.glo_ok X G (c.fact 26 (f := .glo "is_pair") rfl)
    g_is_within := He.glo_ok X G (c.fact 27 (f := .glo "is_within") rfl)
    g_shortest_ring := He.glo_ok X G (c.fact 28 (f := .glo "shortest_ring") rfl)
    i_MOST_ARROWS := He.int_ok X G (c.fact 29 (f := .int "MOST_ARROWS" 400) rfl)
    i_MOST_ROOMS := He.int_ok X G (c.fact 30 (f := .int "MOST_ROOMS" 100) rfl)
    k_Walker := { k := kc_ok ek_Walker (He.cls_ok (c.fact 0 (f := .cls "Walker") rfl)), front := He.noat_ok (c.fact 31 (f := .noat "Walker" "front") rfl), home := He.noat_ok (c.fact 32 (f := .noat "Walker" "home") rfl), round := He.noat_ok (c.fact 33 (f := .noat "Walker" "round") rfl) }
    k_Web := { k := kc_ok ek_Web (He.cls_ok (c.fact 1 (f := .cls "Web") rfl)), coming := He.noat_ok (c.fact 34 (f := .noat "Web" "coming") rfl), leaving := He.noat_ok (c.fact 35 (f := .noat "Web" "leaving") rfl), pairs := He.noat_ok (c.fact 36 (f := .noat "Web" "pairs") rfl), size := He.noat_ok (c.fact 37 (f := .noat "Web" "size") rfl) }
    m_Walker_arrow := He.meth_ok (c.fact 38 (f := .meth "Walker" "arrow") rfl)
    m_Walker_arrow_at := He.meth_ok (c.fact 39 (f := .meth "Walker" "arrow_at") rfl)
    m_Web_begin := He.meth_ok (c.fact 40 (f := .meth "Web" "begin") rfl)
    m_Web_end := He.meth_ok (c.fact 41 (f := .meth "Web" "end") rfl)
    m_Web_first_wrong := He.meth_ok (c.fact 42 (f := .meth "Web" "first_wrong") rfl)
    m_Web_has_arrow := He.meth_ok (c.fact 43 (f := .meth "Web" "has_arrow") rfl)
    mk_Walker := He.mkr_ok (c.fact 44 (f := .mkr "Walker") rfl)
    mk_Web := He.mkr_ok (c.fact 45 (f := .mkr "Web") rfl)
    mo_Walker := mo_ok ek_Walker
    mo_Web := mo_ok ek_Web
    ne_Walker := ne_ok ek_Walker
    ne_Web := ne_ok ek_Web
    q_Walker := (He.meth_ok (c.fact 46 (f := .meth "Walker" "__eq__") rfl)).at_
    q_Web := (He.meth_ok (c.fact 47 (f := .meth "Web" "__eq__") rfl)).at_
    qf_Walker := (He.meth_ok (c.fact 46 (f := .meth "Walker" "__eq__") rfl)).fn
    qf_Web := (He.meth_ok (c.fact 47 (f := .meth "Web" "__eq__") rfl)).fn }
theorem defs {P : Program} {w : World} {K : PySem.W.Frag} {mg : Str → Option Value} (T : Tx K mg) (c : He.SaysD fa fn K) : ∃ fd, FnP K "law" "law" s_law (He.fAd K ("law", none)) fd ∧ ∀ base, FnOk P w K mg base (CXZ P w) 7 (He.fAd K ("law", none)) fd ["_law_script"] (FP (S_law K)) := by
  obtain ⟨fd__law_bag, F__law_bag⟩ := c.def_ 0 (d := d__law_bag) rfl
  have D__law_bag : FO P w K mg 1 ("_law_bag", none) ["_law_script"] (S__law_bag K) := ok__law_bag T F__law_bag
  obtain ⟨fd__law_pull, F__law_pull⟩ := c.def_ 1 (d := d__law_pull) rfl
  have D__law_pull : FO P w K mg 1 ("_law_pull", none) ["_law_bag_here", "_law_many"] (S__law_pull K) := ok__law_pull T F__law_pull
  obtain ⟨fd__law_mixed, F__law_mixed⟩ := c.def_ 2 (d := d__law_mixed) rfl
  have D__law_mixed : FO P w K mg 2 ("_law_mixed", none) ["_law_bag_here", "_law_some"] (S__law_mixed K) := ok__law_mixed T F__law_mixed D__law_pull
  obtain ⟨fd__law_web, F__law_web⟩ := c.def_ 3 (d := d__law_web) rfl
  have D__law_web : FO P w K mg 3 ("_law_web", none) ["_law_bag_here", "_law_rooms_most", "_law_more_most"] (S__law_web K) := ok__law_web T F__law_web D__law_pull D__law_mixed
  obtain ⟨fd__law_of, F__law_of⟩ := c.def_ 4 (d := d__law_of) rfl
  have D__law_of : FO P w K mg 2 ("_law_of", none) ["_law_bag_here", "_law_some"] (S__law_of K) := ok__law_of T F__law_of D__law_pull
  obtain ⟨fd__law_outs, F__law_outs⟩ := c.def_ 5 (d := d__law_outs) rfl
  have D__law_outs : FO P w K mg 1 ("_law_outs", none) ["_law_w", "_law_room"] (S__law_outs K) := ok__law_outs T F__law_outs
  obtain ⟨fd__law_on, F__law_on⟩ := c.def_ 6 (d := d__law_on) rfl
  have D__law_on : FO P w K mg 2 ("_law_on", none) ["_law_w", "_law_arrow"] (S__law_on K) := ok__law_on T F__law_on D__law_outs
  obtain ⟨fd__law_walk, F__law_walk⟩ := c.def_ 7 (d := d__law_walk) rfl
  have D__law_walk : FO P w K mg 3 ("_law_walk", none) ["_law_bag_here", "_law_w"] (S__law_walk K) := ok__law_walk T F__law_walk D__law_pull D__law_of D__law_on
  obtain ⟨fd__law_beats, F__law_beats⟩ := c.def_ 8 (d := d__law_beats) rfl
  have D__law_beats : FO P w K mg 1 ("_law_beats", none) ["_law_walk_here", "_law_many"] (S__law_beats K) := ok__law_beats T F__law_beats
  obtain ⟨fd_is_within, F_is_within⟩ := c.def_ 9 (d := d_is_within) rfl
  have D_is_within : FO P w K mg 1 ("is_within", none) ["thing", "low", "high"] (S_is_within K) := ok_is_within T F_is_within
  obtain ⟨fd_Web_has_arrow, F_Web_has_arrow⟩ := c.def_ 10 (d := d_Web_has_arrow) rfl
  have D_Web_has_arrow : FO P w K mg 2 ("Web", some "has_arrow") ["self", "arrow"] (S_Web_has_arrow K) := ok_Web_has_arrow T F_Web_has_arrow D_is_within
  obtain ⟨fd_Web_first_wrong, F_Web_first_wrong⟩ := c.def_ 11 (d := d_Web_first_wrong) rfl
  have D_Web_first_wrong : FO P w K mg 3 ("Web", some "first_wrong") ["self", "row"] (S_Web_first_wrong K) := ok_Web_first_wrong T F_Web_first_wrong D_Web_has_arrow
  obtain ⟨fd_Web_end, F_Web_end⟩ := c.def_ 12 (d := d_Web_end) rfl
  have D_Web_end : FO P w K mg 3 ("Web", some "end") ["self", "arrow"] (S_Web_end K) := ok_Web_end T F_Web_end D_Web_has_arrow
  obtain ⟨fd_Web_begin, F_Web_begin⟩ := c.def_ 13 (d := d_Web_begin) rfl
  have D_Web_begin : FO P w K mg 3 ("Web", some "begin") ["self", "arrow"] (S_Web_begin K) := ok_Web_begin T F_Web_begin D_Web_has_arrow
  obtain ⟨fd_shortest_ring, F_shortest_ring⟩ := c.def_ 14 (d := d_shortest_ring) rfl
  have D_shortest_ring : FO P w K mg 1 ("shortest_ring", none) ["ring"] (S_shortest_ring K) := ok_shortest_ring T F_shortest_ring
  obtain ⟨fd_drawn_in, F_drawn_in⟩ := c.def_ 15 (d := d_drawn_in) rfl
  have D_drawn_in : FO P w K mg 2 ("drawn_in", none) ["ahead", "ring"] (S_drawn_in K) := ok_drawn_in T F_drawn_in D_shortest_ring
  obtain ⟨fd_Walker___init__, F_Walker___init__⟩ := c.def_ 16 (d := d_Walker___init__) rfl
  have D_Walker___init__ : FO P w K mg 4 ("Walker", some "__init__") ["self", "web", "ahead", "ring"] (S_Walker___init__ K) := ok_Walker___init__ T F_Walker___init__ D_Web_first_wrong D_Web_end D_Web_begin D_drawn_in
  obtain ⟨fd_is_listed, F_is_listed⟩ := c.def_ 17 (d := d_is_listed) rfl
  have D_is_listed : FO P w K mg 1 ("is_listed", none) ["thing"] (S_is_listed K) := ok_is_listed T F_is_listed
  obtain ⟨fd_is_pair, F_is_pair⟩ := c.def_ 18 (d := d_is_pair) rfl
  have D_is_pair : FO P w K mg 2 ("is_pair", none) ["thing", "rooms"] (S_is_pair K) := ok_is_pair T F_is_pair D_is_within D_is_listed
  obtain ⟨fd_Web___init__, F_Web___init__⟩ := c.def_ 19 (d := d_Web___init__) rfl
  have D_Web___init__ : FO P w K mg 3 ("Web", some "__init__") ["self", "rooms", "arrows"] (S_Web___init__ K) := ok_Web___init__ T F_Web___init__ D_is_within D_is_pair
  obtain ⟨fd__law_made, F__law_made⟩ := c.def_ 20 (d := d__law_made) rfl
  have D__law_made : FO P w K mg 5 ("_law_made", none) ["_law_w"] (S__law_made K) := ok__law_made T F__law_made D_Web___init__
  obtain ⟨fd__law_walker, F__law_walker⟩ := c.def_ 21 (d := d__law_walker) rfl
  have D__law_walker : FO P w K mg 6 ("_law_walker", none) ["_law_w", "_law_walk_here"] (S__law_walker K) := ok__law_walker T F__law_walker D_Walker___init__ D__law_made
  obtain ⟨fd_Web___eq__, F_Web___eq__⟩ := c.def_ 22 (d := d_Web___eq__) rfl
  have D_Web___eq__ : FO P w K mg 1 ("Web", some "__eq__") ["self", "other"] (S_Web___eq__ K) := ok_Web___eq__ T F_Web___eq__
  obtain ⟨fd_Walker___eq__, F_Walker___eq__⟩ := c.def_ 23 (d := d_Walker___eq__) rfl
  have D_Walker___eq__ : FO P w K mg 3 ("Walker", some "__eq__") ["self", "other"] (S_Walker___eq__ K) := ok_Walker___eq__ T F_Walker___eq__ D_Web___eq__
  obtain ⟨fd_Walker_arrow_at, F_Walker_arrow_at⟩ := c.def_ 24 (d := d_Walker_arrow_at) rfl
  have D_Walker_arrow_at : FO P w K mg 1 ("Walker", some "arrow_at") ["self", "beat"] (S_Walker_arrow_at K) := ok_Walker_arrow_at T F_Walker_arrow_at
  obtain ⟨fd_Walker_arrow, F_Walker_arrow⟩ := c.def_ 25 (d := d_Walker_arrow) rfl
  have D_Walker_arrow : FO P w K mg 2 ("Walker", some "arrow") ["self", "beat"] (S_Walker_arrow K) := ok_Walker_arrow T F_Walker_arrow D_Walker_arrow_at
  obtain ⟨fd_law, F_law⟩ := c.def_ 26 (d := d_law) rfl
  have D_law := ok_law (P := P) (w := w) T F_law D__law_bag D__law_web D__law_walk D__law_pull D__law_beats D__law_outs D__law_walker D_Walker___eq__ D_Walker_arrow
  exact ⟨fd_law, F_law, D_law⟩
theorem plain : ∀ ns : List Int, ns.length ≤ 63 → ∃ μ, sem_law [.dat (.scr ns)] [] = .v (.dat (.bl true)) μ := fun _ h => Q.plain h
end Y
open PySem PySem.W PySem.Calls PyProof.Rows
theorem PySem.Challenge.cw_aheadfold_k09_whole_walkers_are_equal_wh_holds : PySem.Challenge.rw_aheadfold_k09_whole_walkers_are_equal_wh.Holds := by
  w_on; o_law
  refine HandSHeadRun.head_any (r := OpenLaw.row PySem.Challenge.rw_aheadfold_k09_whole_walkers_are_equal_wh) (q := view (OpenLaw.row PySem.Challenge.rw_aheadfold_k09_whole_walkers_are_equal_wh).prog [35]) (H := Y.hk) (ob := Y.ob) (M := 12000) (loose := Y.loose) (d := HandSHeadRun.topDef (OpenLaw.row PySem.Challenge.rw_aheadfold_k09_whole_walkers_are_equal_wh).prog 35) (kwd := []) Y.ob_eq
    (by kernel_rfl) (fun s => by kernel_rfl) Y.run (by kernel_rfl) (by kernel_rfl) (by kernel_rfl) (by rfl) (by first | assumption | decide +kernel) (by decide +kernel) ⟨rfl, rfl, rfl, rfl, rfl, by decide +kernel⟩ ?hw ?hc
  case hw => w_witness2
  case hc =>
    refine Y.walk_ofZ (l := PySem.Challenge.rw_aheadfold_k09_whole_walkers_are_equal_wh) (n := 63) (k := 7) (x := "_law_script") (CX := fun w => Z.CXZ PySem.Challenge.rw_aheadfold_k09_whole_walkers_are_equal_wh.prog w) rfl (by decide) (by kernel_rfl) ⟨by decide, by decide, by decide⟩ ?F (fun _ _ _ _ _ z => Y.noCX z)
    intro w mg fa h Y G hmg0
    obtain ⟨K, KX, c, e⟩ := Y
    have hmg : mg ("law" : PySem.Str) = some (.ref fa) := by
      have e : (HandSHeadRun.topDef (OpenLaw.row PySem.Challenge.rw_aheadfold_k09_whole_walkers_are_equal_wh).prog 35).name = ("law" : PySem.Str) := by kernel_rfl
      rw [← e]
      exact hmg0
    exact Y.at_law KX (Y.tx KX G c e) (He.glo_ok KX G (c.fact 48 (f := .glo "law") rfl)) hmg (Y.defs (Y.tx KX G c e) c) (fun F s u => L2.FunD.bindsA (ps := ["_law_script"]) F (fun _ _ _ _ _ _ us hl => match us, hl with | [_], _ => rfl) s [u] rfl) Y.plain
