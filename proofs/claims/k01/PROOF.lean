import PyProof.Rows.All
import Wide.All
import OpenK.AllK
import Wide.FinOn
import HandS.ForMost
import HandS.Zip
import HandS.Deep
import HandS.IsInst
import HandS.Wide
import HandS.Conv
import HandS.FStr
import HandS.Walk
import HandS.TupAny
import KE.GoesMore
import KE.KFmtOwn
import PyProof.InstEq
import HandS.ExcCtx
import HandS.Defaults
import HandS.HeadHook2
import KE.KUnpackStar
import PySem.Str
import HandS.Head0
import HandS.Head1
import HandS.Head2
import HandS.HeadEnd
import HandS.HeadHook1
import HandS.Ends
import PySem.Challenge.RW_aheadfold_k01_webs_made
set_option Elab.async false
set_option linter.all false
set_option maxRecDepth 100000
/-! Z1: data trees, a persistent part of the heap, owned resources, and the tag states. -/
namespace Z
open PySem PySem.Spec PyProof.Rows L2
/-! ### data -/
inductive DD where
  | non
  | bl (b : Bool)
  | int (i : Int)
  | str (s : Str)
  | ty (n : String)
  | tup (xs : List DD)
  | tpl (xs : List DD)
  | lst (xs : List DD)
  | obj (C : Addr) (ns : List Str) (xs : List DD)
  | abs (φ : V → Hp → Prop) (m : ∀ v G G', Same G G' → φ v G → φ v G')
mutual
def Rep (G : Hp) : DD → V → Prop
  | .non, v => v = V.non
  | .bl b, v => v = V.bl b
  | .int i, v => v = V.int i
  | .str s, v => v = V.str s
  | .ty n, v => v = V.ty n
  | .abs φ _, v => φ v G
  | .tup xs, v => ∃ a vs, v = V.ref a ∧ Rd G a (.tup vs) ∧ RepL G xs vs
  | .tpl xs, v => ∃ a vs o, v = V.ref a ∧ (G a = some (.frz o (.tup vs)) ∧ o.dict = none) ∧ RepL G xs vs
  | .lst xs, v => ∃ a vs, v = V.ref a ∧ G a = some (.lst vs) ∧ RepL G xs vs
  | .obj C ns xs, v => ∃ a dx vs, v = V.ref a ∧ G a = some (.ins C dx (ns.zip vs)) ∧ ns.length = vs.length ∧ RepL G xs vs
def RepL (G : Hp) : List DD → List V → Prop
  | [], vs => vs = []
  | x :: xs, vs => ∃ v r, vs = v :: r ∧ Rep G x v ∧ RepL G xs r
end
theorem rd_mono {G G' : Hp} {a : Addr} {u : HO} (e : Same G G') (h : Rd G a u) : Rd G' a u := h.imp (e a u) fun ⟨o, q⟩ => ⟨o, e a _ q⟩
mutual
theorem Rep.mono {G G' : Hp} (e : Same G G') : ∀ (d : DD) (v : V), Rep G d v → Rep G' d v
  | .non, _, h => h
  | .bl _, _, h => h
  | .int _, _, h => h
  | .str _, _, h => h
  | .ty _, _, h => h
  | .abs _ m, v, h => m v G G' e h
  | .tup xs, _, h => by
    obtain ⟨a, vs, h1, h2, h3⟩ := h
    exact ⟨a, vs, h1, rd_mono e h2, RepL.mono e xs vs h3⟩
  | .tpl xs, _, h => by
    obtain ⟨a, vs, o, h1, h2, h3⟩ := h
    exact ⟨a, vs, o, h1, ⟨e _ _ h2.1, h2.2⟩, RepL.mono e xs vs h3⟩
  | .lst xs, _, h => by
    obtain ⟨a, vs, h1, h2, h3⟩ := h
    exact ⟨a, vs, h1, e _ _ h2, RepL.mono e xs vs h3⟩
  | .obj C ns xs, _, h => by
    obtain ⟨a, dx, vs, h1, h2, h4, h3⟩ := h
    exact ⟨a, dx, vs, h1, e _ _ h2, h4, RepL.mono e xs vs h3⟩
theorem RepL.mono {G G' : Hp} (e : Same G G') : ∀ (ds : List DD) (vs : List V), RepL G ds vs → RepL G' ds vs
  | [], _, h => h
  | d :: ds, _, h => by
    obtain ⟨v, r, h1, h2, h3⟩ := h
    exact ⟨v, r, h1, Rep.mono e d v h2, RepL.mono e ds r h3⟩
end
theorem RepL.length {G : Hp} : ∀ {ds : List DD} {vs : List V}, RepL G ds vs → vs.length = ds.length
  | [], _, h => congrArg List.length (show _ = [] from h)
  | d :: ds, _, h => by
    obtain ⟨v, r, h1, h2, h3⟩ := h
    rw [h1, List.length_cons, List.length_cons, RepL.length h3]
theorem RepL.get {G : Hp} : ∀ {ds : List DD} {vs : List V} {i : Nat} {d : DD}, RepL G ds vs → ds[i]? = some d → ∃ v, vs[i]? = some v ∧ Rep G d v
  | [], _, i, d, _, h => by simp at h
  | d :: ds, _, 0, e, h, q => by
    obtain ⟨v, r, rfl, h2, h3⟩ := h
    have eq : d = e := by simpa using q
    subst eq
    exact ⟨v, rfl, h2⟩
  | d :: ds, _, i + 1, e, h, q => by
    obtain ⟨v, r, rfl, h2, h3⟩ := h
    obtain ⟨u, h4, h5⟩ := RepL.get (i := i) h3 (by simpa using q)
    exact ⟨u, by simpa using h4, h5⟩
theorem RepL.nil {G : Hp} : RepL G [] [] := rfl
theorem RepL.cons {G : Hp} {d : DD} {ds : List DD} {v : V} {vs : List V} (h : Rep G d v) (t : RepL G ds vs) : RepL G (d :: ds) (v :: vs) := ⟨v, vs, rfl, h, t⟩
theorem RepL.append {G : Hp} : ∀ {ds es : List DD} {vs ws : List V}, RepL G ds vs → RepL G es ws → RepL G (ds ++ es) (vs ++ ws)
  | [], _, _, _, h, q => by
    have e : _ = [] := h
    rw [e]
    exact q
  | d :: ds, _, _, _, h, q => by
    obtain ⟨v, r, rfl, h2, h3⟩ := h
    exact RepL.cons h2 (RepL.append h3 q)
theorem RepL.set {G : Hp} {d : DD} {v : V} (h : Rep G d v) : ∀ {ds : List DD} {vs : List V} (i : Nat), RepL G ds vs → RepL G (ds.set i d) (vs.set i v)
  | [], _, i, q => by
    have e : _ = [] := q
    rw [e]
    rfl
  | e :: ds, _, 0, q => by
    obtain ⟨u, r, rfl, h2, h3⟩ := q
    exact RepL.cons h h3
  | e :: ds, _, i + 1, q => by
    obtain ⟨u, r, rfl, h2, h3⟩ := q
    exact RepL.cons h2 (RepL.set h i h3)
theorem RepL.erase {G : Hp} : ∀ {ds : List DD} {vs : List V} (i : Nat), RepL G ds vs → RepL G (ds.eraseIdx i) (vs.eraseIdx i)
  | [], _, i, q => by
    have e : _ = [] := q
    rw [e]
    rfl
  | e :: ds, _, 0, q => by
    obtain ⟨u, r, rfl, h2, h3⟩ := q
    exact h3
  | e :: ds, _, i + 1, q => by
    obtain ⟨u, r, rfl, h2, h3⟩ := q
    exact RepL.cons h2 (RepL.erase i h3)
theorem RepL.take {G : Hp} : ∀ {ds : List DD} {vs : List V} (n : Nat), RepL G ds vs → RepL G (ds.take n) (vs.take n)
  | _, _, 0, _ => rfl
  | [], _, n + 1, q => by
    have e : _ = [] := q
    rw [e]
    rfl
  | e :: ds, _, n + 1, q => by
    obtain ⟨u, r, rfl, h2, h3⟩ := q
    exact RepL.cons h2 (RepL.take n h3)
theorem RepL.drop {G : Hp} : ∀ {ds : List DD} {vs : List V} (n : Nat), RepL G ds vs → RepL G (ds.drop n) (vs.drop n)
  | _, _, 0, q => q
  | [], _, n + 1, q => by
    have e : _ = [] := q
    rw [e]
    rfl
  | e :: ds, _, n + 1, q => by
    obtain ⟨u, r, rfl, h2, h3⟩ := q
    exact RepL.drop n h3
theorem RepL.dropLast {G : Hp} {ds : List DD} {vs : List V} (h : RepL G ds vs) : RepL G ds.dropLast vs.dropLast := by
  rw [List.dropLast_eq_take, List.dropLast_eq_take, h.length]
  exact h.take _
theorem RepL.ints {G : Hp} : ∀ {ns : List Int} {vs : List V}, RepL G (ns.map DD.int) vs → vs = ns.map V.int
  | [], _, h => h
  | n :: ns, _, h => by
    obtain ⟨v, r, rfl, h2, h3⟩ := h
    rw [RepL.ints h3]
    exact congrArg (· :: _) h2
theorem RepL.of_ints {G : Hp} : ∀ (ns : List Int), RepL G (ns.map DD.int) (ns.map V.int)
  | [] => rfl
  | n :: ns => RepL.cons rfl (RepL.of_ints ns)
theorem RepL.bls {G : Hp} : ∀ {bs : List Bool} {vs : List V}, RepL G (bs.map DD.bl) vs → vs = bs.map V.bl
  | [], _, h => h
  | n :: ns, _, h => by
    obtain ⟨v, r, rfl, h2, h3⟩ := h
    rw [RepL.bls h3]
    exact congrArg (· :: _) h2
theorem RepL.strs {G : Hp} : ∀ {bs : List Str} {vs : List V}, RepL G (bs.map DD.str) vs → vs = bs.map V.str
  | [], _, h => h
  | n :: ns, _, h => by
    obtain ⟨v, r, rfl, h2, h3⟩ := h
    rw [RepL.strs h3]
    exact congrArg (· :: _) h2
/-! ### growth with a frame -/
structure Fr (X : Addr → Prop) (G H G' H' : Hp) : Prop where
  g : Same G G'
  h : ∀ a o, H a = some o → ¬ X a → H' a = some o
  n : ∀ a, G a = none → H a ≠ none → ¬ X a → G' a = none
  t : ∀ a, H a ≠ none → H' a ≠ none
def No : Addr → Prop := fun _ => False
theorem Fr.refl {X : Addr → Prop} {G H : Hp} : Fr X G H G H := ⟨Same.refl G, fun _ _ h _ => h, fun _ h _ _ => h, fun _ h => h⟩
theorem Fr.trans {X Y : Addr → Prop} {G H G1 H1 G2 H2 : Hp} (a : Fr X G H G1 H1) (b : Fr Y G1 H1 G2 H2) (s : ∀ a, Y a → X a ∨ H a = none) : Fr X G H G2 H2 :=
  ⟨a.g.trans b.g, fun p o h nx => b.h p o (a.h p o h nx) fun y => (s p y).elim nx fun z => (by
    rw [h] at z
    cases z), fun p h q nx => b.n p (a.n p h q nx) (a.t p q) (fun y => (s p y).elim nx q), fun p h => b.t p (a.t p h)⟩
theorem Fr.mono {X Y : Addr → Prop} {G H G1 H1 : Hp} (a : Fr X G H G1 H1) (s : ∀ a, X a → Y a) : Fr Y G H G1 H1 :=
  ⟨a.g, fun p o h ny => a.h p o h fun x => ny (s p x), fun p h q ny => a.n p h q fun x => ny (s p x), a.t⟩
theorem Fr.same {G H G1 H1 : Hp} (a : Fr No G H G1 H1) : Same H H1 := fun p o h => a.h p o h fun z => z
theorem ne_none {H : Hp} {a : Addr} {o : HO} (h : H a = some o) : H a ≠ none := by
  rw [h]
  exact fun z => nomatch z
/-- a new object, put into both parts -/
theorem Fr.both {G H : Hp} {p : Addr} {o : HO} (e : Same G H) (hp : H p = none) : Fr No G H (upd G p o) (upd H p o) where
  g := fun a u h => by
    rw [upd_ne (ne_of_none (e a u h) hp)]
    exact h
  h := fun a u h _ => by
    rw [upd_ne (ne_of_none h hp)]
    exact h
  n := fun a h q _ => by
    rw [upd_ne (fun z => q (by rw [z]; exact hp))]
    exact h
  t := fun a q => by
    rw [upd_ne (fun z => q (by rw [z]; exact hp))]
    exact q
/-- a new object, kept out of the persistent part -/
theorem Fr.new {G H : Hp} {p : Addr} {o : HO} (hp : H p = none) : Fr No G H G (upd H p o) where
  g := Same.refl G
  h := fun a u h _ => by
    rw [upd_ne (ne_of_none h hp)]
    exact h
  n := fun a h _ _ => h
  t := fun a q => by
    rw [upd_ne (fun z => q (by rw [z]; exact hp))]
    exact q
def isTp : HO → Prop
  | .tup _ => True
  | .frz _ (.tup _) => True
  | _ => False
/-- every tuple is in the persistent part -/
def Tu (G H : Hp) : Prop := ∀ a u, isTp u → H a = some u → G a = some u
theorem Tu.both {G H : Hp} {p : Addr} {o : HO} (h : Tu G H) : Tu (upd G p o) (upd H p o) := fun a u t q => by
  by_cases e : a = p
  · subst e
    rw [upd_same] at q ⊢
    exact q
  · rw [upd_ne e] at q ⊢
    exact h a u t q
theorem Tu.new {G H : Hp} {p : Addr} {o : HO} (h : Tu G H) (ho : ¬ isTp o) : Tu G (upd H p o) := fun a u t q => by
  by_cases e : a = p
  · subst e
    rw [upd_same] at q
    cases q
    exact absurd t ho
  · rw [upd_ne e] at q
    exact h a u t q
theorem Tu.rd {G H : Hp} {a : Addr} {vs : List V} (t : Tu G H) (h : Rd H a (.tup vs)) : Rd G a (.tup vs) := h.imp (t a _ True.intro) fun ⟨o, q⟩ => ⟨o, t a _ True.intro q⟩
theorem same_both {G H : Hp} {p : Addr} {o : HO} (e : Same G H) : Same (upd G p o) (upd H p o) := fun a u q => by
  by_cases z : a = p
  · subst z
    rw [upd_same] at q ⊢
    exact q
  · rw [upd_ne z] at q ⊢
    exact e a u q
theorem same_new {G H : Hp} {p : Addr} {o : HO} (e : Same G H) (hp : H p = none) : Same G (upd H p o) := fun a u q => by
  rw [upd_ne (ne_of_none (e a u q) hp)]
  exact e a u q
theorem same_own {G H : Hp} {p : Addr} {o : HO} (e : Same G H) (hp : G p = none) : Same G (upd H p o) := fun a u q => by
  rw [upd_ne (ne_of_none q hp)]
  exact e a u q
/-! ### resources and tags -/
structure Rsc where
  φ : V → Hp → Hp → (Addr → Prop) → Prop
  mono : ∀ v G H A G' H', φ v G H A → Same G G' → (∀ a, A a → H' a = H a) → φ v G' H' A
/-- a list that is one's own: at p, of data -/
def ownL (ds : List DD) : Rsc where
  φ := fun v G H A => ∃ p vs, v = V.ref p ∧ H p = some (.lst vs) ∧ RepL G ds vs ∧ A = (fun a => a = p)
  mono := fun v G H A G' H' h e k => by
    obtain ⟨p, vs, h1, h2, h3, rfl⟩ := h
    exact ⟨p, vs, h1, by rw [k p rfl]; exact h2, h3.mono e _ _, rfl⟩
/-- an instance that is one's own -/
def ownI (C : Addr) (ns : List Str) (xs : List DD) : Rsc where
  φ := fun v G H A => ∃ p dx vs, v = V.ref p ∧ H p = some (.ins C dx (ns.zip vs)) ∧ ns.length = vs.length ∧ RepL G xs vs ∧ A = (fun a => a = p)
  mono := fun v G H A G' H' h e k => by
    obtain ⟨p, dx, vs, h1, h2, h4, h3, rfl⟩ := h
    exact ⟨p, dx, vs, h1, by rw [k p rfl]; exact h2, h4, h3.mono e _ _, rfl⟩
inductive Tg where
  | dat (d : DD)
  | vol (d : DD)
  | tmp (d : DD)
  | res (l : Bool) (R : Rsc)
  | ali (i : Nat)
abbrev Lc := List (Option Tg)
structure Cfg where
  X : Addr → Prop
  G0 : Hp
  H0 : Hp
  P : List (Nat × V)
/-- what a slot says (but resources) -/
def Sl (c : Cfg) (G : Hp) : Tg → V → Prop
  | .dat d, v => Rep G d v
  | .vol d, v => ∃ Gv : Hp, (∀ a o, Gv a = some o → c.H0 a = some o ∧ ¬ c.X a) ∧ Rep Gv d v
  | _, _ => True
structure Ok (c : Cfg) (τ : Lc) (σ : L2.St) (G H : Hp) (F : Nat → Addr → Prop) : Prop where
  ex : Same G H
  tu : Tu G H
  fr : Fr c.X c.G0 c.H0 G H
  len : σ.length = τ.length
  sl : ∀ (i : Nat) (t : Tg), τ[i]? = some (some t) → ∃ v, σ[i]? = some (some v) ∧ Sl c G t v
  rs : ∀ (i : Nat) (l : Bool) (R : Rsc), τ[i]? = some (some (.res l R)) → ∃ v, σ[i]? = some (some v) ∧ R.φ v G H (F i)
  own : ∀ (i : Nat) (a : Addr), F i a → H a ≠ none ∧ G a = none ∧ ∃ l R, τ[i]? = some (some (.res l R)) ∧ (c.H0 a = none ∨ (l = false ∧ c.X a))
  dj : ∀ (i j : Nat) (a : Addr), i ≠ j → F i a → F j a → False
  pn : ∀ p ∈ c.P, σ[p.1]? = some (some p.2) ∧ ∃ R, τ[p.1]? = some (some (.res false R))
/-- what may have been changed -/
def Mt (b : Bool) (F : Nat → Addr → Prop) : Addr → Prop := fun a => b = false ∧ ∃ i, F i a
structure Go (b : Bool) (c : Cfg) (τ' : Lc) (σ : L2.St) (G H : Hp) (F : Nat → Addr → Prop) (G' H' : Hp) (F' : Nat → Addr → Prop) : Prop where
  ok : Ok c τ' σ G' H' F'
  fr : Fr (Mt b F) G H G' H'
  fp : ∀ i a, F' i a → F i a ∨ H a = none
/-- what is known of a value in flight -/
def Rs (c : Cfg) (σ : L2.St) (H G' H' : Hp) (F' : Nat → Addr → Prop) : Tg → V → Prop
  | .dat d, v => Rep G' d v
  | .vol d, v => ∃ Gv : Hp, (∀ a o, Gv a = some o → c.H0 a = some o ∧ ¬ c.X a) ∧ Rep Gv d v
  | .tmp d, v => Rep H' d v
  | .res l R, v => l = true ∧ ∃ A, R.φ v G' H' A ∧ ∀ a, A a → H a = none ∧ H' a ≠ none ∧ G' a = none ∧ ∀ i, ¬ F' i a
  | .ali i, v => σ[i]? = some (some v)
/-- a value that stays known though owned things change -/
def stb : Tg → Bool → Bool
  | .tmp _, b => b
  | _, _ => true
section
variable {c : Cfg} {τ τ1 τ2 : Lc} {σ : L2.St} {G H G1 H1 G2 H2 : Hp} {F F1 F2 : Nat → Addr → Prop} {b b1 b2 : Bool}
theorem Ok.grow (o : Ok c τ σ G H F) (f : Fr No G H G1 H1) (e : Same G1 H1) (t : Tu G1 H1) : Ok c τ σ G1 H1 F where
  ex := e
  tu := t
  fr := o.fr.trans f fun _ z => z.elim
  len := o.len
  sl := fun i t h => by
    obtain ⟨v, h1, h2⟩ := o.sl i t h
    refine ⟨v, h1, ?_⟩
    cases t with
    | dat d => exact Rep.mono f.g d v h2
    | vol d => exact h2
    | tmp d => exact h2
    | res l R => exact h2
    | ali i => exact h2
  rs := fun i l R h => by
    obtain ⟨v, h1, h2⟩ := o.rs i l R h
    refine ⟨v, h1, R.mono v G H _ G1 H1 h2 f.g fun a ha => ?_⟩
    have q := (o.own i a ha).1
    cases z : H a with
    | none => exact absurd z q
    | some u => exact f.same a u z
  own := fun i a h => by
    obtain ⟨h1, h2, h3⟩ := o.own i a h
    exact ⟨f.t a h1, f.n a h2 h1 (fun z => z), h3⟩
  dj := o.dj
  pn := o.pn
theorem Go.refl (o : Ok c τ σ G H F) : Go b c τ σ G H F G H F := ⟨o, Fr.refl, fun _ _ h => .inl h⟩
theorem Go.grow (o : Ok c τ σ G H F) (f : Fr No G H G1 H1) (e : Same G1 H1) (t : Tu G1 H1) : Go true c τ σ G H F G1 H1 F :=
  ⟨o.grow f e t, f.mono fun _ z => z.elim, fun _ _ h => .inl h⟩
theorem Go.trans (a : Go b1 c τ1 σ G H F G1 H1 F1) (b : Go b2 c τ2 σ G1 H1 F1 G2 H2 F2) : Go (b1 && b2) c τ2 σ G H F G2 H2 F2 := by
  refine ⟨b.ok, Fr.trans (a.fr.mono fun p z => ?_) b.fr fun p z => ?_, fun i p z => ?_⟩
  · obtain ⟨z1, z2⟩ := z
    exact ⟨by rw [z1]; rfl, z2⟩
  · obtain ⟨z1, i, z2⟩ := z
    rcases a.fp i p z2 with q | q
    · exact .inl ⟨by rw [z1, Bool.and_false], i, q⟩
    · exact .inr q
  · rcases b.fp i p z with q | q
    · exact a.fp i p q
    · refine .inr ?_
      cases w : H p with
      | none => rfl
      | some u => exact absurd q (a.fr.t p (ne_none w))
theorem Rs.keep {r : Tg} {v : V} (h : Rs c σ H G1 H1 F1 r v) (g : Go b2 c τ2 σ G1 H1 F1 G2 H2 F2) (s : stb r b2 = true) : Rs c σ H G2 H2 F2 r v := by
  cases r with
  | dat d => exact Rep.mono g.fr.g d v h
  | vol d => exact h
  | tmp d =>
    have e : b2 = true := s
    subst e
    exact Rep.mono (g.fr.mono (Y := No) fun _ z => nomatch z.1).same d v h
  | res l R =>
    obtain ⟨h1, A, h2, h3⟩ := h
    have same : ∀ a, A a → H2 a = H1 a := fun a ha => by
      obtain ⟨q1, q2, q3, q4⟩ := h3 a ha
      cases z : H1 a with
      | none => exact absurd z q2
      | some u => exact g.fr.h a u z fun m => q4 m.2.choose m.2.choose_spec
    refine ⟨h1, A, R.mono v _ _ A _ _ h2 g.fr.g same, fun a ha => ?_⟩
    obtain ⟨q1, q2, q3, q4⟩ := h3 a ha
    refine ⟨q1, g.fr.t a q2, g.fr.n a q3 q2 (fun m => q4 m.2.choose m.2.choose_spec), fun i z => ?_⟩
    rcases g.fp i a z with y | y
    · exact q4 i y
    · exact q2 y
  | ali i => exact h
/-- seen from an earlier heap -/
theorem Rs.from {r : Tg} {v : V} (h : Rs c σ H1 G2 H2 F2 r v) (t : ∀ a, H a ≠ none → H1 a ≠ none) : Rs c σ H G2 H2 F2 r v := by
  cases r with
  | dat d => exact h
  | vol d => exact h
  | tmp d => exact h
  | res l R =>
    obtain ⟨h1, A, h2, h3⟩ := h
    refine ⟨h1, A, h2, fun a ha => ?_⟩
    obtain ⟨q1, q2⟩ := h3 a ha
    refine ⟨?_, q2⟩
    cases z : H a with
    | none => rfl
    | some u => exact absurd q1 (t a (ne_none z))
  | ali i => exact h
end
/-! ### what an expression gives -/
def W (c : Cfg) (te : TE) (τ : Lc) (Φ : Tg → Lc → Bool → Prop) : Prop := ∀ (σ : L2.St) (G H : Hp) (F : Nat → Addr → Prop), Ok c τ σ G H F → ∀ Q : VK,
  (∀ v G' H' F' r τ' b, Φ r τ' b → Go b c τ' σ G H F G' H' F' → Rs c σ H G' H' F' r v → Q v H') → te σ H Q
def WA (c : Cfg) (ta : TA) (τ : Lc) (Φ : List Tg → Lc → Bool → Prop) : Prop := ∀ (σ : L2.St) (G H : Hp) (F : Nat → Addr → Prop), Ok c τ σ G H F → ∀ Q : List V → Hp → Prop,
  (∀ vs G' H' F' rs τ' b, Φ rs τ' b → Go b c τ' σ G H F G' H' F' → Paired (Rs c σ H G' H' F') rs vs → Q vs H') → ta σ H Q
def WT (c : Cfg) (tt : TT) (τ : Lc) (Φ : Bool → Lc → Bool → Prop) : Prop := ∀ (σ : L2.St) (G H : Hp) (F : Nat → Addr → Prop), Ok c τ σ G H F → ∀ Q : Bool → Hp → Prop,
  (∀ k G' H' F' τ' b, Φ k τ' b → Go b c τ' σ G H F G' H' F' → Q k H') → tt σ H Q
section
variable {c : Cfg} {τ : Lc} {Φ : Tg → Lc → Bool → Prop} {te ta tb : TE} {i : Nat} {d e f : DD}
theorem W.imp {Φ' : Tg → Lc → Bool → Prop} (h : W c te τ Φ) (k : ∀ r τ' b, Φ r τ' b → Φ' r τ' b) : W c te τ Φ' := fun σ G H F o Q q => h σ G H F o Q fun v G' H' F' r τ' b p => q v G' H' F' r τ' b (k r τ' b p)
theorem w_var {t : Tg} (h : τ[i]? = some (some t)) (hd : ∀ l R, t ≠ .res l R) (ht : ∀ d, t ≠ .tmp d) (ha : ∀ i, t ≠ .ali i) (k : Φ t τ true) : W c (tVar i) τ Φ := fun σ G H F o Q q => by
  obtain ⟨v, h1, h2⟩ := o.sl i t h
  refine ⟨v, h1, q v G H F t τ true k (Go.refl o) ?_⟩
  cases t with
  | dat d => exact h2
  | vol d => exact h2
  | tmp d => exact absurd rfl (ht d)
  | res l R => exact absurd rfl (hd l R)
  | ali i => exact absurd rfl (ha i)
theorem w_varD (h : τ[i]? = some (some (.dat d))) (k : Φ (.dat d) τ true) : W c (tVar i) τ Φ := w_var h (fun _ _ z => nomatch z) (fun _ z => nomatch z) (fun _ z => nomatch z) k
theorem w_varV (h : τ[i]? = some (some (.vol d))) (k : Φ (.vol d) τ true) : W c (tVar i) τ Φ := w_var h (fun _ _ z => nomatch z) (fun _ z => nomatch z) (fun _ z => nomatch z) k
theorem w_varR {l : Bool} {R : Rsc} (h : τ[i]? = some (some (.res l R))) (k : Φ (.ali i) τ true) : W c (tVar i) τ Φ := fun σ G H F o Q q => by
  obtain ⟨v, h1, h2⟩ := o.rs i l R h
  exact ⟨v, h1, q v G H F (.ali i) τ true k (Go.refl o) h1⟩
theorem w_int {n : Int} (k : Φ (.dat (.int n)) τ true) : W c (tC (.int n)) τ Φ := fun σ G H F o Q q => q _ G H F (.dat (.int n)) τ true k (Go.refl o) rfl
theorem w_bl {n : Bool} (k : Φ (.dat (.bl n)) τ true) : W c (tC (.bl n)) τ Φ := fun σ G H F o Q q => q _ G H F (.dat (.bl n)) τ true k (Go.refl o) rfl
theorem w_str {n : Str} (k : Φ (.dat (.str n)) τ true) : W c (tC (.str n)) τ Φ := fun σ G H F o Q q => q _ G H F (.dat (.str n)) τ true k (Go.refl o) rfl
theorem w_non (k : Φ (.dat .non) τ true) : W c (tC .non) τ Φ := fun σ G H F o Q q => q _ G H F (.dat .non) τ true k (Go.refl o) rfl
theorem w_ty {n : String} (k : Φ (.dat (.ty n)) τ true) : W c (tC (.ty n)) τ Φ := fun σ G H F o Q q => q _ G H F (.dat (.ty n)) τ true k (Go.refl o) rfl
/-! two-place operators -/
/-- on data: the result data too -/
def Op2 (r : R2) (d e f : DD) : Prop := ∀ (G H : Hp) (x y : V), Same G H → Tu G H → Rep H d x → Rep H e y → ∀ Q : VK, (∀ z G' H', Fr No G H G' H' → Same G' H' → Tu G' H' → Rep G' f z → Q z H') → r x y H Q
/-- a value in flight as data of the heap at hand -/
inductive Dv (τ : Lc) : Tg → DD → Prop
  | dat {d : DD} : Dv τ (.dat d) d
  | vol {d : DD} : Dv τ (.vol d) d
  | tmp {d : DD} : Dv τ (.tmp d) d
  | fre {ds : List DD} : Dv τ (.res true (ownL ds)) (.lst ds)
  | ali {i : Nat} {l : Bool} {ds : List DD} (h : τ[i]? = some (some (.res l (ownL ds)))) : Dv τ (.ali i) (.lst ds)
  | own {i : Nat} {l : Bool} {R : Rsc} {d : DD} (h : τ[i]? = some (some (.res l R))) (k : ∀ v G H A, Same G H → R.φ v G H A → Rep H d v) : Dv τ (.ali i) d
  | new {R : Rsc} {d : DD} (k : ∀ v G H A, Same G H → R.φ v G H A → Rep H d v) : Dv τ (.res true R) d
theorem Dv.rep {c : Cfg} {σ : L2.St} {H0 G H : Hp} {F : Nat → Addr → Prop} {r : Tg} {d : DD} {v : V} (h : Dv τ r d) (o : Ok c τ σ G H F) (q : Rs c σ H0 G H F r v) : Rep H d v := by
  cases h with
  | dat => exact Rep.mono o.ex d v q
  | vol =>
    obtain ⟨Gv, h1, h2⟩ := q
    exact Rep.mono (fun a u z => o.fr.h a u (h1 a u z).1 (h1 a u z).2) d v h2
  | tmp => exact q
  | fre =>
    obtain ⟨_, A, ⟨p, vs, h1, h2, h3, _⟩, _⟩ := q
    exact ⟨p, vs, h1, h2, h3.mono o.ex _ _⟩
  | ali h =>
    obtain ⟨u, h1, p, vs, h2, h3, h4, _⟩ := o.rs _ _ _ h
    have e : u = v := by
      have q' : σ[_]? = some (some v) := q
      rw [h1] at q'
      exact Option.some.inj (Option.some.inj q')
    subst e
    exact ⟨p, vs, h2, h3, h4.mono o.ex _ _⟩
  | own h k =>
    obtain ⟨u, h1, h2⟩ := o.rs _ _ _ h
    have e : u = v := by
      have q' : σ[_]? = some (some v) := q
      rw [h1] at q'
      exact Option.some.inj (Option.some.inj q')
    subst e
    exact k _ _ _ _ o.ex h2
  | new k =>
    obtain ⟨_, A, h2, _⟩ := q
    exact k _ _ _ _ o.ex h2
theorem w_op {r : R2} (h : W c ta τ fun x τ1 b1 => W c tb τ1 fun y τ2 b2 => stb x b2 = true ∧ ∃ d e f, Dv τ2 x d ∧ Dv τ2 y e ∧ Op2 r d e f ∧ Φ (.dat f) τ2 (b1 && b2)) : W c (tOp r ta tb) τ Φ := fun σ G H F o Q q =>
  h σ G H F o _ fun x G1 H1 F1 rx τ1 b1 p1 g1 s1 => p1 σ G1 H1 F1 g1.ok _ fun y G2 H2 F2 ry τ2 b2 p2 g2 s2 => by
    obtain ⟨hs, d, e, f, hd, he, hop, k⟩ := p2
    refine hop G2 H2 x y g2.ok.ex g2.ok.tu (hd.rep g2.ok (s1.keep g2 hs)) (he.rep g2.ok s2) Q fun z G3 H3 f3 e3 t3 r3 => ?_
    have g3 := Go.grow g2.ok f3 e3 t3
    have gg := (g1.trans g2).trans g3
    rw [Bool.and_true] at gg
    exact q z G3 H3 F2 (.dat f) τ2 _ k gg r3
/-- the same, all clean and no slot changed: by values -/
def Op1 (r : V → Hp → VK → Prop) (d f : DD) : Prop := ∀ (G H : Hp) (x : V), Same G H → Tu G H → Rep H d x → ∀ Q : VK, (∀ z G' H', Fr No G H G' H' → Same G' H' → Tu G' H' → Rep G' f z → Q z H') → r x H Q
theorem w_un {r : V → Hp → VK → Prop} (h : W c ta τ fun x τ1 b1 => ∃ d f, Dv τ1 x d ∧ Op1 r d f ∧ Φ (.dat f) τ1 b1) : W c (tUn r ta) τ Φ := fun σ G H F o Q q =>
  h σ G H F o _ fun x G1 H1 F1 rx τ1 b1 p1 g1 s1 => by
    obtain ⟨d, f, hd, hop, k⟩ := p1
    refine hop G1 H1 x g1.ok.ex g1.ok.tu (hd.rep g1.ok s1) Q fun z G3 H3 f3 e3 t3 r3 => ?_
    have gg := g1.trans (Go.grow g1.ok f3 e3 t3)
    rw [Bool.and_true] at gg
    exact q z G3 H3 F1 (.dat f) τ1 _ k gg r3
/-! argument lists -/
variable {ΦA : List Tg → Lc → Bool → Prop} {t : TA}
theorem wa_nil (k : ΦA [] τ true) : WA c tNil τ ΦA := fun σ G H F o Q q => q [] G H F [] τ true k (Go.refl o) .nil
theorem wa_cons (h : W c ta τ fun x τ1 b1 => WA c t τ1 fun xs τ2 b2 => stb x b2 = true ∧ ΦA (x :: xs) τ2 (b1 && b2)) : WA c (tCons ta t) τ ΦA := fun σ G H F o Q q =>
  h σ G H F o _ fun x G1 H1 F1 rx τ1 b1 p1 g1 s1 => p1 σ G1 H1 F1 g1.ok _ fun xs G2 H2 F2 rs τ2 b2 p2 g2 s2 =>
    q (x :: xs) G2 H2 F2 (rx :: rs) τ2 _ p2.2 (g1.trans g2) (.cons (s1.keep g2 p2.1) (Paired.mapP s2 fun r v z => Rs.from z g1.fr.t))
/-- a new list in flight is frozen -/
theorem w_frz (h : W c te τ fun x τ1 b1 => ∃ ds, x = .res true (ownL ds) ∧ Φ (.dat (.lst ds)) τ1 b1) : W c te τ Φ := fun σ G H F o Q q =>
  h σ G H F o _ fun x G1 H1 F1 rx τ1 b1 p1 g1 s1 => by
    obtain ⟨ds, rfl, k⟩ := p1
    obtain ⟨_, A, ⟨p, vs, rfl, h2, h3, rfl⟩, h4⟩ := s1
    obtain ⟨q1, q2, q3, q4⟩ := h4 p rfl
    have eg : Same G1 (upd G1 p (.lst vs)) := fun a u z => by
      rw [upd_ne (ne_of_none z q3)]
      exact z
    have eh : Same (upd G1 p (.lst vs)) H1 := fun a u z => by
      by_cases e : a = p
      · subst e
        rw [upd_same] at z
        rw [← z]
        exact h2
      · rw [upd_ne e] at z
        exact g1.ok.ex a u z
    have nn : ∀ a, G1 a = none → a ≠ p → upd G1 p (.lst vs) a = none := fun a z e => by
      rw [upd_ne e]
      exact z
    have okk : Ok c τ1 σ (upd G1 p (.lst vs)) H1 F1 := {
      ex := eh
      tu := fun a u t z => eg a _ (g1.ok.tu a u t z)
      fr := ⟨g1.ok.fr.g.trans eg, g1.ok.fr.h, fun a z w nx => nn a (g1.ok.fr.n a z w nx) (fun e => by
          subst e
          cases y : H a with
          | none => exact (by
              have := g1.ok.fr.t a w
              have y2 : c.H0 a ≠ none := w
              exact absurd y (o.fr.t a w))
          | some u => rw [y] at q1; cases q1), g1.ok.fr.t⟩
      len := g1.ok.len
      sl := fun i t z => by
        obtain ⟨v, z1, z2⟩ := g1.ok.sl i t z
        refine ⟨v, z1, ?_⟩
        cases t with
        | dat d => exact Rep.mono eg d v z2
        | vol d => exact z2
        | tmp d => exact z2
        | res l R => exact z2
        | ali i => exact z2
      rs := fun i l R z => by
        obtain ⟨v, z1, z2⟩ := g1.ok.rs i l R z
        exact ⟨v, z1, R.mono v _ _ _ _ _ z2 eg fun _ _ => rfl⟩
      own := fun i a z => by
        obtain ⟨z1, z2, z3⟩ := g1.ok.own i a z
        exact ⟨z1, nn a z2 (fun e => by subst e; exact q4 i z), z3⟩
      dj := g1.ok.dj
      pn := g1.ok.pn }
    refine q _ (upd G1 p (.lst vs)) H1 F1 (.dat (.lst ds)) τ1 b1 k ⟨okk, ⟨g1.fr.g.trans eg, g1.fr.h, fun a z w nx => nn a (g1.fr.n a z w nx) (fun e => by subst e; exact w q1), g1.fr.t⟩, g1.fp⟩ ?_
    exact ⟨p, vs, rfl, upd_same, h3.mono eg _ _⟩
end
end Z
set_option Elab.async false
set_option linter.all false
set_option maxRecDepth 100000
/-! Z2: expressions, statements, calls. -/
namespace Z
open PySem PySem.Spec PyProof.Rows L2
section
variable {c : Cfg} {τ : Lc} {Φ : Tg → Lc → Bool → Prop} {ΦT : Bool → Lc → Bool → Prop} {ΦA : List Tg → Lc → Bool → Prop} {te ta tb tc : TE} {t : TA} {u v : TT} {i : Nat} {d e f : DD}
/-! ### tests -/
theorem wt_test (h : W c te τ fun r τ1 b1 => ∃ k, r = .dat (.bl k) ∧ ΦT k τ1 b1) : WT c (tTest te) τ ΦT := fun σ G H F o Q q =>
  h σ G H F o _ fun x G1 H1 F1 rx τ1 b1 p1 g1 s1 => by
    obtain ⟨k, rfl, p⟩ := p1
    exact ⟨k, s1, q k G1 H1 F1 τ1 b1 p g1⟩
theorem wt_B (h : W c te τ fun r τ1 b1 => ∃ k, r = .dat (.bl k) ∧ ΦT k τ1 b1) : WT c (tB te) τ ΦT := wt_test h
theorem wt_and (h : WT c u τ fun k τ1 b1 => if k = true then WT c v τ1 fun k2 τ2 b2 => ΦT k2 τ2 (b1 && b2) else ΦT false τ1 b1) : WT c (tAnd u v) τ ΦT := fun σ G H F o Q q =>
  h σ G H F o _ fun k G1 H1 F1 τ1 b1 p1 g1 => by
    cases k with
    | false => exact q false G1 H1 F1 τ1 b1 p1 g1
    | true =>
      have p1 : WT c v τ1 fun k2 τ2 b2 => ΦT k2 τ2 (b1 && b2) := p1
      exact p1 σ G1 H1 F1 g1.ok _ fun k2 G2 H2 F2 τ2 b2 p2 g2 => q k2 G2 H2 F2 τ2 _ p2 (g1.trans g2)
theorem wt_or (h : WT c u τ fun k τ1 b1 => if k = true then ΦT true τ1 b1 else WT c v τ1 fun k2 τ2 b2 => ΦT k2 τ2 (b1 && b2)) : WT c (tOr u v) τ ΦT := fun σ G H F o Q q =>
  h σ G H F o _ fun k G1 H1 F1 τ1 b1 p1 g1 => by
    cases k with
    | true => exact q true G1 H1 F1 τ1 b1 p1 g1
    | false =>
      have p1 : WT c v τ1 fun k2 τ2 b2 => ΦT k2 τ2 (b1 && b2) := p1
      exact p1 σ G1 H1 F1 g1.ok _ fun k2 G2 H2 F2 τ2 b2 p2 g2 => q k2 G2 H2 F2 τ2 _ p2 (g1.trans g2)
theorem wt_not (h : WT c u τ fun k τ1 b1 => ΦT (!k) τ1 b1) : WT c (tNot u) τ ΦT := fun σ G H F o Q q =>
  h σ G H F o _ fun k G1 H1 F1 τ1 b1 p1 g1 => q (!k) G1 H1 F1 τ1 b1 p1 g1
theorem wt_yes (k : ΦT true τ true) : WT c tYes τ ΦT := fun σ G H F o Q q => q true G H F τ true k (Go.refl o)
theorem WT.imp {Φ' : Bool → Lc → Bool → Prop} (h : WT c u τ ΦT) (k : ∀ r τ' b, ΦT r τ' b → Φ' r τ' b) : WT c u τ Φ' := fun σ G H F o Q q => h σ G H F o Q fun v G' H' F' τ' b p => q v G' H' F' τ' b (k v τ' b p)
theorem WA.imp {Φ' : List Tg → Lc → Bool → Prop} (h : WA c t τ ΦA) (k : ∀ r τ' b, ΦA r τ' b → Φ' r τ' b) : WA c t τ Φ' := fun σ G H F o Q q => h σ G H F o Q fun v G' H' F' r τ' b p => q v G' H' F' r τ' b (k r τ' b p)
/-! ### and, or, not, if as values -/
theorem w_andV (h : W c ta τ fun r τ1 b1 => ∃ k, r = .dat (.bl k) ∧ if k = true then W c tb τ1 fun r2 τ2 b2 => Φ r2 τ2 (b1 && b2) else Φ (.dat (.bl false)) τ1 b1) : W c (tAndV ta tb) τ Φ := fun σ G H F o Q q =>
  h σ G H F o _ fun x G1 H1 F1 rx τ1 b1 p1 g1 s1 => by
    obtain ⟨k, rfl, p1⟩ := p1
    refine ⟨k, s1, ?_⟩
    cases k with
    | false => exact q _ G1 H1 F1 _ τ1 b1 p1 g1 rfl
    | true =>
      have p1 : W c tb τ1 fun r2 τ2 b2 => Φ r2 τ2 (b1 && b2) := p1
      exact p1 σ G1 H1 F1 g1.ok _ fun y G2 H2 F2 r2 τ2 b2 p2 g2 s2 => q y G2 H2 F2 r2 τ2 _ p2 (g1.trans g2) (s2.from g1.fr.t)
theorem w_orV (h : W c ta τ fun r τ1 b1 => ∃ k, r = .dat (.bl k) ∧ if k = true then Φ (.dat (.bl true)) τ1 b1 else W c tb τ1 fun r2 τ2 b2 => Φ r2 τ2 (b1 && b2)) : W c (tOrV ta tb) τ Φ := fun σ G H F o Q q =>
  h σ G H F o _ fun x G1 H1 F1 rx τ1 b1 p1 g1 s1 => by
    obtain ⟨k, rfl, p1⟩ := p1
    refine ⟨k, s1, ?_⟩
    cases k with
    | true => exact q _ G1 H1 F1 _ τ1 b1 p1 g1 rfl
    | false =>
      have p1 : W c tb τ1 fun r2 τ2 b2 => Φ r2 τ2 (b1 && b2) := p1
      exact p1 σ G1 H1 F1 g1.ok _ fun y G2 H2 F2 r2 τ2 b2 p2 g2 s2 => q y G2 H2 F2 r2 τ2 _ p2 (g1.trans g2) (s2.from g1.fr.t)
theorem w_notV (h : W c ta τ fun r τ1 b1 => ∃ k, r = .dat (.bl k) ∧ Φ (.dat (.bl (!k))) τ1 b1) : W c (tNotV ta) τ Φ := fun σ G H F o Q q =>
  h σ G H F o _ fun x G1 H1 F1 rx τ1 b1 p1 g1 s1 => by
    obtain ⟨k, rfl, p1⟩ := p1
    exact ⟨k, s1, q _ G1 H1 F1 _ τ1 b1 p1 g1 rfl⟩
theorem w_if (h : WT c u τ fun k τ1 b1 => if k = true then W c ta τ1 fun r2 τ2 b2 => Φ r2 τ2 (b1 && b2) else W c tb τ1 fun r2 τ2 b2 => Φ r2 τ2 (b1 && b2)) : W c (tIf u ta tb) τ Φ := fun σ G H F o Q q =>
  h σ G H F o _ fun k G1 H1 F1 τ1 b1 p1 g1 => by
    cases k with
    | true =>
      have p1 : W c ta τ1 fun r2 τ2 b2 => Φ r2 τ2 (b1 && b2) := p1
      exact p1 σ G1 H1 F1 g1.ok _ fun y G2 H2 F2 r2 τ2 b2 p2 g2 s2 => q y G2 H2 F2 r2 τ2 _ p2 (g1.trans g2) (s2.from g1.fr.t)
    | false =>
      have p1 : W c tb τ1 fun r2 τ2 b2 => Φ r2 τ2 (b1 && b2) := p1
      exact p1 σ G1 H1 F1 g1.ok _ fun y G2 H2 F2 r2 τ2 b2 p2 g2 s2 => q y G2 H2 F2 r2 τ2 _ p2 (g1.trans g2) (s2.from g1.fr.t)
/-! ### a < b < c -/
theorem w_chain {r r' : R2} (h : W c ta τ fun x τ1 b1 => W c tb τ1 fun y τ2 b2 => stb x b2 = true ∧ ∃ d e k, Dv τ2 x d ∧ Dv τ2 y e ∧ Op2 r d e (.bl k) ∧
    if k = true then W c tc τ2 fun z τ3 b3 => stb y b3 = true ∧ ∃ e' g f, Dv τ3 y e' ∧ Dv τ3 z g ∧ Op2 r' e' g f ∧ Φ (.dat f) τ3 (b1 && b2 && b3) else Φ (.dat (.bl false)) τ2 (b1 && b2)) : W c (tChain r r' ta tb tc) τ Φ := fun σ G H F o Q q =>
  h σ G H F o _ fun x G1 H1 F1 rx τ1 b1 p1 g1 s1 => p1 σ G1 H1 F1 g1.ok _ fun y G2 H2 F2 ry τ2 b2 p2 g2 s2 => by
    obtain ⟨hs, d, e, k, hd, he, hop, kk⟩ := p2
    refine hop G2 H2 x y g2.ok.ex g2.ok.tu (hd.rep g2.ok (s1.keep g2 hs)) (he.rep g2.ok s2) _ fun z G3 H3 f3 e3 t3 r3 => ?_
    have g3 := Go.grow g2.ok f3 e3 t3
    have gg := (g1.trans g2).trans g3
    rw [Bool.and_true] at gg
    refine ⟨k, r3, ?_⟩
    cases k with
    | false => exact q _ G3 H3 F2 _ τ2 _ kk gg rfl
    | true =>
      have kk : W c tc τ2 fun z τ3 b3 => stb ry b3 = true ∧ ∃ e' g f, Dv τ3 ry e' ∧ Dv τ3 z g ∧ Op2 r' e' g f ∧ Φ (.dat f) τ3 (b1 && b2 && b3) := kk
      refine kk σ G3 H3 F2 g3.ok _ fun z G4 H4 F4 rz τ4 b4 p4 g4 s4 => ?_
      obtain ⟨hs4, e', g, f, he', hg, hop', k4⟩ := p4
      have s2' := (s2.keep g3 (by cases ry <;> rfl)).keep g4 hs4
      refine hop' G4 H4 y z g4.ok.ex g4.ok.tu (he'.rep g4.ok s2') (hg.rep g4.ok s4) Q fun z' G5 H5 f5 e5 t5 r5 => ?_
      have g5 := Go.grow g4.ok f5 e5 t5
      have gg5 := (gg.trans g4).trans g5
      rw [Bool.and_true] at gg5
      exact q z' G5 H5 F4 _ τ4 _ k4 gg5 r5
/-! ### displays -/
/-- the values in flight as data of the persistent part -/
inductive Dps : List Tg → List DD → Prop
  | nil : Dps [] []
  | cons {d : DD} {rs : List Tg} {ds : List DD} (h : Dps rs ds) : Dps (.dat d :: rs) (d :: ds)
theorem Dps.rep {c : Cfg} {σ : L2.St} {H0 G H : Hp} {F : Nat → Addr → Prop} : ∀ {rs : List Tg} {ds : List DD} {vs : List V}, Dps rs ds → Paired (Rs c σ H0 G H F) rs vs → RepL G ds vs
  | _, _, _, .nil, .nil => rfl
  | _, _, _, .cons h, .cons r t => RepL.cons r (Dps.rep h t)
inductive Dvs (τ : Lc) : List Tg → List DD → Prop
  | nil : Dvs τ [] []
  | cons {r : Tg} {d : DD} {rs : List Tg} {ds : List DD} (g : Dv τ r d) (h : Dvs τ rs ds) : Dvs τ (r :: rs) (d :: ds)
theorem Dvs.rep {c : Cfg} {σ : L2.St} {H0 G H : Hp} {F : Nat → Addr → Prop} (o : Ok c τ σ G H F) : ∀ {rs : List Tg} {ds : List DD} {vs : List V}, Dvs τ rs ds → Paired (Rs c σ H0 G H F) rs vs → RepL H ds vs
  | _, _, _, .nil, .nil => rfl
  | _, _, _, .cons g h, .cons r t => RepL.cons (g.rep o r) (Dvs.rep o h t)
theorem sz_le {n : Nat} (h : n ≤ 100000) : n ≤ sizeLine := Nat.le_trans h (by decide)
theorem sz_lt {n : Nat} (h : n < 100000) : n < sizeLine := Nat.lt_of_lt_of_le h (by decide)
/-- (a, b, ..) of data -/
theorem w_tup (h : WA c t τ fun rs τ1 b1 => ∃ ds, Dps rs ds ∧ ds.length ≤ 100000 ∧ Φ (.dat (.tup ds)) τ1 b1) : W c (tTup t) τ Φ := fun σ G H F o Q q =>
  h σ G H F o _ fun vs G1 H1 F1 rs τ1 b1 p1 g1 s1 => by
    obtain ⟨ds, hd, hz, k⟩ := p1
    have rr := hd.rep s1
    refine ⟨by rw [rr.length]; exact sz_le hz, fun p hp => ?_⟩
    have g2 := Go.grow g1.ok (Fr.both (o := .tup vs) g1.ok.ex hp) (same_both g1.ok.ex) g1.ok.tu.both
    have gg := g1.trans g2
    rw [Bool.and_true] at gg
    exact q _ _ _ F1 _ τ1 b1 k gg ⟨p, vs, rfl, .inl upd_same, rr.mono g2.fr.g _ _⟩
/-- (a, b, ..) of what is only seen -/
theorem w_tupV (h : WA c t τ fun rs τ1 b1 => ∃ ds, Dvs τ1 rs ds ∧ ds.length ≤ 100000 ∧ Φ (.tmp (.tup ds)) τ1 b1) : W c (tTup t) τ Φ := fun σ G H F o Q q =>
  h σ G H F o _ fun vs G1 H1 F1 rs τ1 b1 p1 g1 s1 => by
    obtain ⟨ds, hd, hz, k⟩ := p1
    have rr := hd.rep g1.ok s1
    refine ⟨by rw [rr.length]; exact sz_le hz, fun p hp => ?_⟩
    have g2 := Go.grow g1.ok (Fr.both (o := .tup vs) g1.ok.ex hp) (same_both g1.ok.ex) g1.ok.tu.both
    have gg := g1.trans g2
    rw [Bool.and_true] at gg
    exact q _ _ _ F1 _ τ1 b1 k gg ⟨p, vs, rfl, .inl upd_same, rr.mono (Fr.both (o := .tup vs) (Same.refl H1) hp).same _ _⟩
theorem w_lst (h : WA c t τ fun rs τ1 b1 => ∃ ds, Dps rs ds ∧ ds.length ≤ 100000 ∧ Φ (.res true (ownL ds)) τ1 b1) : W c (tLst t) τ Φ := fun σ G H F o Q q =>
  h σ G H F o _ fun vs G1 H1 F1 rs τ1 b1 p1 g1 s1 => by
    obtain ⟨ds, hd, hz, k⟩ := p1
    have rr := hd.rep s1
    refine ⟨by rw [rr.length]; exact sz_le hz, fun p hp => ?_⟩
    have g2 := Go.grow g1.ok (Fr.new (G := G1) (o := .lst vs) hp) (same_new g1.ok.ex hp) (g1.ok.tu.new fun z => z)
    have gg := g1.trans g2
    rw [Bool.and_true] at gg
    refine q _ _ _ F1 _ τ1 b1 k gg ⟨rfl, _, ⟨p, vs, rfl, upd_same, rr, rfl⟩, fun a ha => ?_⟩
    subst ha
    refine ⟨?_, (by
    rw [upd_same]
    exact (fun z => by cases z)), ?_, fun i z => (g1.ok.own i a z).1 hp⟩
    · cases z : H a with
      | none => rfl
      | some w => exact absurd hp (g1.fr.t a (ne_none z))
    · cases z : G1 a with
      | none => rfl
      | some w =>
        have := g1.ok.ex a w z
        rw [hp] at this
        cases this
theorem w_lstV (h : WA c t τ fun rs τ1 b1 => ∃ ds, Dvs τ1 rs ds ∧ ds.length ≤ 100000 ∧ Φ (.tmp (.lst ds)) τ1 b1) : W c (tLst t) τ Φ := fun σ G H F o Q q =>
  h σ G H F o _ fun vs G1 H1 F1 rs τ1 b1 p1 g1 s1 => by
    obtain ⟨ds, hd, hz, k⟩ := p1
    have rr := hd.rep g1.ok s1
    refine ⟨by rw [rr.length]; exact sz_le hz, fun p hp => ?_⟩
    have g2 := Go.grow g1.ok (Fr.new (G := G1) (o := .lst vs) hp) (same_new g1.ok.ex hp) (g1.ok.tu.new fun z => z)
    have gg := g1.trans g2
    rw [Bool.and_true] at gg
    exact q _ _ _ F1 _ τ1 b1 k gg ⟨p, vs, rfl, upd_same, rr.mono (Fr.new (G := G1) (o := .lst vs) hp).same _ _⟩
/-- a tuple whose object is known is a tuple -/
theorem tpl_tup {G : Hp} {xs : List DD} {v : V} (h : Rep G (.tpl xs) v) : Rep G (.tup xs) v := by
  obtain ⟨a, vs, o, h1, h2, h3⟩ := h
  exact ⟨a, vs, h1, .inr ⟨o, h2.1⟩, h3⟩
theorem w_tpl (h : W c te τ fun x τ1 b1 => ∃ xs, x = .dat (.tpl xs) ∧ Φ (.dat (.tup xs)) τ1 b1) : W c te τ Φ := fun σ G H F o Q q =>
  h σ G H F o _ fun x G1 H1 F1 rx τ1 b1 p1 g1 s1 => by
    obtain ⟨xs, rfl, k⟩ := p1
    exact q x G1 H1 F1 _ τ1 b1 k g1 (tpl_tup s1)
/-! ### a built-in called: by values, clean -/
/-- on data: the result -/
def OpA (r : List V → Hp → VK → Prop) (ds : List DD) (f : DD) : Prop := ∀ (G H : Hp) (xs : List V), Same G H → Tu G H → RepL H ds xs → ∀ Q : VK, (∀ z G' H', Fr No G H G' H' → Same G' H' → Tu G' H' → Rep G' f z → Q z H') → r xs H Q
/-- a new list of data -/
def OpAL (r : List V → Hp → VK → Prop) (ds es : List DD) : Prop := ∀ (G H : Hp) (xs : List V), Same G H → RepL G ds xs → ∀ Q : VK, (∀ p vs, H p = none → RepL G es vs → Q (.ref p) (upd H p (.lst vs))) → r xs H Q
theorem w_callB {r : List V → Hp → VK → Prop} (h : WA c t τ fun rs τ1 b1 => ∃ ds f, Dvs τ1 rs ds ∧ OpA r ds f ∧ Φ (.dat f) τ1 b1) : W c (tCB r t) τ Φ := fun σ G H F o Q q =>
  h σ G H F o _ fun vs G1 H1 F1 rs τ1 b1 p1 g1 s1 => by
    obtain ⟨ds, f, hd, hop, k⟩ := p1
    refine hop G1 H1 vs g1.ok.ex g1.ok.tu (hd.rep g1.ok s1) Q fun z G3 H3 f3 e3 t3 r3 => ?_
    have gg := g1.trans (Go.grow g1.ok f3 e3 t3)
    rw [Bool.and_true] at gg
    exact q z G3 H3 F1 (.dat f) τ1 _ k gg r3
/-- values whose items are data, though the list may be one's own -/
inductive Dl (τ : Lc) : Tg → DD → Prop
  | dat {d : DD} : Dl τ (.dat d) d
  | fre {ds : List DD} : Dl τ (.res true (ownL ds)) (.lst ds)
  | ali {i : Nat} {l : Bool} {ds : List DD} (h : τ[i]? = some (some (.res l (ownL ds)))) : Dl τ (.ali i) (.lst ds)
/-- what such a value is: the list itself in the heap at hand, its items persistent -/
theorem Dl.lst {c : Cfg} {σ : L2.St} {H0 G H : Hp} {F : Nat → Addr → Prop} {r : Tg} {ds : List DD} {v : V} (h : Dl τ r (.lst ds)) (o : Ok c τ σ G H F) (q : Rs c σ H0 G H F r v) : ∃ p vs, v = V.ref p ∧ H p = some (.lst vs) ∧ RepL G ds vs := by
  cases h with
  | dat =>
    obtain ⟨p, vs, h1, h2, h3⟩ := q
    exact ⟨p, vs, h1, o.ex _ _ h2, h3⟩
  | fre =>
    obtain ⟨_, A, ⟨p, vs, h1, h2, h3, _⟩, _⟩ := q
    exact ⟨p, vs, h1, h2, h3⟩
  | ali h =>
    obtain ⟨u, h1, p, vs, h2, h3, h4, _⟩ := o.rs _ _ _ h
    have e : u = v := by
      have q' : σ[_]? = some (some v) := q
      rw [h1] at q'
      exact Option.some.inj (Option.some.inj q')
    subst e
    exact ⟨p, vs, h2, h3, h4⟩
theorem Dl.tup {c : Cfg} {σ : L2.St} {H0 G H : Hp} {F : Nat → Addr → Prop} {r : Tg} {ds : List DD} {v : V} (h : Dl τ r (.tup ds)) (o : Ok c τ σ G H F) (q : Rs c σ H0 G H F r v) : ∃ p vs, v = V.ref p ∧ Rd H p (.tup vs) ∧ RepL G ds vs := by
  cases h with
  | dat =>
    obtain ⟨p, vs, h1, h2, h3⟩ := q
    exact ⟨p, vs, h1, rd_mono o.ex h2, h3⟩
/-- a rule that makes a new list of one seen list or tuple -/
def MkL (r : List V → Hp → VK → Prop) (d : DD) (es : List DD) : Prop := ∀ (G H : Hp) (p : Addr) (vs : List V), Same G H → (∀ Q : VK, (∃ ds, (d = .lst ds ∧ H p = some (.lst vs) ∨ d = .tup ds ∧ Rd H p (.tup vs)) ∧ RepL G ds vs) → (∀ p ws, H p = none → RepL G es ws → Q (.ref p) (upd H p (.lst ws))) → r [.ref p] H Q)
theorem new_own {c : Cfg} {σ : L2.St} {G H G1 H1 : Hp} {F F1 : Nat → Addr → Prop} {τ1 : Lc} {b1 : Bool} {p : Addr} {vs : List V} {ds : List DD} (g1 : Go b1 c τ1 σ G H F G1 H1 F1) (hp : H1 p = none) (rr : RepL G1 ds vs) :
    Go b1 c τ1 σ G H F G1 (upd H1 p (.lst vs)) F1 ∧ Rs c σ H G1 (upd H1 p (.lst vs)) F1 (.res true (ownL ds)) (.ref p) := by
  have g2 := Go.grow g1.ok (Fr.new (G := G1) (o := .lst vs) hp) (same_new g1.ok.ex hp) (g1.ok.tu.new fun z => z)
  have gg := g1.trans g2
  rw [Bool.and_true] at gg
  refine ⟨gg, rfl, _, ⟨p, vs, rfl, upd_same, rr, rfl⟩, fun a ha => ?_⟩
  subst ha
  refine ⟨?_, (by
    rw [upd_same]
    exact (fun z => by cases z)), ?_, fun i z => (g1.ok.own i a z).1 hp⟩
  · cases z : H a with
    | none => rfl
    | some w => exact absurd hp (g1.fr.t a (ne_none z))
  · cases z : G1 a with
    | none => rfl
    | some w =>
      have := g1.ok.ex a w z
      rw [hp] at this
      cases this
theorem w_mkL {r : List V → Hp → VK → Prop} (h : W c ta τ fun x τ1 b1 => ∃ d es, Dl τ1 x d ∧ MkL r d es ∧ ((∃ ds, d = .lst ds) ∨ ∃ ds, d = .tup ds) ∧ Φ (.res true (ownL es)) τ1 b1) : W c (tCB r (tCons ta tNil)) τ Φ := fun σ G H F o Q q =>
  h σ G H F o _ fun x G1 H1 F1 rx τ1 b1 p1 g1 s1 => by
    obtain ⟨d, es, hd, hop, hk, k⟩ := p1
    show r [x] H1 Q
    rcases hk with ⟨ds, rfl⟩ | ⟨ds, rfl⟩
    · obtain ⟨p, vs, rfl, h2, h3⟩ := hd.lst g1.ok s1
      exact hop G1 H1 p vs g1.ok.ex Q ⟨ds, .inl ⟨rfl, h2⟩, h3⟩ fun p' ws hp rr => let ⟨a, b⟩ := new_own g1 hp rr; q _ _ _ F1 _ τ1 b1 k a b
    · obtain ⟨p, vs, rfl, h2, h3⟩ := hd.tup g1.ok s1
      exact hop G1 H1 p vs g1.ok.ex Q ⟨ds, .inr ⟨rfl, h2⟩, h3⟩ fun p' ws hp rr => let ⟨a, b⟩ := new_own g1 hp rr; q _ _ _ F1 _ τ1 b1 k a b
/-! ### fields -/
def lkp : List Str → List DD → Str → Option DD
  | n :: ns, d :: ds, f => if f = n then some d else lkp ns ds f
  | _, _, _ => none
theorem lkp_rep {G : Hp} : ∀ {ns : List Str} {ds : List DD} {vs : List V} {f : Str} {d : DD}, lkp ns ds f = some d → RepL G ds vs → ∃ v, (ns.zip vs).lookup f = some v ∧ Rep G d v
  | [], _, _, _, _, h, _ => by simp [lkp] at h
  | _ :: _, [], _, _, _, h, _ => by simp [lkp] at h
  | n :: ns, x :: ds, _, f, d, h, q => by
    obtain ⟨v, r, rfl, h2, h3⟩ := q
    unfold lkp at h
    by_cases e : f = n
    · rw [if_pos e] at h
      have e2 : x = d := Option.some.inj h
      subst e e2
      exact ⟨v, by simp [List.zip_cons_cons], h2⟩
    · rw [if_neg e] at h
      obtain ⟨u, h4, h5⟩ := lkp_rep (vs := r) h h3
      refine ⟨u, ?_, h5⟩
      have e' : (f == n) = false := by simp [e]
      simp [List.zip_cons_cons, List.lookup_cons, e', h4]
theorem zip_none {β : Type} : ∀ {ns : List Str} {vs : List β} {m : Str}, ns.elem m = false → (ns.zip vs).lookup m = none
  | [], _, _, _ => rfl
  | _ :: _, [], _, _ => rfl
  | n :: ns, v :: vs, m, h => by
    have h1 : (m == n) = false ∧ ns.elem m = false := by
      rw [List.elem_cons] at h
      cases z : (m == n) with
      | true => rw [z] at h; cases h
      | false =>
        rw [z] at h
        exact ⟨rfl, h⟩
    rw [List.zip_cons_cons, List.lookup_cons, h1.1]
    exact zip_none h1.2
theorem w_fld {K : PySem.W.Frag} {f : Str} (h : W c ta τ fun x τ1 b1 => ∃ C ns xs d, x = .dat (.obj C ns xs) ∧ Cls K C ∧ NoAttr K C f ∧ lkp ns xs f = some d ∧ Φ (.dat d) τ1 b1) : W c (tFld K ta f) τ Φ := fun σ G H F o Q q =>
  h σ G H F o _ fun x G1 H1 F1 rx τ1 b1 p1 g1 s1 => by
    obtain ⟨C, ns, xs, d, rfl, hc, hn, hl, k⟩ := p1
    obtain ⟨a, dx, vs, rfl, h2, h3, h4⟩ := s1
    obtain ⟨v, h5, h6⟩ := lkp_rep hl h4
    exact ⟨a, C, dx, _, v, rfl, g1.ok.ex _ _ h2, hc, hn, h5, q v G1 H1 F1 _ τ1 b1 k g1 h6⟩
/-- of an instance that is one's own -/
theorem w_fldO {K : PySem.W.Frag} {f : Str} (h : W c ta τ fun x τ1 b1 => ∃ i l C ns xs d, x = .ali i ∧ τ1[i]? = some (some (.res l (ownI C ns xs))) ∧ Cls K C ∧ NoAttr K C f ∧ lkp ns xs f = some d ∧ Φ (.dat d) τ1 b1) : W c (tFld K ta f) τ Φ := fun σ G H F o Q q =>
  h σ G H F o _ fun x G1 H1 F1 rx τ1 b1 p1 g1 s1 => by
    obtain ⟨i, l, C, ns, xs, d, rfl, hi, hc, hn, hl, k⟩ := p1
    obtain ⟨u, h1, a, dx, vs, h2, h3, h7, h4, _⟩ := g1.ok.rs _ _ _ hi
    have e : u = x := by
      have q' : σ[i]? = some (some x) := s1
      rw [h1] at q'
      exact Option.some.inj (Option.some.inj q')
    subst e
    obtain ⟨v, h5, h6⟩ := lkp_rep hl h4
    exact ⟨a, C, dx, _, v, h2, h3, hc, hn, h5, q v G1 H1 F1 _ τ1 b1 k g1 h6⟩
end
/-! ### statements -/
structure AE where
  nx : Lc → Prop
  rt : Tg → Lc → Prop
  bk : Lc → Prop := fun _ => False
  ct : Lc → Prop := fun _ => False
/-- what is handed back -/
def Rt (c : Cfg) (G' H' : Hp) (F' : Nat → Addr → Prop) : Tg → V → Prop
  | .dat d, v => Rep G' d v
  | .vol d, v => ∃ Gv : Hp, (∀ a o, Gv a = some o → c.H0 a = some o ∧ ¬ c.X a) ∧ Rep Gv d v
  | .tmp d, v => Rep H' d v
  | .res l R, v => l = true ∧ ∃ A, R.φ v G' H' A ∧ ∀ a, A a → c.H0 a = none ∧ H' a ≠ none ∧ G' a = none ∧ ∀ p ∈ c.P, ¬ F' p.1 a
  | .ali i, v => False
structure Lnk (c : Cfg) (G : Hp) (D : AE) (De : L2.Ends) : Prop where
  nx : ∀ τ' σ' G' H' F', D.nx τ' → Ok c τ' σ' G' H' F' → Same G G' → De.nx σ' H'
  rt : ∀ r τ' σ' G' H' F' v, D.rt r τ' → Ok c τ' σ' G' H' F' → Rt c G' H' F' r v → De.rt v H'
  bk : ∀ τ' σ' G' H' F', D.bk τ' → Ok c τ' σ' G' H' F' → Same G G' → De.bk σ' H'
  ct : ∀ τ' σ' G' H' F', D.ct τ' → Ok c τ' σ' G' H' F' → Same G G' → De.ct σ' H'
def WS (c : Cfg) (ts : TS) (τ : Lc) (D : AE) : Prop := ∀ (σ : L2.St) (G H : Hp) (F : Nat → Addr → Prop), Ok c τ σ G H F → ∀ De : L2.Ends, Lnk c G D De → ts De σ H
theorem Lnk.from {c : Cfg} {G G1 : Hp} {D : AE} {De : L2.Ends} (l : Lnk c G D De) (e : Same G G1) : Lnk c G1 D De :=
  ⟨fun τ' σ' G' H' F' a o s => l.nx τ' σ' G' H' F' a o (e.trans s), l.rt, fun τ' σ' G' H' F' a o s => l.bk τ' σ' G' H' F' a o (e.trans s), fun τ' σ' G' H' F' a o s => l.ct τ' σ' G' H' F' a o (e.trans s)⟩
/-- what is in flight is no resource -/
inductive Pl : Tg → Prop
  | dat {d : DD} : Pl (.dat d)
  | vol {d : DD} : Pl (.vol d)
/-- what a target's assignment leaves -/
def WG (c : Cfg) (g : TG) (r : Tg) (τ : Lc) (N : Lc → Prop) : Prop := ∀ (σ : L2.St) (G H : Hp) (F : Nat → Addr → Prop) (v : V), Ok c τ σ G H F → Rs c σ c.H0 G H F r v → ∀ Q : L2.St → Hp → Prop, (∀ τ' σ' G' H' F', N τ' → Ok c τ' σ' G' H' F' → Fr No G H G' H' → (Pl r → ∀ (i : Nat) (a : Addr), F' i a → F i a) → Q σ' H') → g v σ H Q
section
variable {c : Cfg} {τ τ1 : Lc} {D D' : AE} {ts tu : TS} {te ta tb : TE} {i j : Nat} {t : Tg} {g : TG} {tt : TT}
theorem WS.imp (h : WS c ts τ D) (h1 : ∀ τ, D.nx τ → D'.nx τ) (h2 : ∀ r τ, D.rt r τ → D'.rt r τ) (h3 : ∀ τ, D.bk τ → D'.bk τ) (h4 : ∀ τ, D.ct τ → D'.ct τ) : WS c ts τ D' := fun σ G H F o De l => h σ G H F o De
  ⟨fun τ' σ' G' H' F' a => l.nx τ' σ' G' H' F' (h1 _ a), fun r τ' σ' G' H' F' v a => l.rt r τ' σ' G' H' F' v (h2 _ _ a), fun τ' σ' G' H' F' a => l.bk τ' σ' G' H' F' (h3 _ a), fun τ' σ' G' H' F' a => l.ct τ' σ' G' H' F' (h4 _ a)⟩
theorem ws_next (h : D.nx τ) : WS c tNext τ D := fun σ G H F o De l => l.nx τ σ G H F h o (Same.refl G)
theorem ws_seq (h : WS c ts τ { D with nx := fun τ' => WS c tu τ' D }) : WS c (tSeq ts tu) τ D := fun σ G H F o De l =>
  h σ G H F o _ ⟨fun τ' σ' G' H' F' a o' s => a σ' G' H' F' o' De (l.from s), l.rt, l.bk, l.ct⟩
theorem ws_brk (h : D.bk τ) : WS c tBreak τ D := fun σ G H F o De l => l.bk τ σ G H F h o (Same.refl G)
theorem ws_cont (h : D.ct τ) : WS c tCont τ D := fun σ G H F o De l => l.ct τ σ G H F h o (Same.refl G)
theorem ws_if (h : WT c tt τ fun k τ1 _ => if k = true then WS c ts τ1 D else WS c tu τ1 D) : WS c (tIfS tt ts tu) τ D := fun σ G H F o De l =>
  h σ G H F o _ fun k G1 H1 F1 τ1 b1 p1 g1 => by
    cases k with
    | true => exact (show WS c ts τ1 D from p1) σ G1 H1 F1 g1.ok De (l.from g1.fr.g)
    | false => exact (show WS c tu τ1 D from p1) σ G1 H1 F1 g1.ok De (l.from g1.fr.g)
theorem ws_expr (h : W c te τ fun _ τ1 _ => D.nx τ1) : WS c (tDrop te) τ D := fun σ G H F o De l =>
  h σ G H F o _ fun v G1 H1 F1 r τ1 b1 p1 g1 s1 => l.nx τ1 σ G1 H1 F1 p1 g1.ok g1.fr.g
theorem ws_retN (h : D.rt (.dat .non) τ) : WS c tRetN τ D := fun σ G H F o De l => l.rt (.dat .non) τ σ G H F .non h o rfl
/-- what a value in flight may be handed back as -/
inductive Rtk (τ : Lc) : Tg → Tg → Prop
  | dat {d : DD} : Rtk τ (.dat d) (.dat d)
  | vol {d : DD} : Rtk τ (.vol d) (.vol d)
  | tmp {d : DD} : Rtk τ (.tmp d) (.tmp d)
  | res {R : Rsc} : Rtk τ (.res true R) (.res true R)
  | ali {i : Nat} {R : Rsc} (h : τ[i]? = some (some (.res true R))) : Rtk τ (.ali i) (.res true R)
theorem ws_ret (h : W c te τ fun r τ1 _ => ∃ r', Rtk τ1 r r' ∧ D.rt r' τ1) : WS c (tRet te) τ D := fun σ G H F o De l =>
  h σ G H F o _ fun v G1 H1 F1 r τ1 b1 p1 g1 s1 => by
    obtain ⟨r', hr, hd⟩ := p1
    refine l.rt r' τ1 σ G1 H1 F1 v hd g1.ok ?_
    cases hr with
    | dat => exact s1
    | vol => exact s1
    | tmp => exact s1
    | res =>
      obtain ⟨h1, A, h2, h3⟩ := s1
      refine ⟨rfl, A, h2, fun a ha => ?_⟩
      obtain ⟨q1, q2, q3, q4⟩ := h3 a ha
      refine ⟨?_, q2, q3, fun p _ => q4 p.1⟩
      cases z : c.H0 a with
      | none => rfl
      | some w => exact absurd q1 (o.fr.t a (ne_none z))
    | ali hi =>
      obtain ⟨u, h1, h2⟩ := g1.ok.rs _ _ _ hi
      have e : u = v := by
        have q' : σ[_]? = some (some v) := s1
        rw [h1] at q'
        exact Option.some.inj (Option.some.inj q')
      subst e
      refine ⟨rfl, _, h2, fun a ha => ?_⟩
      obtain ⟨q1, q2, l', R', q3, q4⟩ := g1.ok.own _ a ha
      rw [hi] at q3
      cases q3
      refine ⟨?_, q1, q2, fun p hp z => ?_⟩
      · rcases q4 with q4 | q4
        · exact q4
        · cases q4.1
      · obtain ⟨R', q5⟩ := (g1.ok.pn p hp).2
        refine g1.ok.dj p.1 _ a (fun e => ?_) z ha
        rw [e, hi] at q5
        cases q5
/-- a slot may be stored to: it holds nothing that was handed in to be changed -/
def free (τ : Lc) (i : Nat) : Prop := ∀ R, τ[i]? ≠ some (some (.res false R))
/-- what a slot holds of a value in flight -/
inductive Stk : Tg → Tg → Prop
  | dat {d : DD} : Stk (.dat d) (.dat d)
  | vol {d : DD} : Stk (.vol d) (.vol d)
  | res {R : Rsc} : Stk (.res true R) (.res true R)
theorem Ok.store {c : Cfg} {σ : L2.St} {H0 G H : Hp} {F : Nat → Addr → Prop} {r : Tg} {v : V} (o : Ok c τ σ G H F) (hf : free τ i) (hi : i < τ.length) (hr : Stk r t) (s : Rs c σ H0 G H F r v) (t0 : ∀ a, c.H0 a ≠ none → H0 a ≠ none) :
    ∃ F', Ok c (τ.set i (some t)) (σ.set i (some v)) G H F' ∧ (Pl r → ∀ (i : Nat) (a : Addr), F' i a → F i a) := by
  have hσ : i < σ.length := by rw [o.len]; exact hi
  have gt : ∀ j : Nat, j ≠ i → (τ.set i (some t))[j]? = τ[j]? := fun j h => List.getElem?_set_ne (fun z => h z.symm)
  have gs : ∀ j : Nat, j ≠ i → (σ.set i (some v))[j]? = σ[j]? := fun j h => List.getElem?_set_ne (fun z => h z.symm)
  have gti : (τ.set i (some t))[i]? = some (some t) := by rw [List.getElem?_set_self hi]
  have gsi : (σ.set i (some v))[i]? = some (some v) := by rw [List.getElem?_set_self hσ]
  have npin : ∀ p ∈ c.P, p.1 ≠ i := fun p hp e => by
    obtain ⟨R, q⟩ := (o.pn p hp).2
    rw [e] at q
    exact hf R q
  obtain ⟨A, hA, hA2⟩ : ∃ A : Addr → Prop, (∀ l R, t = .res l R → l = true ∧ R.φ v G H A) ∧ (∀ a, A a → c.H0 a = none ∧ H a ≠ none ∧ G a = none ∧ (∀ i, ¬ F i a) ∧ ∃ R, t = .res true R) := by
    cases hr with
    | dat => exact ⟨fun _ => False, (fun _ _ z => nomatch z), fun _ z => z.elim⟩
    | vol => exact ⟨fun _ => False, (fun _ _ z => nomatch z), fun _ z => z.elim⟩
    | @res R =>
      obtain ⟨h1, A, h2, h3⟩ := s
      refine ⟨A, fun l R' z => ?_, fun a ha => ?_⟩
      · cases z
        exact ⟨rfl, h2⟩
      · obtain ⟨q1, q2, q3, q4⟩ := h3 a ha
        refine ⟨?_, q2, q3, q4, R, rfl⟩
        cases z : c.H0 a with
        | none => rfl
        | some w => exact absurd q1 (t0 a (ne_none z))
  refine ⟨fun j => if j = i then A else F j, ?_, fun hp j a z => ?_⟩
  rotate_left
  · have z : (if j = i then A else F j) a := z
    by_cases e : j = i
    · rw [if_pos e] at z
      obtain ⟨_, _, _, _, R, q⟩ := hA2 a z
      subst q
      cases hr
      cases hp
    · rw [if_neg e] at z
      exact z
  constructor
  · exact o.ex
  · exact o.tu
  · exact o.fr
  · rw [List.length_set, List.length_set, o.len]
  · intro j u h
    by_cases e : j = i
    · subst e
      rw [gti] at h
      cases h
      refine ⟨v, gsi, ?_⟩
      cases hr with
      | dat => exact s
      | vol => exact s
      | res => exact True.intro
    · rw [gt j e] at h
      obtain ⟨w, h1, h2⟩ := o.sl j u h
      exact ⟨w, by rw [gs j e]; exact h1, h2⟩
  · intro j l R h
    by_cases e : j = i
    · subst e
      rw [gti] at h
      cases h
      obtain ⟨q1, q2⟩ := hA l R rfl
      refine ⟨v, gsi, ?_⟩
      rw [if_pos rfl]
      exact q2
    · rw [gt j e] at h
      obtain ⟨w, h1, h2⟩ := o.rs j l R h
      refine ⟨w, by rw [gs j e]; exact h1, ?_⟩
      rw [if_neg e]
      exact h2
  · intro j a h
    by_cases e : j = i
    · subst e
      rw [if_pos rfl] at h
      obtain ⟨q1, q2, q3, q4, R, q5⟩ := hA2 a h
      subst q5
      exact ⟨q2, q3, true, R, gti, .inl q1⟩
    · rw [if_neg e] at h
      obtain ⟨q1, q2, l, R, q3, q4⟩ := o.own j a h
      exact ⟨q1, q2, l, R, by rw [gt j e]; exact q3, q4⟩
  · intro j k a hjk h1 h2
    by_cases e : j = i
    · subst e
      rw [if_pos rfl] at h1
      rw [if_neg (Ne.symm hjk)] at h2
      exact (hA2 a h1).2.2.2.1 k h2
    · rw [if_neg e] at h1
      by_cases e2 : k = i
      · subst e2
        rw [if_pos rfl] at h2
        exact (hA2 a h2).2.2.2.1 j h1
      · rw [if_neg e2] at h2
        exact o.dj j k a hjk h1 h2
  · intro p hp
    obtain ⟨h1, R, h2⟩ := o.pn p hp
    exact ⟨by rw [gs _ (npin p hp)]; exact h1, R, by rw [gt _ (npin p hp)]; exact h2⟩
theorem wg_name {r : Tg} {N : Lc → Prop} (hr : Stk r t) (hf : free τ i) (hi : i < τ.length) (h : N (τ.set i (some t))) : WG c (gName i) r τ N := fun σ G H F v o s Q q => by
  obtain ⟨F', o', hp⟩ := o.store hf hi hr s fun _ z => z
  exact q _ _ G H F' h o' Fr.refl hp
theorem ws_asg (h : W c te τ fun r τ1 _ => WG c g r τ1 D.nx) : WS c (tAsg te g) τ D := fun σ G H F o De l =>
  h σ G H F o _ fun v G1 H1 F1 r τ1 b1 p1 g1 s1 => p1 σ G1 H1 F1 v g1.ok (Rs.from s1 o.fr.t) De.nx fun τ' σ' G' H' F' n o' s _ => l.nx τ' σ' G' H' F' n o' (g1.fr.g.trans s.g)
end
end Z
set_option Elab.async false
set_option linter.all false
set_option maxRecDepth 100000
/-! Z3: promises, calls, loops, comprehensions. -/
namespace Z
open PySem PySem.Spec PyProof.Rows L2
/-! ### promises -/
/-- an exception of a class of the program that may be let out, with its fields -/
abbrev Xn := Addr → List Str → List DD → Prop
def X0 : Xn := fun _ _ _ => False
abbrev Spec := List Tg → (Tg → List Tg → Prop) → Xn → Prop
def AOk (as : List Tg) (vs : List V) (G H : Hp) (F : Nat → Addr → Prop) : Prop := Ok ⟨fun a => ∃ i, F i a, G, H, []⟩ (as.map some) (vs.map some) G H F
structure ABk (as' : List Tg) (vs : List V) (H : Hp) (F : Nat → Addr → Prop) (G' H' : Hp) (F' : Nat → Addr → Prop) : Prop where
  ex : Same G' H'
  tu : Tu G' H'
  rs : ∀ (i : Nat) (l : Bool) (R : Rsc), as'[i]? = some (.res l R) → ∃ v, vs[i]? = some v ∧ R.φ v G' H' (F' i)
  own : ∀ (i : Nat) (a : Addr), F' i a → H' a ≠ none ∧ G' a = none ∧ ∃ l R, as'[i]? = some (.res l R)
  fp : ∀ (i : Nat) (a : Addr), F' i a → (∃ j, F j a) ∨ H a = none
  dj : ∀ (i j : Nat) (a : Addr), i ≠ j → F' i a → F' j a → False
/-- the value handed back -/
def Rr (H G' H' : Hp) (F' : Nat → Addr → Prop) : Tg → V → Prop
  | .dat d, v => Rep G' d v
  | .vol d, v => Rep H' d v
  | .tmp d, v => Rep H' d v
  | .res l R, v => l = true ∧ ∃ A, R.φ v G' H' A ∧ ∀ a, A a → H a = none ∧ H' a ≠ none ∧ G' a = none ∧ ∀ i, ¬ F' i a
  | .ali i, v => False
def FP (S : Spec) : Sp := fun vs H Q E => ∃ (G : Hp) (as : List Tg) (F : Nat → Addr → Prop) (Ψ : Tg → List Tg → Prop) (Ξ : Xn), AOk as vs G H F ∧ S as Ψ Ξ ∧
  (∀ v G' H' F' r as', Ψ r as' → Fr (fun a => ∃ i, F i a) G H G' H' → ABk as' vs H F G' H' F' → Rr H G' H' F' r v → Q v H') ∧
  (∀ C ns xs d ws G' H', Ξ C ns xs → Fr (fun a => ∃ i, F i a) G H G' H' → Same G' H' → Tu G' H' → H' d = some (.xd (ns.zip ws)) → ns.length = ws.length → RepL G' xs ws → E (.ref C) (some d) H')
/-- what is wanted of exceptions is kept by what the code may let out -/
def Pas (c : Cfg) (Ξ : Xn) (E : XK) : Prop := ∀ C ns xs d ws G' H', Ξ C ns xs → Fr c.X c.G0 c.H0 G' H' → Same G' H' → Tu G' H' → H' d = some (.xd (ns.zip ws)) → ns.length = ws.length → RepL G' xs ws → E (.ref C) (some d) H'
theorem pas0 {c : Cfg} : Pas c X0 E0 := fun _ _ _ _ _ _ _ h => h.elim
theorem Pas.imp {c : Cfg} {Ξ Ξ' : Xn} {E : XK} (h : Pas c Ξ E) (k : ∀ C ns xs, Ξ' C ns xs → Ξ C ns xs) : Pas c Ξ' E := fun C ns xs d ws G' H' a => h C ns xs d ws G' H' (k _ _ _ a)
/-- the parameters behind the body -/
def backs : List Tg → Lc → List Tg
  | [], _ => []
  | .res _ _ :: as, t :: τ => t.getD (.dat .non) :: backs as τ
  | a :: as, _ :: τ => a :: backs as τ
  | a :: as, [] => .dat .non :: backs as []
theorem backs_res : ∀ {as : List Tg} {τ : Lc} {i : Nat} {l : Bool} {R : Rsc}, (backs as τ)[i]? = some (.res l R) → τ[i]? = some (some (.res l R)) ∧ ∃ l' R', as[i]? = some (.res l' R')
  | [], _, i, _, _, h => by simp [backs] at h
  | a :: as, [], 0, l, R, h => by
    simp [backs] at h
  | a :: as, [], i + 1, l, R, h => by
    have h' : (backs as [])[i]? = some (.res l R) := by cases a <;> simpa [backs] using h
    obtain ⟨h1, _⟩ := backs_res h'
    simp at h1
  | a :: as, t :: τ, 0, l, R, h => by
    cases a with
    | res l' R' =>
      cases t with
      | none => simp [backs] at h
      | some u =>
        have e : u = .res l R := by simpa [backs] using h
        subst e
        exact ⟨rfl, l', R', rfl⟩
    | dat d => simp [backs] at h
    | vol d => simp [backs] at h
    | tmp d => simp [backs] at h
    | ali d => simp [backs] at h
  | a :: as, t :: τ, i + 1, l, R, h => by
    have h' : (backs as τ)[i]? = some (.res l R) := by cases a <;> simpa [backs] using h
    obtain ⟨h1, l', R', h2⟩ := backs_res h'
    exact ⟨by simpa using h1, l', R', by simpa using h2⟩
def isRes : Tg → Bool
  | .res _ _ => true
  | _ => false
theorem isRes_of {t : Tg} (h : isRes t = true) : ∃ l R, t = .res l R := by
  cases t with
  | res l R => exact ⟨l, R, rfl⟩
  | dat d => cases h
  | vol d => cases h
  | tmp d => cases h
  | ali d => cases h
def pinAt (t : Option Tg) (v : Option V) (i : Nat) : Option (Nat × V) := t.bind fun t => v.bind fun v => if isRes t then some (i, v) else none
def pinsOf (as : List Tg) (vs : List V) : List (Nat × V) := (List.range as.length).filterMap fun i => pinAt as[i]? vs[i]? i
theorem mem_pinsOf {as : List Tg} {vs : List V} {p : Nat × V} (h : p ∈ pinsOf as vs) : vs[p.1]? = some p.2 ∧ ∃ l R, as[p.1]? = some (.res l R) := by
  obtain ⟨i, _, e⟩ := List.mem_filterMap.mp h
  cases h1 : as[i]? with
  | none => rw [h1] at e; cases e
  | some a =>
    cases h2 : vs[i]? with
    | none => rw [h1, h2] at e; cases e
    | some v =>
      rw [h1, h2] at e
      have e : (if isRes a = true then some (i, v) else none) = some p := e
      by_cases z : isRes a = true
      · rw [if_pos z] at e
        cases e
        obtain ⟨l, R, q⟩ := isRes_of z
        subst q
        exact ⟨h2, l, R, h1⟩
      · rw [if_neg z] at e
        cases e
theorem pinsOf_mem {as : List Tg} {vs : List V} {i : Nat} {l : Bool} {R : Rsc} {v : V} (h1 : as[i]? = some (.res l R)) (h2 : vs[i]? = some v) : (i, v) ∈ pinsOf as vs := by
  have hi : i < as.length := (List.getElem?_eq_some_iff.mp h1).1
  refine List.mem_filterMap.mpr ⟨i, List.mem_range.mpr hi, ?_⟩
  rw [h1, h2]
  rfl
/-- what is handed in to be changed is handed in as such -/
def Plain (as : List Tg) : Prop := ∀ a ∈ as, (∀ l R, a = .res l R → l = false) ∧ (∀ d, a ≠ .tmp d) ∧ ∀ i, a ≠ .ali i
def startT (n : Nat) (as : List Tg) : Lc := as.map some ++ List.replicate (n - as.length) none
theorem start_get {α : Type} {xs : List α} {n i : Nat} {x : α} (h : (xs.map some ++ List.replicate n none)[i]? = some (some x)) : xs[i]? = some x := by
  by_cases hi : i < xs.length
  · rw [List.getElem?_append_left (by simpa using hi), List.getElem?_map] at h
    cases z : xs[i]? with
    | none => rw [z] at h; cases h
    | some y => rw [z] at h; simpa using h
  · rw [List.getElem?_append_right (by simpa using hi)] at h
    have := List.getElem?_eq_some_iff.mp h
    obtain ⟨q, e⟩ := this
    rw [List.getElem_replicate] at e
    cases e
theorem start_of {α : Type} {xs : List α} {n i : Nat} {x : α} (h : xs[i]? = some x) : (xs.map some ++ List.replicate n none)[i]? = some (some x) := by
  have hi := (List.getElem?_eq_some_iff.mp h).1
  rw [List.getElem?_append_left (by simpa using hi), List.getElem?_map, h]
  rfl
/-- THE RULE for a body -/
theorem fp_body {S : Spec} {N : List Str} {ps : List Str} {t : XK → TS} (hl : ∀ as Ψ Ξ, S as Ψ Ξ → as.length = ps.length ∧ Plain as) (hN : ps.length ≤ N.length)
    (hb : ∀ (c : Cfg) (E : XK) as Ψ Ξ, S as Ψ Ξ → Pas c Ξ E → WS c (t E) (startT N.length as) { nx := fun τ' => Ψ (.dat .non) (backs as τ'), rt := fun r τ' => Ψ r (backs as τ') }) :
    ∀ vs H Q E, FP S vs H Q E → t E { nx := fun _ H' => Q .non H', rt := Q } (start N vs) H := by
  rintro vs H Q E ⟨G, as, F, Ψ, Ξ, ok, hS, hq, he⟩
  obtain ⟨hlen, hpl⟩ := hl as Ψ Ξ hS
  have lvs : vs.length = as.length := by simpa using ok.len
  have noali : ∀ {a : Tg}, a ∈ as → (∀ l R, a = .res l R → l = false) := fun h => (hpl _ h).1
  have o : Ok ⟨fun a => ∃ i, F i a, G, H, pinsOf as vs⟩ (startT N.length as) (start N vs) G H F := {
    ex := ok.ex
    tu := ok.tu
    fr := Fr.refl
    len := by simp [L2.start, startT, lvs]
    sl := fun i u h => by
      obtain ⟨v, h1, h2⟩ := ok.sl i u (by rw [List.getElem?_map, start_get h]; rfl)
      refine ⟨v, ?_, h2⟩
      have h1' : vs[i]? = some v := by
        rw [List.getElem?_map] at h1
        cases z : vs[i]? with
        | none => rw [z] at h1; cases h1
        | some y => rw [z] at h1; simpa using h1
      exact start_of h1'
    rs := fun i l R h => by
      obtain ⟨v, h1, h2⟩ := ok.rs i l R (by rw [List.getElem?_map, start_get h]; rfl)
      refine ⟨v, ?_, h2⟩
      have h1' : vs[i]? = some v := by
        rw [List.getElem?_map] at h1
        cases z : vs[i]? with
        | none => rw [z] at h1; cases h1
        | some y => rw [z] at h1; simpa using h1
      exact start_of h1'
    own := fun i a h => by
      obtain ⟨h1, h2, l, R, h3, h4⟩ := ok.own i a h
      have h3' : as[i]? = some (.res l R) := by
        rw [List.getElem?_map] at h3
        cases z : as[i]? with
        | none => rw [z] at h3; cases h3
        | some y => rw [z] at h3; simpa using h3
      exact ⟨h1, h2, l, R, start_of h3', .inr ⟨(hpl _ (List.mem_of_getElem? h3')).1 l R rfl, i, h⟩⟩
    dj := ok.dj
    pn := fun p hp => by
      obtain ⟨h1, l, R, h2⟩ := mem_pinsOf hp
      have e := (hpl _ (List.mem_of_getElem? h2)).1 l R rfl
      subst e
      exact ⟨start_of h1, R, start_of h2⟩ }
  -- what the parameters are behind it
  have bk : ∀ {τ' : Lc} {σ' : L2.St} {G' H' : Hp} {F' : Nat → Addr → Prop}, Ok ⟨fun a => ∃ i, F i a, G, H, pinsOf as vs⟩ τ' σ' G' H' F' →
      ABk (backs as τ') vs H F G' H' (fun i a => F' i a ∧ ∃ l R, (backs as τ')[i]? = some (.res l R)) := fun {τ' σ' G' H' F'} o' => {
    ex := o'.ex
    tu := o'.tu
    rs := fun i l R h => by
      obtain ⟨h1, l', R', h2⟩ := backs_res h
      obtain ⟨v, h3, h4⟩ := o'.rs i l R h1
      have hv : ∃ u, vs[i]? = some u := by
        have := (List.getElem?_eq_some_iff.mp h2).1
        exact ⟨vs[i]'(by omega), by simp⟩
      obtain ⟨u, hu⟩ := hv
      have h5 := (o'.pn (i, u) (pinsOf_mem h2 hu)).1
      have e : v = u := by
        have h5' : σ'[i]? = some (some u) := h5
        rw [h3] at h5'
        exact Option.some.inj (Option.some.inj h5')
      subst e
      refine ⟨v, hu, R.mono v _ _ _ _ _ ?_ (Same.refl _) fun _ _ => rfl⟩
      have ef : (fun a => F' i a ∧ ∃ l R, (backs as τ')[i]? = some (.res l R)) = F' i := by
        funext a
        exact propext ⟨fun z => z.1, fun z => ⟨z, l, R, h⟩⟩
      rw [ef]
      exact h4
    own := fun i a h => ⟨(o'.own i a h.1).1, (o'.own i a h.1).2.1, h.2⟩
    fp := fun i a h => by
      obtain ⟨_, _, l, R, _, h4⟩ := o'.own i a h.1
      rcases h4 with h4 | h4
      · exact .inr h4
      · exact .inl h4.2
    dj := fun i j a hij h1 h2 => o'.dj i j a hij h1.1 h2.1 }
  refine hb ⟨fun a => ∃ i, F i a, G, H, pinsOf as vs⟩ E as Ψ Ξ hS (fun C ns xs d ws G' H' a f => he C ns xs d ws G' H' a f) (start N vs) G H F o _ ⟨fun τ' σ' G' H' F' a o' _ => ?_, fun r τ' σ' G' H' F' v a o' s => ?_, fun _ _ _ _ _ z => z.elim, fun _ _ _ _ _ z => z.elim⟩
  · exact hq .non G' H' _ (.dat .non) _ a o'.fr (bk o') rfl
  · refine hq v G' H' _ r _ a o'.fr (bk o') ?_
    cases r with
    | dat d => exact s
    | vol d =>
      obtain ⟨Gv, h1, h2⟩ := s
      exact Rep.mono (fun a u z => o'.fr.h a u (h1 a u z).1 (h1 a u z).2) d v h2
    | tmp d => exact s
    | res l R =>
      obtain ⟨h1, A, h2, h3⟩ := s
      refine ⟨h1, A, h2, fun a ha => ?_⟩
      obtain ⟨q1, q2, q3, q4⟩ := h3 a ha
      refine ⟨q1, q2, q3, fun i z => ?_⟩
      obtain ⟨z1, l', R', z2⟩ := z
      obtain ⟨_, l2, R2, z3⟩ := backs_res z2
      have hv : ∃ u, vs[i]? = some u := by
        have := (List.getElem?_eq_some_iff.mp z3).1
        exact ⟨vs[i]'(by omega), by simp⟩
      obtain ⟨u, hu⟩ := hv
      exact q4 (i, u) (pinsOf_mem z3 hu) z1
    | ali i => exact s.elim
theorem fp_len {S : Spec} {ps : List Str} (hl : ∀ as Ψ Ξ, S as Ψ Ξ → as.length = ps.length ∧ Plain as) : ∀ vs H Q E, FP S vs H Q E → vs.length = ps.length := by
  rintro vs H Q E ⟨G, as, F, Ψ, Ξ, ok, hS, _⟩
  have := ok.len
  rw [List.length_map, List.length_map] at this
  rw [this, (hl as Ψ Ξ hS).1]
/-! ### calls -/
def dem : Tg → Tg
  | .vol d => .tmp d
  | t => t
inductive Arg (τ : Lc) : Tg → Tg → Prop
  | dd {d : DD} : Arg τ (.dat d) (.dat d)
  | dv {r : Tg} {d : DD} (h : Dv τ r d) : Arg τ r (.vol d)
inductive Dv1 (τ : Lc) (j : Nat) : Tg → DD → Prop
  | dat {d : DD} : Dv1 τ j (.dat d) d
  | vol {d : DD} : Dv1 τ j (.vol d) d
  | fre {ds : List DD} : Dv1 τ j (.res true (ownL ds)) (.lst ds)
  | ali {i : Nat} {l : Bool} {ds : List DD} (hij : i ≠ j) (h : τ[i]? = some (some (.res l (ownL ds)))) : Dv1 τ j (.ali i) (.lst ds)
inductive Arg1 (τ : Lc) (j : Nat) : Tg → Tg → Prop
  | dd {d : DD} : Arg1 τ j (.dat d) (.dat d)
  | dv {r : Tg} {d : DD} (h : Dv1 τ j r d) : Arg1 τ j r (.vol d)
inductive Args (τ : Lc) : List Tg → List Tg → Prop
  | nil : Args τ [] []
  | cons {r a : Tg} {rs as : List Tg} (h : Arg τ r a) (t : Args τ rs as) : Args τ (r :: rs) (a :: as)
inductive Args1 (τ : Lc) (j : Nat) : List Tg → List Tg → Prop
  | nil : Args1 τ j [] []
  | cons {r a : Tg} {rs as : List Tg} (h : Arg1 τ j r a) (t : Args1 τ j rs as) : Args1 τ j (r :: rs) (a :: as)
theorem Args.get {τ : Lc} {P : Tg → V → Prop} : ∀ {rs as : List Tg} {vs : List V} {i : Nat} {a : Tg}, Args τ rs as → Paired P rs vs → as[i]? = some a → ∃ r v, Arg τ r a ∧ P r v ∧ vs[i]? = some v
  | _, _, _, i, _, .nil, .nil, h => by simp at h
  | _, _, _, 0, _, .cons h t, .cons p q, e => by
    have e' := Option.some.inj e
    subst e'
    exact ⟨_, _, h, p, rfl⟩
  | _, _, _, i + 1, _, .cons h t, .cons p q, e => by
    obtain ⟨r, v, h1, h2, h3⟩ := Args.get (i := i) t q (by simpa using e)
    exact ⟨r, v, h1, h2, by simpa using h3⟩
theorem Args.len {τ : Lc} {P : Tg → V → Prop} : ∀ {rs as : List Tg} {vs : List V}, Args τ rs as → Paired P rs vs → vs.length = as.length
  | _, _, _, .nil, .nil => rfl
  | _, _, _, .cons h t, .cons p q => by rw [List.length_cons, List.length_cons, Args.len t q]
theorem Args1.get {τ : Lc} {j : Nat} {P : Tg → V → Prop} : ∀ {rs as : List Tg} {vs : List V} {i : Nat} {a : Tg}, Args1 τ j rs as → Paired P rs vs → as[i]? = some a → ∃ r v, Arg1 τ j r a ∧ P r v ∧ vs[i]? = some v
  | _, _, _, i, _, .nil, .nil, h => by simp at h
  | _, _, _, 0, _, .cons h t, .cons p q, e => by
    have e' := Option.some.inj e
    subst e'
    exact ⟨_, _, h, p, rfl⟩
  | _, _, _, i + 1, _, .cons h t, .cons p q, e => by
    obtain ⟨r, v, h1, h2, h3⟩ := Args1.get (i := i) t q (by simpa using e)
    exact ⟨r, v, h1, h2, by simpa using h3⟩
theorem Args1.len {τ : Lc} {j : Nat} {P : Tg → V → Prop} : ∀ {rs as : List Tg} {vs : List V}, Args1 τ j rs as → Paired P rs vs → vs.length = as.length
  | _, _, _, .nil, .nil => rfl
  | _, _, _, .cons h t, .cons p q => by rw [List.length_cons, List.length_cons, Args1.len t q]
def CallOk (c : Cfg) (S : Spec) (E : XK) (τ1 : Lc) (rs : List Tg) (Φ : Tg → Lc → Bool → Prop) (b : Bool) : Prop :=
  ∃ Ξ, Pas c Ξ E ∧ ((∃ as, Args τ1 rs as ∧ S as (fun r _ => Φ (dem r) τ1 b) Ξ) ∨
    ∃ j l R rs' as', rs = .ali j :: rs' ∧ τ1[j]? = some (some (.res l R)) ∧ Args1 τ1 j rs' as' ∧ S (.res false R :: as') (fun r as2 => ∃ l2 R', as2[0]? = some (.res l2 R') ∧ Φ (dem r) (τ1.set j (some (.res l R'))) false) Ξ)
theorem call_run {c : Cfg} {S : Spec} {E : XK} {τ1 : Lc} {rs : List Tg} {Φ : Tg → Lc → Bool → Prop} {b : Bool} {σ : L2.St} {G H G1 H1 : Hp} {F F1 : Nat → Addr → Prop} {vs : List V} {Q : VK}
    (hl : CallOk c S E τ1 rs Φ b) (g : Go b c τ1 σ G H F G1 H1 F1) (s : Paired (Rs c σ H G1 H1 F1) rs vs)
    (q : ∀ v G' H' F' r τ' b', Φ r τ' b' → Go b' c τ' σ G H F G' H' F' → Rs c σ H G' H' F' r v → Q v H') : FP S vs H1 Q E := by
  obtain ⟨Ξ, hp, hl⟩ := hl
  have hn : ∀ a, H1 a = none → H a = none := fun a h => by
    cases z : H a with
    | none => rfl
    | some w => exact absurd h (g.fr.t a (ne_none z))
  rcases hl with ⟨as, ha, hS⟩ | ⟨j, l, R, rs', as', rfl, hj, ha, hS⟩
  · refine ⟨G1, as, fun _ _ => False, _, Ξ, ?_, hS, fun v G' H' F' r as' hr f bk rr => ?_, fun C ns xs d ws G' H' a f e t => hp C ns xs d ws G' H' a (g.ok.fr.trans f fun _ z => z.elim fun _ y => y.elim) e t⟩
    · exact {
        ex := g.ok.ex
        tu := g.ok.tu
        fr := Fr.refl
        len := by rw [List.length_map, List.length_map, ha.len s]
        sl := fun i t h => by
          have h' : as[i]? = some t := by
            rw [List.getElem?_map] at h
            cases z : as[i]? with
            | none => rw [z] at h; cases h
            | some y => rw [z] at h; simpa using h
          obtain ⟨r, v, h1, h2, h3⟩ := ha.get s h'
          refine ⟨v, by rw [List.getElem?_map, h3]; rfl, ?_⟩
          cases h1 with
          | dd => exact h2
          | dv hd => exact ⟨H1, fun a o z => ⟨z, fun y => y.elim fun _ w => w⟩, hd.rep g.ok h2⟩
        rs := fun i l R h => by
          have h' : as[i]? = some (.res l R) := by
            rw [List.getElem?_map] at h
            cases z : as[i]? with
            | none => rw [z] at h; cases h
            | some y => rw [z] at h; simpa using h
          obtain ⟨r, v, h1, h2, h3⟩ := ha.get s h'
          cases h1
        own := fun _ _ z => z.elim
        dj := fun _ _ _ _ z => z.elim
        pn := fun p hp => nomatch hp }
    · have f' : Fr No G1 H1 G' H' := f.mono fun a z => z.elim fun _ y => y
      have g2 := Go.grow g.ok f' bk.ex bk.tu
      have gg := g.trans g2
      rw [Bool.and_true] at gg
      refine q v G' H' F1 (dem r) τ1 b hr gg ?_
      cases r with
      | dat d => exact rr
      | vol d => exact rr
      | tmp d => exact rr
      | res l R =>
        obtain ⟨h1, A, h2, h3⟩ := rr
        refine ⟨h1, A, h2, fun a ha' => ?_⟩
        obtain ⟨q1, q2, q3, q4⟩ := h3 a ha'
        exact ⟨hn a q1, q2, q3, fun i z => (g.ok.own i a z).1 q1⟩
      | ali i => exact rr.elim
  · cases s with
    | @cons _ v0 _ vs' s0 s' =>
    have s0 : σ[j]? = some (some v0) := s0
    obtain ⟨u, hu, hφ⟩ := g.ok.rs j l R hj
    have e : u = v0 := by
      rw [hu] at s0
      exact Option.some.inj (Option.some.inj s0)
    subst e
    have nF : ∀ a (i : Nat), (if i = 0 then F1 j a else False) → i = 0 ∧ F1 j a := fun a i z => by
      by_cases e : i = 0
      · rw [if_pos e] at z
        exact ⟨e, z⟩
      · rw [if_neg e] at z
        exact z.elim
    have nF' : ∀ a, (∃ i : Nat, if i = 0 then F1 j a else False) → F1 j a := fun a z => z.elim fun i y => (nF a i y).2
    have notX : ∀ a o, c.H0 a = some o → ¬ c.X a → ¬ F1 j a := fun a o z nx y => by
      obtain ⟨_, _, l', R', _, y4⟩ := g.ok.own j a y
      rcases y4 with y4 | y4
      · rw [z] at y4; cases y4
      · exact nx y4.2
    refine ⟨G1, .res false R :: as', fun i a => if i = 0 then F1 j a else False, _, Ξ, ?_, hS, fun v G' H' F' r as2 hr f bk rr => ?_, fun C ns xs d ws G' H' a f e t => hp C ns xs d ws G' H' a (g.ok.fr.trans f fun a z => by
      obtain ⟨_, _, l', R', _, y4⟩ := g.ok.own j a (nF' a z)
      rcases y4 with y4 | y4
      · exact .inr y4
      · exact .inl y4.2) e t⟩
    · exact {
        ex := g.ok.ex
        tu := g.ok.tu
        fr := Fr.refl
        len := by rw [List.length_map, List.length_map, List.length_cons, List.length_cons, ha.len s']
        sl := fun i t h => by
          cases i with
          | zero =>
            have h' : t = .res false R := by simpa using h.symm
            subst h'
            exact ⟨u, rfl, True.intro⟩
          | succ i =>
            have h' : as'[i]? = some t := by
              rw [List.map_cons, List.getElem?_cons_succ, List.getElem?_map] at h
              cases z : as'[i]? with
              | none => rw [z] at h; cases h
              | some y => rw [z] at h; simpa using h
            obtain ⟨r, v, h1, h2, h3⟩ := ha.get s' h'
            refine ⟨v, by rw [List.map_cons, List.getElem?_cons_succ, List.getElem?_map, h3]; rfl, ?_⟩
            cases h1 with
            | dd => exact h2
            | dv hd =>
              cases hd with
              | dat => exact ⟨G1, fun a o z => ⟨g.ok.ex a o z, fun y => by
                  have := (g.ok.own j a (nF' a y)).2.1
                  rw [z] at this; cases this⟩, h2⟩
              | vol =>
                obtain ⟨Gv, k1, k2⟩ := h2
                exact ⟨Gv, fun a o z => ⟨g.ok.fr.h a o (k1 a o z).1 (k1 a o z).2, fun y => notX a o (k1 a o z).1 (k1 a o z).2 (nF' a y)⟩, k2⟩
              | fre =>
                obtain ⟨_, A, ⟨p, ws, k1, k2, k3, rfl⟩, k4⟩ := h2
                obtain ⟨m1, m2, m3, m4⟩ := k4 p rfl
                have eg : Same G1 (upd G1 p (.lst ws)) := fun a u z => by
                  rw [upd_ne (ne_of_none z m3)]
                  exact z
                refine ⟨upd G1 p (.lst ws), fun a o z => ?_, p, ws, k1, upd_same, k3.mono eg _ _⟩
                by_cases e : a = p
                · subst e
                  rw [upd_same] at z
                  exact ⟨by rw [← z]; exact k2, fun y => m4 j (nF' a y)⟩
                · rw [upd_ne e] at z
                  exact ⟨g.ok.ex a o z, fun y => by
                    have := (g.ok.own j a (nF' a y)).2.1
                    rw [z] at this; cases this⟩
              | @ali i' l' ds hij hi =>
                obtain ⟨w, k1, p, ws, k2, k3, k4, k5⟩ := g.ok.rs _ _ _ hi
                have ew : w = v := by
                  have h2' : σ[i']? = some (some v) := h2
                  rw [k1] at h2'
                  exact Option.some.inj (Option.some.inj h2')
                subst ew
                have fp : F1 i' p := by rw [k5]
                have m3 := (g.ok.own i' p fp).2.1
                have eg : Same G1 (upd G1 p (.lst ws)) := fun a u z => by
                  rw [upd_ne (ne_of_none z m3)]
                  exact z
                refine ⟨upd G1 p (.lst ws), fun a o z => ?_, p, ws, k2, upd_same, k4.mono eg _ _⟩
                by_cases e : a = p
                · subst e
                  rw [upd_same] at z
                  exact ⟨by rw [← z]; exact k3, fun y => g.ok.dj i' j a hij fp (nF' a y)⟩
                · rw [upd_ne e] at z
                  exact ⟨g.ok.ex a o z, fun y => by
                    have := (g.ok.own j a (nF' a y)).2.1
                    rw [z] at this; cases this⟩
        rs := fun i l' R' h => by
          cases i with
          | zero =>
            have h' : false = l' ∧ R = R' := by simpa using h
            obtain ⟨rfl, rfl⟩ := h'
            refine ⟨u, rfl, ?_⟩
            have ef : (fun a => if 0 = 0 then F1 j a else False) = F1 j := by
              funext a
              rw [if_pos rfl]
            rw [ef]
            exact hφ
          | succ i =>
            have h' : as'[i]? = some (.res l' R') := by
              rw [List.map_cons, List.getElem?_cons_succ, List.getElem?_map] at h
              cases z : as'[i]? with
              | none => rw [z] at h; cases h
              | some y => rw [z] at h; simpa using h
            obtain ⟨r, v, h1, h2, h3⟩ := ha.get s' h'
            cases h1
        own := fun i a z => by
          obtain ⟨e, y⟩ := nF a i z
          subst e
          exact ⟨(g.ok.own j a y).1, (g.ok.own j a y).2.1, false, R, rfl, .inr ⟨rfl, 0, z⟩⟩
        dj := fun i k a hik z1 z2 => hik ((nF a i z1).1.trans (nF a k z2).1.symm)
        pn := fun p hp => nomatch hp }
    · obtain ⟨l2, R', hR, hΦ⟩ := hr
      obtain ⟨v1, hv1, hφ'⟩ := bk.rs 0 l2 R' hR
      have ev : v1 = u := by
        have : (u :: vs')[0]? = some u := rfl
        rw [this] at hv1
        exact (Option.some.inj hv1).symm
      subst ev
      have f1 : Fr (fun a => F1 j a) G1 H1 G' H' := f.mono fun a z => nF' a z
      have fpj : ∀ a, F' 0 a → F1 j a ∨ H1 a = none := fun a z => (bk.fp 0 a z).imp (nF' a) id
      have keepo : ∀ i a, i ≠ j → F1 i a → H' a = H1 a := fun i a hij z => by
        have hne := (g.ok.own i a z).1
        cases w : H1 a with
        | none => exact absurd w hne
        | some o => exact f1.h a o w fun y => g.ok.dj i j a hij z y
      have hjl : j < τ1.length := (List.getElem?_eq_some_iff.mp hj).1
      have gt : ∀ i : Nat, i ≠ j → (τ1.set j (some (.res l R')))[i]? = τ1[i]? := fun i h => List.getElem?_set_ne (fun z => h z.symm)
      have gtj : (τ1.set j (some (.res l R')))[j]? = some (some (.res l R')) := List.getElem?_set_self hjl
      have o2 : Ok c (τ1.set j (some (.res l R'))) σ G' H' (fun i a => if i = j then F' 0 a else F1 i a) := {
        ex := bk.ex
        tu := bk.tu
        fr := g.ok.fr.trans f1 fun a z => by
          obtain ⟨_, _, l', R', _, y4⟩ := g.ok.own j a z
          rcases y4 with y4 | y4
          · exact .inr y4
          · exact .inl y4.2
        len := by rw [List.length_set]; exact g.ok.len
        sl := fun i t h => by
          by_cases e : i = j
          · subst e
            rw [gtj] at h
            cases h
            exact ⟨v1, hu, True.intro⟩
          · rw [gt i e] at h
            obtain ⟨v, k1, k2⟩ := g.ok.sl i t h
            refine ⟨v, k1, ?_⟩
            cases t with
            | dat d => exact Rep.mono f1.g d v k2
            | vol d => exact k2
            | tmp d => exact k2
            | res l R => exact k2
            | ali i => exact k2
        rs := fun i l' R2 h => by
          by_cases e : i = j
          · subst e
            rw [gtj] at h
            cases h
            refine ⟨v1, hu, ?_⟩
            have ef : (fun a => if i = i then F' 0 a else F1 i a) = F' 0 := by
              funext a
              rw [if_pos rfl]
            rw [ef]
            exact hφ'
          · rw [gt i e] at h
            obtain ⟨v, k1, k2⟩ := g.ok.rs i l' R2 h
            refine ⟨v, k1, ?_⟩
            have ef : (fun a => if i = j then F' 0 a else F1 i a) = F1 i := by
              funext a
              rw [if_neg e]
            rw [ef]
            exact R2.mono v _ _ _ _ _ k2 f1.g fun a ha' => keepo i a e ha'
        own := fun i a z => by
          by_cases e : i = j
          · subst e
            rw [if_pos rfl] at z
            refine ⟨(bk.own 0 a z).1, (bk.own 0 a z).2.1, l, R', gtj, ?_⟩
            rcases fpj a z with y | y
            · obtain ⟨_, _, l', R2, y3, y4⟩ := g.ok.own i a y
              rw [hj] at y3
              cases y3
              exact y4
            · refine .inl ?_
              cases w : c.H0 a with
              | none => rfl
              | some o => exact absurd y (g.ok.fr.t a (ne_none w))
          · rw [if_neg e] at z
            obtain ⟨y1, y2, l', R2, y3, y4⟩ := g.ok.own i a z
            exact ⟨f1.t a y1, f1.n a y2 y1 (fun y => g.ok.dj i j a e z y), l', R2, by rw [gt i e]; exact y3, y4⟩
        dj := fun i k a hik z1 z2 => by
          by_cases e : i = j
          · subst e
            rw [if_pos rfl] at z1
            rw [if_neg (Ne.symm hik)] at z2
            rcases fpj a z1 with y | y
            · exact g.ok.dj i k a hik y z2
            · exact (g.ok.own k a z2).1 y
          · rw [if_neg e] at z1
            by_cases e2 : k = j
            · subst e2
              rw [if_pos rfl] at z2
              rcases fpj a z2 with y | y
              · exact g.ok.dj i k a hik z1 y
              · exact (g.ok.own i a z1).1 y
            · rw [if_neg e2] at z2
              exact g.ok.dj i k a hik z1 z2
        pn := fun p hp => by
          obtain ⟨k1, R2, k2⟩ := g.ok.pn p hp
          by_cases e : p.1 = j
          · rw [e, hj] at k2
            cases k2
            exact ⟨k1, R', by rw [e]; exact gtj⟩
          · exact ⟨k1, R2, by rw [gt _ e]; exact k2⟩ }
      have g2 : Go false c (τ1.set j (some (.res l R'))) σ G1 H1 F1 G' H' (fun i a => if i = j then F' 0 a else F1 i a) := ⟨o2, f1.mono fun a z => ⟨rfl, j, z⟩, fun i a z => by
        by_cases e : i = j
        · subst e
          rw [if_pos rfl] at z
          exact fpj a z
        · rw [if_neg e] at z
          exact .inl z⟩
      have gg := g.trans g2
      rw [Bool.and_false] at gg
      refine q v G' H' _ (dem r) _ false hΦ gg ?_
      cases r with
      | dat d => exact rr
      | vol d => exact rr
      | tmp d => exact rr
      | res lr Rx =>
        obtain ⟨h1, A, h2, h3⟩ := rr
        refine ⟨h1, A, h2, fun a ha' => ?_⟩
        obtain ⟨q1, q2, q3, q4⟩ := h3 a ha'
        refine ⟨hn a q1, q2, q3, fun i z => ?_⟩
        have z : if i = j then F' 0 a else F1 i a := z
        by_cases e : i = j
        · subst e
          rw [if_pos rfl] at z
          exact q4 0 z
        · rw [if_neg e] at z
          exact (g.ok.own i a z).1 q1
      | ali i => exact rr.elim
section
variable {c : Cfg} {τ : Lc} {Φ : Tg → Lc → Bool → Prop} {te ta tb : TE} {t : TA} {S : Spec} {E : XK}
theorem w_call (h : WA c t τ fun rs τ1 b1 => CallOk c S E τ1 rs Φ b1) : W c (tCall (FP S) [] E t) τ Φ := fun σ G H F o Q q =>
  h σ G H F o _ fun vs G1 H1 F1 rs τ1 b1 p1 g1 s1 => by
    rw [List.append_nil]
    exact call_run p1 g1 s1 q
theorem w_meth {C : Addr} {m : Str} (h : W c ta τ fun r τ0 b0 => ((∃ ns xs, r = .dat (.obj C ns xs) ∧ ns.elem m = false) ∨ ∃ j l ns xs, r = .ali j ∧ τ0[j]? = some (some (.res l (ownI C ns xs))) ∧ ns.elem m = false) ∧
    WA c t τ0 fun rs τ1 b1 => stb r b1 = true ∧ CallOk c S E τ1 (r :: rs) Φ (b0 && b1)) : W c (tMeth C m (FP S) [] E ta t) τ Φ := fun σ G H F o Q q =>
  h σ G H F o _ fun x G1 H1 F1 r τ0 b0 p1 g1 s1 => by
    obtain ⟨hr, p2⟩ := p1
    have hx : ∃ a dx fs, x = V.ref a ∧ H1 a = some (.ins C dx fs) ∧ fs.lookup m = none := by
      rcases hr with ⟨ns, xs, rfl, hm⟩ | ⟨j, l, ns, xs, rfl, hj, hm⟩
      · obtain ⟨a, dx, vs, h1, h2, h3, h4⟩ := s1
        exact ⟨a, dx, _, h1, g1.ok.ex _ _ h2, zip_none hm⟩
      · obtain ⟨u, h1, a, dx, vs, h2, h3, h7, h4, _⟩ := g1.ok.rs _ _ _ hj
        have e : u = x := by
          have q' : σ[j]? = some (some x) := s1
          rw [h1] at q'
          exact Option.some.inj (Option.some.inj q')
        subst e
        exact ⟨a, dx, _, h2, h3, zip_none hm⟩
    obtain ⟨a, dx, fs, h1, h2, h3⟩ := hx
    refine ⟨a, dx, fs, h1, h2, h3, p2 σ G1 H1 F1 g1.ok _ fun vs G2 H2 F2 rs τ1 b1 p3 g2 s2 => ?_⟩
    rw [List.append_nil]
    exact call_run p3.2 (g1.trans g2) (.cons (s1.keep g2 p3.1) (Paired.mapP s2 fun r v z => Rs.from z g1.fr.t)) q
/-- C(..): the new instance is frozen -/
theorem w_make {C : Addr} (h : WA c t τ fun rs τ1 b1 => ∃ Ξ as, Pas c Ξ E ∧ Args τ1 rs as ∧ S (.res false (ownI C [] []) :: as) (fun r as2 => r = .dat .non ∧ ∃ l2 ns xs, as2[0]? = some (.res l2 (ownI C ns xs)) ∧ Φ (.dat (.obj C ns xs)) τ1 b1) Ξ) :
    W c (tMake C (FP S) [] E t) τ Φ := fun σ G H F o Q q =>
  h σ G H F o _ fun vs G1 H1 F1 rs τ1 b1 p1 g1 s1 => by
    obtain ⟨Ξ, as, hp, ha, hS⟩ := p1
    intro x dx hx hdx hne
    rw [List.append_nil]
    have gx : G1 x = none := by
      cases z : G1 x with
      | none => rfl
      | some w => have := g1.ok.ex _ _ z; rw [hx] at this; cases this
    have gdx : G1 dx = none := by
      cases z : G1 dx with
      | none => rfl
      | some w => have := g1.ok.ex _ _ z; rw [hdx] at this; cases this
    have s12 : Same H1 (upd (upd H1 dx (.own x)) x (.ins C dx [])) := fun a o z => by
      rw [upd_ne (ne_of_none z hx), upd_ne (ne_of_none z hdx)]
      exact z
    have sg : Same G1 (upd (upd H1 dx (.own x)) x (.ins C dx [])) := fun a o z => s12 a o (g1.ok.ex a o z)
    have tg : Tu G1 (upd (upd H1 dx (.own x)) x (.ins C dx [])) := fun a u t z => by
      by_cases e : a = x
      · rw [e, upd_same] at z; cases z; exact t.elim
      · rw [upd_ne e] at z
        by_cases e2 : a = dx
        · rw [e2, upd_same] at z; cases z; exact t.elim
        · rw [upd_ne e2] at z
          exact g1.ok.tu a u t z
    have nn : ∀ a, H1 a ≠ none → upd (upd H1 dx (.own x)) x (.ins C dx []) a ≠ none := fun a z => by
      cases w : H1 a with
      | none => exact absurd w z
      | some o => rw [s12 a o w]; exact fun y => nomatch y
    have fr12 : ∀ {X : Addr → Prop} {G' H' : Hp}, (∀ a, X a → a = x) → Fr X G1 (upd (upd H1 dx (.own x)) x (.ins C dx [])) G' H' → Fr No G1 H1 G' H' := fun hX f =>
      ⟨f.g, fun a o z _ => f.h a o (s12 a o z) fun y => (by
        rw [hX a y, hx] at z
        cases z), fun a z w _ => f.n a z (nn a w) (fun y => w (by rw [hX a y]; exact hx)), fun a w => f.t a (nn a w)⟩
    have nF : ∀ a (i : Nat), (if i = 0 then a = x else False) → a = x := fun a i z => by
      by_cases e : i = 0
      · rw [if_pos e] at z; exact z
      · rw [if_neg e] at z; exact z.elim
    refine ⟨G1, .res false (ownI C [] []) :: as, fun i a => if i = 0 then a = x else False, _, Ξ, ?_, hS, fun v G' H' F' r as2 hr f bk rr => ?_, fun D ns xs d ws G' H' a f e t => hp D ns xs d ws G' H' a (g1.ok.fr.trans (fr12 (fun a z => z.elim fun i y => nF a i y) f) fun _ z => z.elim) e t⟩
    · exact {
        ex := sg
        tu := tg
        fr := Fr.refl
        len := by rw [List.length_map, List.length_map, List.length_cons, List.length_cons, ha.len s1]
        sl := fun i t h => by
          cases i with
          | zero =>
            have h' : t = .res false (ownI C [] []) := by simpa using h.symm
            subst h'
            exact ⟨_, rfl, True.intro⟩
          | succ i =>
            have h' : as[i]? = some t := by
              rw [List.map_cons, List.getElem?_cons_succ, List.getElem?_map] at h
              cases z : as[i]? with
              | none => rw [z] at h; cases h
              | some y => rw [z] at h; simpa using h
            obtain ⟨r, v, h1, h2, h3⟩ := ha.get s1 h'
            refine ⟨v, by rw [List.map_cons, List.getElem?_cons_succ, List.getElem?_map, h3]; rfl, ?_⟩
            cases h1 with
            | dd => exact h2
            | dv hd => exact ⟨H1, fun a o z => ⟨s12 a o z, fun y => y.elim fun i w => by rw [nF a i w, hx] at z; cases z⟩, hd.rep g1.ok h2⟩
        rs := fun i l R h => by
          cases i with
          | zero =>
            have h' : false = l ∧ ownI C [] [] = R := by simpa using h
            obtain ⟨rfl, rfl⟩ := h'
            refine ⟨_, rfl, x, dx, [], rfl, upd_same, rfl, rfl, ?_⟩
            funext a
            exact propext ⟨fun z => by simpa using z, fun z => by simpa using z⟩
          | succ i =>
            have h' : as[i]? = some (.res l R) := by
              rw [List.map_cons, List.getElem?_cons_succ, List.getElem?_map] at h
              cases z : as[i]? with
              | none => rw [z] at h; cases h
              | some y => rw [z] at h; simpa using h
            obtain ⟨r, v, h1, h2, h3⟩ := ha.get s1 h'
            cases h1
        own := fun i a z => by
          have e := nF a i z
          subst e
          have ei : i = 0 := by
            by_cases e : i = 0
            · exact e
            · rw [if_neg e] at z; exact z.elim
          subst ei
          exact ⟨(by
            rw [upd_same]
            exact (fun y => by cases y)), gx, false, ownI C [] [], rfl, .inr ⟨rfl, 0, z⟩⟩
        dj := fun i k a hik z1 z2 => by
          by_cases e : i = 0
          · by_cases e2 : k = 0
            · exact hik (e.trans e2.symm)
            · rw [if_neg e2] at z2; exact z2
          · rw [if_neg e] at z1; exact z1
        pn := fun p hp => nomatch hp }
    · obtain ⟨rfl, l2, ns, xs, hR, hΦ⟩ := hr
      obtain ⟨v1, hv1, x', dx', ws, h1, h2, h3, h4, h5⟩ := bk.rs 0 _ _ hR
      have ev : v1 = V.ref x := by
        have : (V.ref x :: vs)[0]? = some (V.ref x) := rfl
        rw [this] at hv1
        exact (Option.some.inj hv1).symm
      rw [ev] at h1
      cases h1
      have f1 : Fr No G1 H1 G' H' := fr12 (fun a z => z.elim fun i y => nF a i y) f
      have gx' : G' x = none := (bk.own 0 x (by rw [h5])).2.1
      have eg : Same G' (upd G' x (.ins C dx' (ns.zip ws))) := fun a u z => by
        rw [upd_ne (ne_of_none z gx')]
        exact z
      have f2 : Fr No G1 H1 (upd G' x (.ins C dx' (ns.zip ws))) H' := ⟨f1.g.trans eg, f1.h, fun a z w nx => by
        rw [upd_ne (fun e => w (by rw [e]; exact hx))]
        exact f1.n a z w nx, f1.t⟩
      have e2 : Same (upd G' x (.ins C dx' (ns.zip ws))) H' := fun a o z => by
        by_cases e : a = x
        · subst e
          rw [upd_same] at z
          rw [← z]
          exact h2
        · rw [upd_ne e] at z
          exact bk.ex a o z
      have g2 := Go.grow g1.ok f2 e2 (fun a u t z => eg a _ (bk.tu a u t z))
      have gg := g1.trans g2
      rw [Bool.and_true] at gg
      exact ⟨rr, q _ _ _ F1 _ τ1 b1 hΦ gg ⟨x, dx', ws, rfl, upd_same, h3, h4.mono eg _ _⟩⟩
end
end Z
set_option Elab.async false
set_option linter.all false
set_option maxRecDepth 100000
/-! Z4: loops, comprehensions, changes of owned lists. -/
namespace Z
open PySem PySem.Spec PyProof.Rows L2
/-! ### what is walked -/
inductive Itm where
  | one (t : Tg)
  | two (t u : Tg)
def IY (c : Cfg) (G H : Hp) (x : V) (H' : Hp) : Itm → Prop
  | .one t => H' = H ∧ Sl c G t x
  | .two t u => ∃ T y z, x = V.ref T ∧ H T = none ∧ H' = upd H T (.tup [y, z]) ∧ Sl c G t y ∧ Sl c G u z
structure Wk (c : Cfg) (J : It) (its : List Itm) (G1 : Hp) : Prop where
  go : ∀ (i : Nat) (G H : Hp), i < its.length → Same G1 G → Same G H → Fr c.X c.G0 c.H0 G H → J.go i H
  stop : ∀ (G H : Hp), Same G1 G → Same G H → Fr c.X c.G0 c.H0 G H → J.stop its.length H
  yl : ∀ (i : Nat) (t : Itm) (G H : Hp) (x : V) (H' : Hp), its[i]? = some t → Same G1 G → Same G H → Fr c.X c.G0 c.H0 G H → J.yld i H x H' → IY c G H x H' t
def WI (c : Cfg) (wi : TI) (τ : Lc) (Φ : List Itm → Lc → Bool → Prop) : Prop := ∀ (σ : L2.St) (G H : Hp) (F : Nat → Addr → Prop), Ok c τ σ G H F → ∀ R : It → Hp → Prop,
  (∀ J its G' H' F' τ' b, Φ its τ' b → Go b c τ' σ G H F G' H' F' → Wk c J its G' → R J H') → wi σ H R
def WGI (c : Cfg) (g : TG) (it : Itm) (τ : Lc) (N : Lc → Prop) : Prop := ∀ (σ : L2.St) (G H : Hp) (F : Nat → Addr → Prop) (x : V) (H' : Hp), Ok c τ σ G H F → IY c G H x H' it → ∀ Q : L2.St → Hp → Prop,
  (∀ τ' σ' G' H'' F', N τ' → Ok c τ' σ' G' H'' F' → Fr No G H G' H'' → (∀ (i : Nat) (a : Addr), F' i a → F i a) → Q σ' H'') → g x σ H' Q
section
variable {c : Cfg} {τ : Lc} {te ta tb : TE} {t : TA} {g g1 g2 : TG} {N : Lc → Prop} {Φ : List Itm → Lc → Bool → Prop} {D : AE} {ts tu : TS} {u v : Tg} {K : PySem.W.Frag} {i : Nat}
theorem Rs.of_sl {σ : L2.St} {H G H' : Hp} {F : Nat → Addr → Prop} {t : Tg} {x : V} (h : Sl c G t x) (hd : (∃ d, t = .dat d) ∨ ∃ d, t = .vol d) : Rs c σ H G H' F t x := by
  rcases hd with ⟨d, rfl⟩ | ⟨d, rfl⟩
  · exact h
  · exact h
theorem wgi_dat {d : DD} (h : WG c g (.dat d) τ N) : WGI c g (.one (.dat d)) τ N := fun σ G H F x H' o y Q q => by
  obtain ⟨rfl, s⟩ := y
  exact h σ G H' F x o s Q fun τ' σ' G' H2 F' n o' f p => q τ' σ' G' H2 F' n o' f (p .dat)
theorem wgi_vol {d : DD} (h : WG c g (.vol d) τ N) : WGI c g (.one (.vol d)) τ N := fun σ G H F x H' o y Q q => by
  obtain ⟨rfl, s⟩ := y
  exact h σ G H' F x o s Q fun τ' σ' G' H2 F' n o' f p => q τ' σ' G' H2 F' n o' f (p .vol)
theorem Pl.rs {σ : L2.St} {H G G' H' : Hp} {F : Nat → Addr → Prop} {t : Tg} {x : V} (p : Pl t) (h : Sl c G t x) (e : Same G G') : Rs c σ H G' H' F t x := by
  cases p with
  | dat => exact Rep.mono e _ _ h
  | vol => exact h
/-- for a, b in ..: a new pair each turn, unpacked -/
theorem wgi_two (p1 : Pl u) (p2 : Pl v) (h : WG c g1 u τ fun τ1 => WG c g2 v τ1 N) : WGI c (gTup K 2 (gCons g1 (gCons g2 gNil))) (.two u v) τ N := fun σ G H F x H' o y Q q => by
  obtain ⟨T, y, z, rfl, hT, rfl, s1, s2⟩ := y
  have f := Fr.both (G := G) (o := .tup [y, z]) o.ex hT
  have o' := o.grow f (same_both o.ex) o.tu.both
  refine ⟨T, [y, z], rfl, SqT.of upd_same, rfl, y, [z], rfl, h σ _ _ F y o' (p1.rs s1 f.g) _ fun τ1 σ1 G1 H1 F1 n1 o1 e1 k1 => ?_⟩
  refine ⟨z, [], rfl, n1 σ1 G1 H1 F1 z o1 (p2.rs s2 (f.g.trans e1.g)) _ fun τ2 σ2 G2 H2 F2 n2 o2 e2 k2 => ⟨rfl, q τ2 σ2 G2 H2 F2 n2 o2 (f.trans (e1.trans e2 fun _ z => z.elim) fun _ z => z.elim) fun i a z => k1 p1 i a (k2 p2 i a z)⟩⟩
/-- a, b = a pair of data -/
theorem wg_tup2 {d e : DD} (h : WG c g1 (.dat d) τ fun τ1 => WG c g2 (.dat e) τ1 N) : WG c (gTup K 2 (gCons g1 (gCons g2 gNil))) (.dat (.tup [d, e])) τ N := fun σ G H F x o s Q q => by
  obtain ⟨a, vs, rfl, h2, y, r, rfl, h3, z, r2, rfl, h4, h5⟩ := s
  have e5 : r2 = [] := h5
  subst e5
  refine ⟨a, [y, z], rfl, .inl (rd_mono o.ex h2), rfl, y, [z], rfl, h σ G H F y o h3 _ fun τ1 σ1 G1 H1 F1 n1 o1 e1 k1 => ?_⟩
  exact ⟨z, [], rfl, n1 σ1 G1 H1 F1 z o1 (Rep.mono e1.g _ _ h4) _ fun τ2 σ2 G2 H2 F2 n2 o2 e2 k2 => ⟨rfl, q τ2 σ2 G2 H2 F2 n2 o2 (e1.trans e2 fun _ z => z.elim) fun _ i a z => k1 .dat i a (k2 .dat i a z)⟩⟩
theorem wg_tup3 {g3 : TG} {d e f : DD} (h : WG c g1 (.dat d) τ fun τ1 => WG c g2 (.dat e) τ1 fun τ2 => WG c g3 (.dat f) τ2 N) : WG c (gTup K 3 (gCons g1 (gCons g2 (gCons g3 gNil)))) (.dat (.tup [d, e, f])) τ N := fun σ G H F x o s Q q => by
  obtain ⟨a, vs, rfl, h2, y, r, rfl, h3, z, r2, rfl, h4, w, r3, rfl, h6, h5⟩ := s
  have e5 : r3 = [] := h5
  subst e5
  refine ⟨a, [y, z, w], rfl, .inl (rd_mono o.ex h2), rfl, y, [z, w], rfl, h σ G H F y o h3 _ fun τ1 σ1 G1 H1 F1 n1 o1 e1 k1 => ?_⟩
  refine ⟨z, [w], rfl, n1 σ1 G1 H1 F1 z o1 (Rep.mono e1.g _ _ h4) _ fun τ2 σ2 G2 H2 F2 n2 o2 e2 k2 => ?_⟩
  exact ⟨w, [], rfl, n2 σ2 G2 H2 F2 w o2 (Rep.mono (e1.g.trans e2.g) _ _ h6) _ fun τ3 σ3 G3 H3 F3 n3 o3 e3 k3 => ⟨rfl, q τ3 σ3 G3 H3 F3 n3 o3 ((e1.trans e2 fun _ z => z.elim).trans e3 fun _ z => z.elim) fun _ i a z => k1 .dat i a (k2 .dat i a (k3 .dat i a z))⟩⟩
/-! the sources -/
def itsD (ds : List DD) : List Itm := ds.map fun d => .one (.dat d)
theorem itsD_get {ds : List DD} {i : Nat} {t : Itm} (h : (itsD ds)[i]? = some t) : ∃ d, ds[i]? = some d ∧ t = .one (.dat d) := by
  unfold itsD at h
  rw [List.getElem?_map] at h
  cases z : ds[i]? with
  | none => rw [z] at h; cases h
  | some d =>
    rw [z] at h
    exact ⟨d, rfl, (Option.some.inj h).symm⟩
theorem itsD_len {ds : List DD} : (itsD ds).length = ds.length := List.length_map _
theorem wi_list (h : W c ta τ fun r τ1 b1 => ∃ ds, r = .dat (.lst ds) ∧ Φ (itsD ds) τ1 b1) : WI c (iList K ta) τ Φ := fun σ G H F o R q =>
  h σ G H F o _ fun x G1 H1 F1 rx τ1 b1 p1 g1 s1 => by
    obtain ⟨ds, rfl, k⟩ := p1
    obtain ⟨a, vs, rfl, h2, h3⟩ := s1
    refine ⟨a, rfl, ⟨vs, SqL.of (g1.ok.ex _ _ h2)⟩, q _ _ G1 H1 F1 τ1 b1 k g1 ⟨fun i G H hi e1 e2 _ => ?_, fun G H e1 e2 _ => ?_, fun i t G H y H' ht e1 e2 _ yy => ?_⟩⟩
    · rw [itsD_len] at hi
      exact ⟨vs, vs[i]'(by rw [h3.length]; exact hi), SqL.of (e2 _ _ (e1 _ _ h2)), by simp⟩
    · exact ⟨vs, SqL.of (e2 _ _ (e1 _ _ h2)), by rw [itsD_len, h3.length]; exact Nat.le_refl _⟩
    · obtain ⟨d, hd, rfl⟩ := itsD_get ht
      obtain ⟨w, h4, h5⟩ := h3.get hd
      have e := yy.2 vs (SqL.of (e2 _ _ (e1 _ _ h2)))
      rw [h4] at e
      cases e
      exact ⟨yy.1, Rep.mono e1 _ _ h5⟩
theorem wi_tup (h : W c ta τ fun r τ1 b1 => ∃ ds, r = .dat (.tup ds) ∧ Φ (itsD ds) τ1 b1) : WI c (iTup K ta) τ Φ := fun σ G H F o R q =>
  h σ G H F o _ fun x G1 H1 F1 rx τ1 b1 p1 g1 s1 => by
    obtain ⟨ds, rfl, k⟩ := p1
    obtain ⟨a, vs, rfl, h2, h3⟩ := s1
    refine ⟨a, rfl, ⟨vs, .inl (rd_mono g1.ok.ex h2)⟩, q _ _ G1 H1 F1 τ1 b1 k g1 ⟨fun i G H hi e1 e2 _ => ?_, fun G H e1 e2 _ => ?_, fun i t G H y H' ht e1 e2 _ yy => ?_⟩⟩
    · rw [itsD_len] at hi
      exact ⟨vs, vs[i]'(by rw [h3.length]; exact hi), .inl (rd_mono (e1.trans e2) h2), by simp⟩
    · exact ⟨vs, .inl (rd_mono (e1.trans e2) h2), by rw [itsD_len, h3.length]; exact Nat.le_refl _⟩
    · obtain ⟨d, hd, rfl⟩ := itsD_get ht
      obtain ⟨w, h4, h5⟩ := h3.get hd
      have e := yy.2 vs (.inl (rd_mono (e1.trans e2) h2))
      rw [h4] at e
      cases e
      exact ⟨yy.1, Rep.mono e1 _ _ h5⟩
/-- a volatile list: its items too -/
def itsV (ds : List DD) : List Itm := ds.map fun d => .one (.vol d)
theorem itsV_get {ds : List DD} {i : Nat} {t : Itm} (h : (itsV ds)[i]? = some t) : ∃ d, ds[i]? = some d ∧ t = .one (.vol d) := by
  unfold itsV at h
  rw [List.getElem?_map] at h
  cases z : ds[i]? with
  | none => rw [z] at h; cases h
  | some d =>
    rw [z] at h
    exact ⟨d, rfl, (Option.some.inj h).symm⟩
theorem itsV_len {ds : List DD} : (itsV ds).length = ds.length := List.length_map _
theorem wi_listV (h : W c ta τ fun r τ1 b1 => ∃ ds, r = .vol (.lst ds) ∧ Φ (itsV ds) τ1 b1) : WI c (iList K ta) τ Φ := fun σ G H F o R q =>
  h σ G H F o _ fun x G1 H1 F1 rx τ1 b1 p1 g1 s1 => by
    obtain ⟨ds, rfl, k⟩ := p1
    obtain ⟨Gv, hv, a, vs, rfl, h2, h3⟩ := s1
    have at_ : ∀ {G H : Hp}, Fr c.X c.G0 c.H0 G H → H a = some (.lst vs) := fun f => f.h a _ (hv a _ h2).1 (hv a _ h2).2
    refine ⟨a, rfl, ⟨vs, SqL.of (at_ g1.ok.fr)⟩, q _ _ G1 H1 F1 τ1 b1 k g1 ⟨fun i G H hi e1 e2 f => ?_, fun G H e1 e2 f => ?_, fun i t G H y H' ht e1 e2 f yy => ?_⟩⟩
    · rw [itsV_len] at hi
      exact ⟨vs, vs[i]'(by rw [h3.length]; exact hi), SqL.of (at_ f), by simp⟩
    · exact ⟨vs, SqL.of (at_ f), by rw [itsV_len, h3.length]; exact Nat.le_refl _⟩
    · obtain ⟨d, hd, rfl⟩ := itsV_get ht
      obtain ⟨w, h4, h5⟩ := h3.get hd
      have e := yy.2 vs (SqL.of (at_ f))
      rw [h4] at e
      cases e
      exact ⟨yy.1, Gv, hv, h5⟩
def itsR (lo : Int) (n : Nat) : List Itm := (List.range n).map fun k => .one (.dat (.int (lo + (k : Nat))))
theorem itsR_len {lo : Int} {n : Nat} : (itsR lo n).length = n := by
  unfold itsR
  rw [List.length_map, List.length_range]
theorem itsR_get {lo : Int} {n i : Nat} {t : Itm} (h : (itsR lo n)[i]? = some t) : i < n ∧ t = .one (.dat (.int (lo + (i : Nat)))) := by
  unfold itsR at h
  rw [List.getElem?_map] at h
  cases z : (List.range n)[i]? with
  | none => rw [z] at h; cases h
  | some k =>
    rw [z] at h
    obtain ⟨q, e⟩ := List.getElem?_eq_some_iff.mp z
    rw [List.getElem_range] at e
    subst e
    rw [List.length_range] at q
    exact ⟨q, (Option.some.inj h).symm⟩
theorem wk_range {lo : Int} {n : Nat} {G1 : Hp} : Wk c (Itr lo n) (itsR lo n) G1 :=
  ⟨fun i G H hi _ _ _ => by rw [itsR_len] at hi; exact hi, fun G H _ _ _ => by rw [itsR_len]; exact Nat.le_refl n, fun i t G H x H' ht _ _ _ y => by
    obtain ⟨q, rfl⟩ := itsR_get ht
    exact ⟨y.1, y.2⟩⟩
theorem wi_range1 (h : WA c t τ fun rs τ1 b1 => ∃ n : Int, rs = [.dat (.int n)] ∧ -1000000 ≤ n ∧ n ≤ 1000000 ∧ Φ (itsR 0 n.toNat) τ1 b1) : WI c (iRng1 t) τ Φ := fun σ G H F o R q =>
  h σ G H F o _ fun x G1 H1 F1 rx τ1 b1 p1 g1 s1 => by
    obtain ⟨n, rfl, l1, l2, k⟩ := p1
    cases s1 with
    | cons a b =>
      cases b
      cases a
      exact ⟨n, rfl, by omega, by omega, q _ _ G1 H1 F1 τ1 b1 k g1 wk_range⟩
theorem wi_range2 (h : WA c t τ fun rs τ1 b1 => ∃ m n : Int, rs = [.dat (.int m), .dat (.int n)] ∧ -1000000 ≤ m ∧ m ≤ 1000000 ∧ -1000000 ≤ n ∧ n ≤ 1000000 ∧ Φ (itsR m (n - m).toNat) τ1 b1) : WI c (iRng2 t) τ Φ := fun σ G H F o R q =>
  h σ G H F o _ fun x G1 H1 F1 rx τ1 b1 p1 g1 s1 => by
    obtain ⟨m, n, rfl, l1, l2, l3, l4, k⟩ := p1
    cases s1 with
    | cons a b =>
      cases b with
      | cons a2 b2 =>
        cases b2
        cases a
        cases a2
        exact ⟨m, n, rfl, by omega, q _ _ G1 H1 F1 τ1 b1 k g1 wk_range⟩
def itsE (f : DD → Tg) (ds : List DD) : List Itm := (List.range ds.length).zipWith (fun k d => .two (.dat (.int (k : Nat))) (f d)) ds
theorem itsE_len {f : DD → Tg} {ds : List DD} : (itsE f ds).length = ds.length := by
  unfold itsE
  rw [List.length_zipWith, List.length_range]
  exact Nat.min_self _
theorem itsE_get {f : DD → Tg} {ds : List DD} {i : Nat} {t : Itm} (h : (itsE f ds)[i]? = some t) : ∃ d, ds[i]? = some d ∧ t = .two (.dat (.int (i : Nat))) (f d) := by
  unfold itsE at h
  rw [List.getElem?_zipWith] at h
  cases z : ds[i]? with
  | none =>
    rw [z] at h
    cases w : (List.range ds.length)[i]? with
    | none => rw [w] at h; cases h
    | some k => rw [w] at h; cases h
  | some d =>
    cases w : (List.range ds.length)[i]? with
    | none => rw [w] at h; cases h
    | some k =>
      rw [w, z] at h
      obtain ⟨q, e⟩ := List.getElem?_eq_some_iff.mp w
      rw [List.getElem_range] at e
      subst e
      exact ⟨d, rfl, (Option.some.inj h).symm⟩
theorem wi_enum (h : WA c t τ fun rs τ1 b1 => ∃ ds, rs = [.dat (.lst ds)] ∧ Φ (itsE .dat ds) τ1 b1) : WI c (iEnum K t) τ Φ := fun σ G H F o R q =>
  h σ G H F o _ fun x G1 H1 F1 rx τ1 b1 p1 g1 s1 => by
    obtain ⟨ds, rfl, k⟩ := p1
    cases s1 with
    | cons s1 b =>
      cases b
      obtain ⟨a, vs, rfl, h2, h3⟩ := s1
      refine ⟨a, vs, rfl, SqL.of (g1.ok.ex _ _ h2), q _ _ G1 H1 F1 τ1 b1 k g1 ⟨fun i G H hi e1 e2 _ => ?_, fun G H e1 e2 _ => ?_, fun i t G H y H' ht e1 e2 _ yy => ?_⟩⟩
      · rw [itsE_len] at hi
        exact ⟨vs, vs[i]'(by rw [h3.length]; exact hi), SqL.of (e2 _ _ (e1 _ _ h2)), by simp⟩
      · exact ⟨vs, SqL.of (e2 _ _ (e1 _ _ h2)), by rw [itsE_len, h3.length]; exact Nat.le_refl _⟩
      · obtain ⟨d, hd, rfl⟩ := itsE_get ht
        obtain ⟨w, h4, h5⟩ := h3.get hd
        obtain ⟨T, x, y1, y2, y3, y4⟩ := yy
        have e := y4 vs (SqL.of (e2 _ _ (e1 _ _ h2)))
        rw [h4] at e
        cases e
        exact ⟨T, _, _, y1, y2, y3, rfl, Rep.mono e1 _ _ h5⟩
theorem wi_enumV (h : WA c t τ fun rs τ1 b1 => ∃ ds, rs = [.vol (.lst ds)] ∧ Φ (itsE .vol ds) τ1 b1) : WI c (iEnum K t) τ Φ := fun σ G H F o R q =>
  h σ G H F o _ fun x G1 H1 F1 rx τ1 b1 p1 g1 s1 => by
    obtain ⟨ds, rfl, k⟩ := p1
    cases s1 with
    | cons s1 b =>
      cases b
      obtain ⟨Gv, hv, a, vs, rfl, h2, h3⟩ := s1
      have at_ : ∀ {G H : Hp}, Fr c.X c.G0 c.H0 G H → H a = some (.lst vs) := fun f => f.h a _ (hv a _ h2).1 (hv a _ h2).2
      refine ⟨a, vs, rfl, SqL.of (at_ g1.ok.fr), q _ _ G1 H1 F1 τ1 b1 k g1 ⟨fun i G H hi e1 e2 f => ?_, fun G H e1 e2 f => ?_, fun i t G H y H' ht e1 e2 f yy => ?_⟩⟩
      · rw [itsE_len] at hi
        exact ⟨vs, vs[i]'(by rw [h3.length]; exact hi), SqL.of (at_ f), by simp⟩
      · exact ⟨vs, SqL.of (at_ f), by rw [itsE_len, h3.length]; exact Nat.le_refl _⟩
      · obtain ⟨d, hd, rfl⟩ := itsE_get ht
        obtain ⟨w, h4, h5⟩ := h3.get hd
        obtain ⟨T, x, y1, y2, y3, y4⟩ := yy
        have e := y4 vs (SqL.of (at_ f))
        rw [h4] at e
        cases e
        exact ⟨T, _, _, y1, y2, y3, rfl, Gv, hv, h5⟩
/-! ### for, while -/
theorem ws_for {wi : TI} (h : WI c wi τ fun its τ1 _ => ∃ Inv : Nat → Lc → Prop, Inv 0 τ1 ∧
    (∀ k it τ2, its[k]? = some it → Inv k τ2 → WGI c g it τ2 fun τ3 => WS c ts τ3 { nx := Inv (k + 1), rt := D.rt, bk := D.nx, ct := Inv (k + 1) }) ∧ (∀ τ2, Inv its.length τ2 → D.nx τ2)) : WS c (tFor wi g ts) τ D := fun σ G H F o De l =>
  h σ G H F o _ fun J its G1 H1 F1 τ1 b1 p1 g1 wk => by
    obtain ⟨Inv, i0, is, ie⟩ := p1
    refine ⟨fun i m σ' H' => ∃ τ' G' F', Inv i τ' ∧ Ok c τ' σ' G' H' F' ∧ Same G1 G' ∧ i + m = its.length, ⟨its.length, τ1, G1, F1, i0, g1.ok, Same.refl _, by omega⟩, ?_⟩
    rintro i m σ' H' ⟨τ', G', F', hi, o', e', em⟩
    by_cases hl : i < its.length
    · refine .inr ⟨wk.go i G' H' hl e' o'.ex o'.fr, fun σ2 H2 => ∃ τ2 G2 F2, Inv (i + 1) τ2 ∧ Ok c τ2 σ2 G2 H2 F2 ∧ Same G1 G2, ?_, fun x H2 y => ?_⟩
      · rintro σ2 H2 ⟨τ2, G2, F2, a1, a2, a3⟩
        exact ⟨m - 1, by omega, τ2, G2, F2, a1, a2, a3, by omega⟩
      · have ht : its[i]? = some its[i] := by simp
        have yy := wk.yl i _ G' H' x H2 ht e' o'.ex o'.fr y
        refine is i _ τ' ht hi σ' G' H' F' x H2 o' yy _ fun τ3 σ3 G3 H3 F3 n3 o3 f3 _ => ?_
        have e3 := f3.g
        exact n3 σ3 G3 H3 F3 o3 _ ⟨fun τ4 σ4 G4 H4 F4 a o4 e4 => ⟨τ4, G4, F4, a, o4, e'.trans (e3.trans e4)⟩, l.rt, fun τ4 σ4 G4 H4 F4 a o4 e4 => l.nx τ4 σ4 G4 H4 F4 a o4 (g1.fr.g.trans (e'.trans (e3.trans e4))),
          fun τ4 σ4 G4 H4 F4 a o4 e4 => ⟨τ4, G4, F4, a, o4, e'.trans (e3.trans e4)⟩⟩
    · have e : i = its.length := by omega
      subst e
      exact .inl ⟨wk.stop G' H' e' o'.ex o'.fr, l.nx τ' σ' G' H' F' (ie τ' hi) o' (g1.fr.g.trans e')⟩
theorem ws_while {tt : TT} (Inv : Nat → Lc → Prop) (m0 : Nat) (h0 : Inv m0 τ)
    (hs : ∀ m τ1, Inv m τ1 → WT c tt τ1 fun k τ2 _ => if k = true then WS c ts τ2 { nx := fun τ3 => ∃ m', m' < m ∧ Inv m' τ3, rt := D.rt, bk := D.nx, ct := fun τ3 => ∃ m', m' < m ∧ Inv m' τ3 } else D.nx τ2) : WS c (tWhile tt ts) τ D := fun σ G H F o De l => by
  refine ⟨fun m σ' H' => ∃ τ' G' F', Inv m τ' ∧ Ok c τ' σ' G' H' F' ∧ Same G G', ⟨m0, τ, G, F, h0, o, Same.refl _⟩, ?_⟩
  rintro m σ' H' ⟨τ', G', F', hi, o', e'⟩
  refine hs m τ' hi σ' G' H' F' o' _ fun k G1 H1 F1 τ1 b1 p1 g1 => ?_
  cases k with
  | false => exact l.nx τ1 σ' G1 H1 F1 p1 g1.ok (e'.trans g1.fr.g)
  | true =>
    have p1 : WS c ts τ1 { nx := fun τ3 => ∃ m', m' < m ∧ Inv m' τ3, rt := D.rt, bk := D.nx, ct := fun τ3 => ∃ m', m' < m ∧ Inv m' τ3 } := p1
    refine ⟨fun σ2 H2 => ∃ m', m' < m ∧ ∃ τ2 G2 F2, Inv m' τ2 ∧ Ok c τ2 σ2 G2 H2 F2 ∧ Same G G2, ?_, p1 σ' G1 H1 F1 g1.ok _ ⟨fun τ4 σ4 G4 H4 F4 a o4 e4 => ?_, l.rt, fun τ4 σ4 G4 H4 F4 a o4 e4 => l.nx τ4 σ4 G4 H4 F4 a o4 (e'.trans (g1.fr.g.trans e4)), fun τ4 σ4 G4 H4 F4 a o4 e4 => ?_⟩⟩
    · rintro σ2 H2 ⟨m', hm, τ2, G2, F2, a⟩
      exact ⟨m', hm, τ2, G2, F2, a⟩
    · obtain ⟨m', hm, a⟩ := a
      exact ⟨m', hm, τ4, G4, F4, a, o4, e'.trans (g1.fr.g.trans e4)⟩
    · obtain ⟨m', hm, a⟩ := a
      exact ⟨m', hm, τ4, G4, F4, a, o4, e'.trans (g1.fr.g.trans e4)⟩
end
/-! ### comprehensions -/
def wipeT (τ : Lc) : List Nat → Lc
  | [] => τ
  | v :: vs => (wipeT τ vs).set v none
/-- the slots at vs as they were ahead -/
def unwipe (τ τ' : Lc) : List Nat → Lc
  | [] => τ'
  | v :: vs => (unwipe τ τ' vs).set v (τ[v]?.getD none)
theorem wipeT_length (τ : Lc) : ∀ vs : List Nat, (wipeT τ vs).length = τ.length
  | [] => rfl
  | v :: vs => by unfold wipeT; rw [List.length_set, wipeT_length τ vs]
theorem unwipe_length (τ τ' : Lc) : ∀ vs : List Nat, (unwipe τ τ' vs).length = τ'.length
  | [] => rfl
  | v :: vs => by unfold unwipe; rw [List.length_set, unwipe_length τ τ' vs]
theorem wipe_get {σ : L2.St} {i : Nat} : ∀ {vs : List Nat}, i ∉ vs → (wipe σ vs)[i]? = σ[i]?
  | [], _ => rfl
  | v :: vs, h => by
    unfold wipe
    rw [List.getElem?_set_ne (fun e => h (by rw [e]; exact List.mem_cons_self)), wipe_get (fun m => h (List.mem_cons_of_mem _ m))]
theorem wipeT_get {τ : Lc} {i : Nat} : ∀ {vs : List Nat}, i ∉ vs → (wipeT τ vs)[i]? = τ[i]?
  | [], _ => rfl
  | v :: vs, h => by
    unfold wipeT
    rw [List.getElem?_set_ne (fun e => h (by rw [e]; exact List.mem_cons_self)), wipeT_get (fun m => h (List.mem_cons_of_mem _ m))]
theorem wipeT_some {τ : Lc} {i : Nat} {t : Tg} : ∀ {vs : List Nat}, (wipeT τ vs)[i]? = some (some t) → τ[i]? = some (some t) ∧ i ∉ vs
  | [], h => ⟨h, by simp⟩
  | v :: vs, h => by
    unfold wipeT at h
    by_cases hi : v = i
    · subst hi
      by_cases hv : v < (wipeT τ vs).length
      · rw [List.getElem?_set_self hv] at h; cases h
      · rw [List.getElem?_eq_none (by simpa using hv)] at h; cases h
    · rw [List.getElem?_set_ne hi] at h
      obtain ⟨h1, h2⟩ := wipeT_some h
      exact ⟨h1, by simp only [List.mem_cons, not_or]; exact ⟨fun e => hi e.symm, h2⟩⟩
theorem unwipe_out {τ τ' : Lc} {i : Nat} : ∀ {vs : List Nat}, i ∉ vs → (unwipe τ τ' vs)[i]? = τ'[i]?
  | [], _ => rfl
  | v :: vs, h => by
    unfold unwipe
    rw [List.getElem?_set_ne (fun e => h (by rw [e]; exact List.mem_cons_self)), unwipe_out (fun m => h (List.mem_cons_of_mem _ m))]
theorem unwipe_in {τ τ' : Lc} {i : Nat} (hl : i < τ'.length) : ∀ {vs : List Nat}, i ∈ vs → (unwipe τ τ' vs)[i]? = some (τ[i]?.getD none)
  | [], h => by simp at h
  | v :: vs, h => by
    unfold unwipe
    by_cases e : v = i
    · subst e
      rw [List.getElem?_set_self (by rw [unwipe_length]; exact hl)]
    · rw [List.getElem?_set_ne e]
      exact unwipe_in hl ((List.mem_cons.mp h).elim (fun z => absurd z.symm e) id)
/-- at these slots stands nothing that can be changed -/
def still (τ : Lc) (vs : List Nat) : Prop := ∀ i ∈ vs, ∀ l R, τ[i]? ≠ some (some (.res l R))
section
variable {c : Cfg} {τ τ1 τ2 : Lc} {te ta tb : TE} {t : TA} {g g1 g2 : TG} {Φ : Tg → Lc → Bool → Prop} {tt : TT} {wi : TI} {vs : List Nat} {σ σ2 : L2.St} {G H G1 H1 : Hp} {F F1 : Nat → Addr → Prop}
theorem Ok.wipe (o : Ok c τ σ2 G H F) (hs : ∀ i ∈ vs, free τ i) : ∃ F', Ok c (wipeT τ vs) (L2.wipe σ2 vs) G H F' ∧ ∀ i a, F' i a → F i a := by
  refine ⟨fun i a => F i a ∧ i ∉ vs, ?_, fun i a h => h.1⟩
  constructor
  · exact o.ex
  · exact o.tu
  · exact o.fr
  · rw [L2.wipe_length, wipeT_length, o.len]
  · intro i t h
    obtain ⟨h1, h2⟩ := wipeT_some h
    obtain ⟨v, h3, h4⟩ := o.sl i t h1
    exact ⟨v, by rw [wipe_get h2]; exact h3, h4⟩
  · intro i l R h
    obtain ⟨h1, h2⟩ := wipeT_some h
    obtain ⟨v, h3, h4⟩ := o.rs i l R h1
    refine ⟨v, by rw [wipe_get h2]; exact h3, ?_⟩
    have e : (fun a => F i a ∧ i ∉ vs) = F i := by
      funext a
      exact propext ⟨fun z => z.1, fun z => ⟨z, h2⟩⟩
    rw [e]
    exact h4
  · intro i a h
    obtain ⟨h1, h2, l, R, h3, h4⟩ := o.own i a h.1
    exact ⟨h1, h2, l, R, by rw [wipeT_get h.2]; exact h3, h4⟩
  · exact fun i j a hij h1 h2 => o.dj i j a hij h1.1 h2.1
  · intro p hp
    obtain ⟨h1, R, h2⟩ := o.pn p hp
    have hn : p.1 ∉ vs := fun m => hs _ m R h2
    exact ⟨by rw [wipe_get hn]; exact h1, R, by rw [wipeT_get hn]; exact h2⟩
/-- behind a comprehension: the frame's slots as they were, what is outside of the block's own as the block left it -/
theorem Ok.unwipe (o1 : Ok c τ1 σ G1 H1 F1) (o2 : Ok c τ2 (L2.wipe σ vs) G H F) (e : Same G1 G) (hs : still τ1 vs) (hw : ∀ i ∈ vs, ∀ t, τ2[i]? ≠ some (some t)) : Ok c (Z.unwipe τ1 τ2 vs) σ G H F := by
  have ln : τ2.length = σ.length := by rw [← o2.len, L2.wipe_length]
  have nf : ∀ i a, F i a → i ∉ vs := fun i a h m => by
    obtain ⟨_, _, l, R, h3, _⟩ := o2.own i a h
    exact hw i m _ h3
  constructor
  · exact o2.ex
  · exact o2.tu
  · exact o2.fr
  · rw [unwipe_length, ln]
  · intro i t h
    by_cases m : i ∈ vs
    · have hl : i < τ2.length := by
        have := (List.getElem?_eq_some_iff.mp h).1
        rw [unwipe_length] at this
        exact this
      rw [unwipe_in hl m] at h
      have h' : τ1[i]? = some (some t) := by
        cases z : τ1[i]? with
        | none => rw [z] at h; cases h
        | some u => rw [z] at h; exact h
      obtain ⟨v, h3, h4⟩ := o1.sl i t h'
      refine ⟨v, h3, ?_⟩
      cases t with
      | dat d => exact Rep.mono e d v h4
      | vol d => exact h4
      | tmp d => exact h4
      | res l R => exact h4
      | ali i => exact h4
    · rw [unwipe_out m] at h
      obtain ⟨v, h3, h4⟩ := o2.sl i t h
      exact ⟨v, by rw [wipe_get m] at h3; exact h3, h4⟩
  · intro i l R h
    by_cases m : i ∈ vs
    · have hl : i < τ2.length := by
        have := (List.getElem?_eq_some_iff.mp h).1
        rw [unwipe_length] at this
        exact this
      rw [unwipe_in hl m] at h
      have h' : τ1[i]? = some (some (.res l R)) := by
        cases z : τ1[i]? with
        | none => rw [z] at h; cases h
        | some u => rw [z] at h; exact h
      exact absurd h' (hs i m l R)
    · rw [unwipe_out m] at h
      obtain ⟨v, h3, h4⟩ := o2.rs i l R h
      exact ⟨v, by rw [wipe_get m] at h3; exact h3, h4⟩
  · intro i a h
    obtain ⟨h1, h2, l, R, h3, h4⟩ := o2.own i a h
    exact ⟨h1, h2, l, R, by rw [unwipe_out (nf i a h)]; exact h3, h4⟩
  · exact o2.dj
  · intro p hp
    obtain ⟨h1, R, h2⟩ := o2.pn p hp
    have hn : p.1 ∉ vs := fun m => hw _ m _ h2
    exact ⟨by rw [wipe_get hn] at h1; exact h1, R, by rw [unwipe_out hn]; exact h2⟩
/-- the target changes the block's own slots alone -/
def GW (g : TG) (vs : List Nat) : Prop := ∀ v σ H (Q : L2.St → Hp → Prop), (g v σ H fun σ' H' => wipe σ' vs = wipe σ vs → Q σ' H') → g v σ H fun σ' H' => wipe σ' vs = wipe σ vs ∧ Q σ' H'
def GWs (g : TGs) (vs : List Nat) : Prop := ∀ v σ H (Q : L2.St → Hp → Prop), (g v σ H fun σ' H' => wipe σ' vs = wipe σ vs → Q σ' H') → g v σ H fun σ' H' => wipe σ' vs = wipe σ vs ∧ Q σ' H'
theorem wipe_set {σ : L2.St} {i : Nat} {x : Option V} : ∀ {vs : List Nat}, i ∈ vs → wipe (σ.set i x) vs = wipe σ vs
  | [], h => by simp at h
  | v :: vs, h => by
    unfold wipe
    by_cases e : i ∈ vs
    · rw [wipe_set e]
    · have ei : i = v := (List.mem_cons.mp h).elim id fun z => absurd z e
      subst ei
      have q : ∀ ws : List Nat, i ∉ ws → wipe (σ.set i x) ws = (wipe σ ws).set i x := fun ws => by
        induction ws with
        | nil => intro _; rfl
        | cons w ws ih =>
          intro hw
          unfold wipe
          rw [ih (fun m => hw (List.mem_cons_of_mem _ m)), List.set_comm _ _ (fun z => hw (by rw [z]; exact List.mem_cons_self))]
      rw [q vs e, List.set_set]
theorem gw_name {i : Nat} (h : i ∈ vs) : GW (gName i) vs := fun v σ H Q q => ⟨wipe_set h, q (wipe_set h)⟩
theorem gws_nil : GWs gNil vs := fun v σ H Q q => ⟨q.1, rfl, q.2 rfl⟩
theorem gws_name {i : Nat} {gs : TGs} (h : i ∈ vs) (k : GWs gs vs) : GWs (gCons (gName i) gs) vs := fun v σ H Q q => by
  obtain ⟨x, r, e, q⟩ := q
  have q : gs r (σ.set i (some x)) H fun σ' H' => wipe σ' vs = wipe σ vs → Q σ' H' := q
  refine ⟨x, r, e, ?_⟩
  show gs r (σ.set i (some x)) H fun σ' H' => wipe σ' vs = wipe σ vs ∧ Q σ' H'
  have := k r (σ.set i (some x)) H Q (by
    rw [wipe_set h]
    exact q)
  rw [wipe_set h] at this
  exact this
theorem gws_tup {K : PySem.W.Frag} {i j : Nat} {gs : TGs} (h : i ∈ vs) (h' : j ∈ vs) (k : GWs gs vs) : GWs (gCons (gTup K 2 (gCons (gName i) (gCons (gName j) gNil))) gs) vs := fun v σ H Q q => by
  obtain ⟨x, r, e, a, xs, e2, hs, hl, y, r2, e3, q⟩ := q
  obtain ⟨z, r3, e4, e5, q⟩ := q
  have q : gs r ((σ.set i (some y)).set j (some z)) H fun σ' H' => wipe σ' vs = wipe σ vs → Q σ' H' := q
  refine ⟨x, r, e, a, xs, e2, hs, hl, y, r2, e3, z, r3, e4, e5, ?_⟩
  have := k r ((σ.set i (some y)).set j (some z)) H Q (by
    rw [wipe_set h', wipe_set h]
    exact q)
  rw [wipe_set h', wipe_set h] at this
  exact this
theorem gw_tup {K : PySem.W.Frag} {n : Nat} {gs : TGs} (k : GWs gs vs) : GW (gTup K n gs) vs := fun v σ H Q q => by
  obtain ⟨a, xs, e, h, hl, q⟩ := q
  exact ⟨a, xs, e, h, hl, k xs σ H Q q⟩
theorem wipe_wipe {σ : L2.St} : ∀ {vs : List Nat}, wipe (wipe σ vs) vs = wipe σ vs := by
  intro vs
  have q : ∀ (ws : List Nat) (σ : L2.St), (∀ i ∈ ws, i < σ.length → σ[i]? = some none) → wipe σ ws = σ := fun ws => by
    induction ws with
    | nil => intro σ _; rfl
    | cons w ws ih =>
      intro σ h
      unfold wipe
      rw [ih σ fun i m => h i (List.mem_cons_of_mem _ m)]
      by_cases hw : w < σ.length
      · have e := h w List.mem_cons_self hw
        apply List.ext_getElem?
        intro j
        by_cases ej : w = j
        · subst ej
          rw [List.getElem?_set_self hw, e]
        · rw [List.getElem?_set_ne ej]
      · rw [List.set_eq_of_length_le (by omega)]
  refine q vs _ fun i m hi => ?_
  cases z : (wipe σ vs)[i]? with
  | none => rw [List.getElem?_eq_none_iff] at z; omega
  | some u =>
    cases u with
    | none => rfl
    | some v => exact absurd m (wipe_some z).2
theorem Ok.put {D : Addr} {u : HO} (o : Ok c τ σ G H F) (h1 : G D = none) (h2 : ∀ i, ¬ F i D) (h3 : c.H0 D = none) (hu : ¬ isTp u) : Ok c τ σ G (upd H D u) F where
  ex := same_own o.ex h1
  tu := o.tu.new hu
  fr := ⟨o.fr.g, fun a v z w => by
    rw [upd_ne (ne_of_none z h3)]
    exact o.fr.h a v z w, o.fr.n, fun a z => by
    by_cases e : a = D
    · rw [e, upd_same]
      exact fun y => nomatch y
    · rw [upd_ne e]
      exact o.fr.t a z⟩
  len := o.len
  sl := o.sl
  rs := fun i l R h => by
    obtain ⟨v, k1, k2⟩ := o.rs i l R h
    exact ⟨v, k1, R.mono v _ _ _ _ _ k2 (Same.refl G) fun a ha => upd_ne (fun e => h2 i (by rw [← e]; exact ha))⟩
  own := fun i a h => by
    obtain ⟨k1, k2, k3⟩ := o.own i a h
    refine ⟨?_, k2, k3⟩
    rw [upd_ne (fun e => h2 i (by rw [← e]; exact h))]
    exact k1
  dj := o.dj
  pn := o.pn
/-- THE RULE for a comprehension: the list so far and the slots -/
theorem w_lcM (hg : GW g vs) (h : WI c wi τ fun its τ1 b1 => still τ1 vs ∧ ∃ Inv : Nat → List DD → Lc → Prop, Inv 0 [] (wipeT τ1 vs) ∧
    (∀ k it acc τ2, its[k]? = some it → acc.length ≤ k → Inv k acc τ2 → WGI c g it τ2 fun τ3 => WT c tt τ3 fun kp τ4 _ =>
      if kp = true then W c te τ4 fun r τ5 _ => (∀ i ∈ vs, free τ5 i) ∧ ∃ d, r = .dat d ∧ Inv (k + 1) (acc ++ [d]) (wipeT τ5 vs) else (∀ i ∈ vs, free τ4 i) ∧ Inv (k + 1) acc (wipeT τ4 vs)) ∧
    (its.length ≤ 100000 ∧ ∀ acc τ2, acc.length ≤ its.length → Inv its.length acc τ2 → (∀ i ∈ vs, ∀ t, τ2[i]? ≠ some (some t)) ∧ Φ (.res true (ownL acc)) (unwipe τ1 τ2 vs) false)) : W c (tLc wi g tt te vs) τ Φ := fun σ G H F o Q q =>
  h σ G H F o _ fun J its G1 H1 F1 τ1 b1 p1 g1 wk => by
    obtain ⟨hst, Inv, i0, is, hz, ie⟩ := p1
    intro D hD
    obtain ⟨F1', ow, hF1⟩ := g1.ok.wipe (vs := vs) fun i m R => hst i m false R
    -- the frame of the block
    have gD : G1 D = none := by
      cases z : G1 D with
      | none => rfl
      | some w => have := g1.ok.ex _ _ z; rw [hD] at this; cases this
    have h0D : c.H0 D = none := by
      cases z : c.H0 D with
      | none => rfl
      | some w => exact absurd hD (g1.ok.fr.t D (ne_none z))
    have hHD : H D = none := by
      cases z : H D with
      | none => rfl
      | some w => exact absurd hD (g1.fr.t D (ne_none z))
    refine ⟨fun i m H' => ∃ acc τ' G' F' ys, Inv i acc τ' ∧ acc.length ≤ i ∧ Ok c τ' (wipe σ vs) G' H' F' ∧ Same G1 G' ∧ i + m = its.length ∧ H' D = some (.lst ys) ∧ RepL G' acc ys ∧ G' D = none ∧ (∀ i, ¬ F' i D) ∧
      Fr (Mt false F1) G1 H1 G' H' ∧ (∀ i a, F' i a → F1 i a ∨ H1 a = none), ⟨its.length, ?_⟩, ?_⟩
    · have f := Fr.new (G := G1) (o := .lst []) hD
      refine ⟨[], wipeT τ1 vs, G1, F1', [], i0, Nat.le_refl _, ow.grow f (same_new g1.ok.ex hD) (g1.ok.tu.new fun z => z), Same.refl _, by omega, upd_same, rfl, gD, fun i z => (ow.own i D z).1 hD, f.mono fun _ z => z.elim, fun i a z => .inl (hF1 i a z)⟩
    · rintro i m H' ⟨acc, τ', G', F', ys, hi, hal, o', e', em, hys, rys, gD', nF, fr', fp'⟩
      by_cases hl : i < its.length
      · refine .inr ⟨wk.go i G' H' hl e' o'.ex o'.fr, fun H2 => ∃ acc τ' G' F' ys, Inv (i + 1) acc τ' ∧ acc.length ≤ i + 1 ∧ Ok c τ' (wipe σ vs) G' H2 F' ∧ Same G1 G' ∧ H2 D = some (.lst ys) ∧ RepL G' acc ys ∧ G' D = none ∧ (∀ i, ¬ F' i D) ∧
          Fr (Mt false F1) G1 H1 G' H2 ∧ (∀ i a, F' i a → F1 i a ∨ H1 a = none), ?_, fun x H2 y => ?_⟩
        · rintro H2 ⟨acc, τ', G', F', ys, a1, a2, a3, a4, a5, a6, a7, a8, a9, a10⟩
          exact ⟨m - 1, by omega, acc, τ', G', F', ys, a1, a2, a3, a4, by omega, a5, a6, a7, a8, a9, a10⟩
        · have ht : its[i]? = some its[i] := by simp
          have yy := wk.yl i _ G' H' x H2 ht e' o'.ex o'.fr y
          -- the same, seen with the new list left out
          have key : ∀ Q0 : L2.St → Hp → Prop, (g x (wipe σ vs) H2 fun σ2 H3 => wipe σ2 vs = wipe σ vs → Q0 σ2 H3) → g x (wipe σ vs) H2 fun σ2 H3 => wipe σ2 vs = wipe σ vs ∧ Q0 σ2 H3 := fun Q0 q0 => by
            have := hg x (wipe σ vs) H2 Q0 (by
              simp only [wipe_wipe]
              exact q0)
            simp only [wipe_wipe] at this
            exact this
          -- the value drawn keeps the new list as it is
          have hy2 : H2 D = some (.lst ys) ∧ Fr No G' H' G' H2 := by
            cases hit : its[i] with
            | one t =>
              rw [hit] at yy
              obtain ⟨rfl, _⟩ := yy
              exact ⟨hys, Fr.refl⟩
            | two t u =>
              rw [hit] at yy
              obtain ⟨T, y, z, _, hT, rfl, _, _⟩ := yy
              exact ⟨by rw [upd_ne (ne_of_none hys hT)]; exact hys, Fr.new hT⟩
          -- the end of a turn: no slot of the block is left, the list is longer
          have fin : ∀ {σ5 : L2.St} {τ5 : Lc} {G5 H5 : Hp} {F5 : Nat → Addr → Prop}, wipe σ5 vs = wipe σ vs → Ok c τ5 σ5 G5 H5 F5 → (∀ j ∈ vs, free τ5 j) → Fr (Mt false F1) G1 H1 G5 H5 → H5 D = some (.lst ys) → G5 D = none → (∀ j a, F5 j a → F' j a ∨ H' a = none) →
              ∃ F6, Ok c (wipeT τ5 vs) (wipe σ vs) G5 H5 F6 ∧ (∀ j, ¬ F6 j D) ∧ ∀ j a, F6 j a → F1 j a ∨ H1 a = none := fun {σ5 τ5 G5 H5 F5} hw5 o5 h5 f5 hD5 gD5 k5 => by
            obtain ⟨F6, o6, k6⟩ := o5.wipe (vs := vs) h5
            rw [hw5] at o6
            refine ⟨F6, o6, fun j z => ?_, fun j a z => ?_⟩
            · rcases k5 j D (k6 j D z) with y | y
              · exact nF j y
              · rw [hys] at y; cases y
            · rcases k5 j a (k6 j a z) with y | y
              · exact fp' j a y
              · refine .inr ?_
                cases w : H1 a with
                | none => rfl
                | some u => exact absurd y (fr'.t a (by rw [w]; exact (fun z => by cases z)))
          have stp := is i _ acc τ' ht hal hi (wipe σ vs) G' H' F' x H2 o' yy
          refine key _ (stp _ fun τ3 σ3 G3 H3 F3 n3 o3 f3 k3 hw3 => ?_)
          have hD3 : H3 D = some (.lst ys) := f3.h D _ hys fun z => z
          have gD3 : G3 D = none := f3.n D gD' (ne_none hys) (fun z => z)
          refine n3 σ3 G3 H3 F3 o3 _ fun kp G4 H4 F4 τ4 b4 p4 g4 => ?_
          have hD4 : H4 D = some (.lst ys) := g4.fr.h D _ hD3 fun z => nF _ (k3 _ _ z.2.choose_spec)
          have gD4 : G4 D = none := g4.fr.n D gD3 (ne_none hD3) (fun z => nF _ (k3 _ _ z.2.choose_spec))
          have f4 : Fr (Mt false F1) G1 H1 G4 H4 := by
            refine Fr.trans (Fr.trans fr' f3 fun _ z => z.elim) (g4.fr.mono (Y := Mt false F') fun a z => ⟨rfl, z.2.imp fun j y => k3 j a y⟩) fun a z => ?_
            obtain ⟨_, j, z⟩ := z
            rcases fp' j a z with y | y
            · exact .inl ⟨rfl, j, y⟩
            · exact .inr y
          have k4 : ∀ j a, F4 j a → F' j a ∨ H' a = none := fun j a z => (g4.fp j a z).imp (k3 j a) fun y => by
            cases w : H' a with
            | none => rfl
            | some u => exact absurd y (f3.t a (by rw [w]; exact (fun z => by cases z)))
          cases kp with
          | false =>
            have p4 : (∀ i ∈ vs, free τ4 i) ∧ Inv (i + 1) acc (wipeT τ4 vs) := p4
            obtain ⟨F6, o6, n6, k6⟩ := fin hw3 g4.ok p4.1 f4 hD4 gD4 k4
            exact ⟨acc, _, G4, F6, ys, p4.2, by omega, o6, e'.trans (f3.g.trans g4.fr.g), hD4, rys.mono (f3.g.trans g4.fr.g) _ _, gD4, n6, f4, k6⟩
          | true =>
            have p4 : W c te τ4 fun r τ5 _ => (∀ i ∈ vs, free τ5 i) ∧ ∃ d, r = .dat d ∧ Inv (i + 1) (acc ++ [d]) (wipeT τ5 vs) := p4
            refine p4 σ3 G4 H4 F4 g4.ok _ fun y G5 H5 F5 r5 τ5 b5 p5 g5 s5 => ?_
            obtain ⟨hf5, d, rfl, i5⟩ := p5
            have nF4 : ∀ j, ¬ F4 j D := fun j z => by
              rcases k4 j D z with y | y
              · exact nF j y
              · rw [hys] at y; cases y
            have hD5 : H5 D = some (.lst ys) := g5.fr.h D _ hD4 fun z => nF4 _ z.2.choose_spec
            have gD5 : G5 D = none := g5.fr.n D gD4 (ne_none hD4) (fun z => nF4 _ z.2.choose_spec)
            have f5 : Fr (Mt false F1) G1 H1 G5 H5 := by
              refine Fr.trans f4 (g5.fr.mono (Y := Mt false F4) fun a z => ⟨rfl, z.2⟩) fun a z => ?_
              obtain ⟨_, j, z⟩ := z
              rcases k4 j a z with y | y
              · rcases fp' j a y with y | y
                · exact .inl ⟨rfl, j, y⟩
                · exact .inr y
              · refine .inr ?_
                cases w : H1 a with
                | none => rfl
                | some u => exact absurd y (fr'.t a (by rw [w]; exact (fun z => by cases z)))
            have k5 : ∀ j a, F5 j a → F' j a ∨ H' a = none := fun j a z => by
              rcases g5.fp j a z with y | y
              · exact k4 j a y
              · refine .inr ?_
                cases w : H' a with
                | none => rfl
                | some u => exact absurd y (g4.fr.t a (f3.t a (by rw [w]; exact (fun z => by cases z))))
            obtain ⟨F6, o6, n6, k6⟩ := fin hw3 g5.ok hf5 f5 hD5 gD5 k5
            have eg : Same G' G5 := f3.g.trans (g4.fr.g.trans g5.fr.g)
            refine ⟨ys, hD5, by rw [rys.length]; exact sz_lt (by omega), acc ++ [d], _, G5, F6, ys ++ [y], i5, by rw [List.length_append, List.length_singleton]; omega, o6.put gD5 n6 h0D (fun z => z), e'.trans eg, upd_same, (rys.mono eg _ _).append (RepL.cons s5 rfl), gD5, n6, ?_, k6⟩
            exact ⟨f5.g, fun a u z w => by
              rw [upd_ne (ne_of_none z hD)]
              exact f5.h a u z w, f5.n, fun a z => by
              by_cases ea : a = D
              · rw [ea, upd_same]; exact (fun z => by cases z)
              · rw [upd_ne ea]; exact f5.t a z⟩
      · have e : i = its.length := by omega
        subst e
        refine .inl ⟨wk.stop G' H' e' o'.ex o'.fr, ?_⟩
        obtain ⟨hw, k⟩ := ie acc τ' hal hi
        have ou := Ok.unwipe g1.ok o' e' hst hw
        have f2 := fr'
        have gg := g1.trans (b2 := false) (τ2 := unwipe τ1 τ' vs) (G2 := G') (H2 := H') (F2 := F') ⟨ou, f2, fp'⟩
        rw [Bool.and_false] at gg
        refine q _ G' H' F' _ _ false k gg ⟨rfl, _, ⟨D, ys, rfl, hys, rys, rfl⟩, fun a ha => ?_⟩
        subst ha
        exact ⟨hHD, by rw [hys]; exact (fun z => by cases z), gD', nF⟩
end
end Z
set_option Elab.async false
set_option linter.all false
set_option maxRecDepth 100000
/-! Z5: the operators on data; owned lists changed. -/
namespace Z
open PySem PySem.Spec PyProof.Rows L2
/-! ### numbers -/
section
variable {G H : Hp} {i j : Int}
theorem o2_I0 {g : Int → Int → V} {f : DD} (h : ∀ G, Rep G f (g i j)) : Op2 (rI0 g) (.int i) (.int j) f := fun G H x y e t hx hy Q q => ⟨i, j, hx, hy, q _ G H Fr.refl e t (h G)⟩
theorem o2_I {C : Int → Int → Prop} {g : Int → Int → V} {f : DD} (hc : C i j) (h : ∀ G, Rep G f (g i j)) : Op2 (rI C g) (.int i) (.int j) f := fun G H x y e t hx hy Q q => ⟨i, j, hx, hy, hc, q _ G H Fr.refl e t (h G)⟩
theorem o2_add : Op2 (rI0 fun i j => .int (i + j)) (.int i) (.int j) (.int (i + j)) := o2_I0 fun _ => rfl
theorem o2_sub : Op2 (rI0 fun i j => .int (i - j)) (.int i) (.int j) (.int (i - j)) := o2_I0 fun _ => rfl
theorem o2_lt : Op2 (rI0 fun i j => .bl (decide (i < j))) (.int i) (.int j) (.bl (decide (i < j))) := o2_I0 fun _ => rfl
theorem o2_le : Op2 (rI0 fun i j => .bl (decide (i ≤ j))) (.int i) (.int j) (.bl (decide (i ≤ j))) := o2_I0 fun _ => rfl
theorem o2_gt : Op2 (rI0 fun i j => .bl (decide (j < i))) (.int i) (.int j) (.bl (decide (j < i))) := o2_I0 fun _ => rfl
theorem o2_ge : Op2 (rI0 fun i j => .bl (decide (j ≤ i))) (.int i) (.int j) (.bl (decide (j ≤ i))) := o2_I0 fun _ => rfl
theorem o2_mul (h : CMul i j) : Op2 (rI CMul fun i j => .int (i * j)) (.int i) (.int j) (.int (i * j)) := o2_I h fun _ => rfl
theorem o2_mod (h : 0 < j) : Op2 (rI (fun _ j => 0 < j) fun i j => .int (i % j)) (.int i) (.int j) (.int (i % j)) := o2_I h fun _ => rfl
theorem o2_fdiv (h : CDivW i j) : Op2 (rI CDivW fun i j => .int (i / j)) (.int i) (.int j) (.int (i / j)) := o2_I h fun _ => rfl
theorem o2_pow (h : CPow i j) : Op2 (rI CPow fun i j => .int (i ^ j.toNat)) (.int i) (.int j) (.int (i ^ j.toNat)) := o2_I h fun _ => rfl
theorem o1_neg : Op1 (rU fun i => .int (-i)) (.int i) (.int (-i)) := fun G H x e t hx Q q => ⟨i, hx, q _ G H Fr.refl e t rfl⟩
end
theorem cmul_l {i j : Int} (h : -1000000000000000000 < i ∧ i < 1000000000000000000) : CMul i j := .inl ⟨by omega, by omega⟩
theorem cmul_r {i j : Int} (h : -1000000000000000000 < j ∧ j < 1000000000000000000) : CMul i j := .inr ⟨by omega, by omega⟩
/-! ### data as the kit's data -/
mutual
def py : DD → PyData
  | .bl b => .bool b
  | .int i => .int i
  | .str s => .str s
  | .tup xs => .tuple (pyL xs)
  | .tpl xs => .tuple (pyL xs)
  | .lst xs => .list (pyL xs)
  | _ => .none
def pyL : List DD → List PyData
  | [] => []
  | x :: xs => py x :: pyL xs
end
/-! plain data of a depth -/
mutual
def Nice : Nat → DD → Prop
  | _, .non => True
  | _, .bl _ => True
  | _, .int _ => True
  | _, .str s => PyData.strOk s = true
  | 0, .tup _ => False
  | 0, .tpl _ => False
  | 0, .lst _ => False
  | n + 1, .tup xs => NiceL n xs
  | n + 1, .tpl xs => NiceL n xs
  | n + 1, .lst xs => NiceL n xs
  | _, .ty _ => False
  | _, .abs _ _ => False
  | _, .obj _ _ _ => False
def NiceL : Nat → List DD → Prop
  | _, [] => True
  | n, x :: xs => Nice n x ∧ NiceL n xs
end
theorem NiceL.of {n : Nat} : ∀ {xs : List DD}, (∀ x ∈ xs, Nice n x) → NiceL n xs
  | [], _ => by unfold NiceL; exact True.intro
  | x :: xs, h => by
    unfold NiceL
    exact ⟨h x List.mem_cons_self, NiceL.of fun y hy => h y (List.mem_cons_of_mem _ hy)⟩
theorem NiceL.mem {n : Nat} : ∀ {xs : List DD}, NiceL n xs → ∀ x ∈ xs, Nice n x
  | [], _, x, h => by simp at h
  | y :: ys, h, x, hx => by
    unfold NiceL at h
    rcases List.mem_cons.mp hx with e | e
    · rw [e]; exact h.1
    · exact NiceL.mem h.2 x e
theorem nice_lst {n : Nat} {xs : List DD} (h : ∀ x ∈ xs, Nice n x) : Nice (n + 1) (.lst xs) := by
  unfold Nice
  exact NiceL.of h
theorem nice_tup {n : Nat} {xs : List DD} (h : ∀ x ∈ xs, Nice n x) : Nice (n + 1) (.tup xs) := by
  unfold Nice
  exact NiceL.of h
theorem nice_tpl {n : Nat} {xs : List DD} (h : ∀ x ∈ xs, Nice n x) : Nice (n + 1) (.tpl xs) := by
  unfold Nice
  exact NiceL.of h
theorem nice_int {n : Nat} {i : Int} : Nice n (.int i) := by cases n <;> (unfold Nice; exact True.intro)
theorem nice_bl {n : Nat} {i : Bool} : Nice n (.bl i) := by cases n <;> (unfold Nice; exact True.intro)
theorem nice_non {n : Nat} : Nice n .non := by cases n <;> (unfold Nice; exact True.intro)
mutual
theorem Nice.lay : ∀ (n : Nat) (d : DD), Nice n d → (py d).canLay0 = true ∧ (py d).depth ≤ n
  | n, .non, _ => by simp [py, PyData.canLay0, PyData.depth]
  | n, .bl _, _ => by simp [py, PyData.canLay0, PyData.depth]
  | n, .int _, _ => by simp [py, PyData.canLay0, PyData.depth]
  | n, .str s, h => by
    have h' : PyData.strOk s = true := by cases n <;> (unfold Nice at h; exact h)
    simp [py, PyData.canLay0, PyData.depth, h']
  | 0, .tup _, h => by unfold Nice at h; exact h.elim
  | 0, .tpl _, h => by unfold Nice at h; exact h.elim
  | 0, .lst _, h => by unfold Nice at h; exact h.elim
  | n + 1, .tup xs, h => by
    unfold Nice at h
    have := NiceL.lay n xs h
    simp [py, PyData.canLay0, PyData.depth, this.1]
    exact this.2
  | n + 1, .lst xs, h => by
    unfold Nice at h
    have := NiceL.lay n xs h
    simp [py, PyData.canLay0, PyData.depth, this.1]
    exact this.2
  | n + 1, .tpl xs, h => by
    unfold Nice at h
    have := NiceL.lay n xs h
    simp [py, PyData.canLay0, PyData.depth, this.1]
    exact this.2
  | n, .ty _, h => by cases n <;> (unfold Nice at h; exact h.elim)
  | n, .abs _ _, h => by cases n <;> (unfold Nice at h; exact h.elim)
  | n, .obj _ _ _, h => by cases n <;> (unfold Nice at h; exact h.elim)
theorem NiceL.lay : ∀ (n : Nat) (ds : List DD), NiceL n ds → PyData.canLayAll0 (pyL ds) = true ∧ PyData.depthAll (pyL ds) ≤ n
  | n, [], _ => by simp [pyL, PyData.canLayAll0, PyData.depthAll]
  | n, d :: ds, h => by
    unfold NiceL at h
    have h1 := Nice.lay n d h.1
    have h2 := NiceL.lay n ds h.2
    simp only [pyL, PyData.canLayAll0, PyData.depthAll, h1.1, h2.1, Bool.and_self, true_and]
    omega
end
theorem Nice.shaped {n : Nat} {d : DD} (h : Nice n d) (hn : n ≤ 64) : SeqAt.shaped (py d) = true := by
  have := Nice.lay n d h
  simp [SeqAt.shaped, this.1]
  omega
mutual
theorem Nice.dp {K : PySem.W.Frag} {H : Hp} : ∀ (n : Nat) (d : DD) (v : V), Nice n d → Rep H d v → Dp K H v (py d)
  | n, .non, _, _, h => by
    have e : _ = V.non := h
    subst e
    exact .non
  | n, .bl b, _, _, h => by
    have e : _ = V.bl b := h
    subst e
    exact .bl b
  | n, .int b, _, _, h => by
    have e : _ = V.int b := h
    subst e
    exact .int b
  | n, .str b, _, _, h => by
    have e : _ = V.str b := h
    subst e
    exact .str b
  | 0, .tup _, _, h, _ => by unfold Nice at h; exact h.elim
  | 0, .tpl _, _, h, _ => by unfold Nice at h; exact h.elim
  | 0, .lst _, _, h, _ => by unfold Nice at h; exact h.elim
  | n + 1, .tup xs, _, hn, h => by
    unfold Nice at hn
    obtain ⟨a, vs, rfl, h2, h3⟩ := h
    exact .tup (.inl h2) (NiceL.dp n xs vs hn h3)
  | n + 1, .tpl xs, _, hn, h => by
    unfold Nice at hn
    obtain ⟨a, vs, o, rfl, h2, h3⟩ := h
    exact .tup (.inl (.inr ⟨o, h2.1⟩)) (NiceL.dp n xs vs hn h3)
  | n + 1, .lst xs, _, hn, h => by
    unfold Nice at hn
    obtain ⟨a, vs, rfl, h2, h3⟩ := h
    exact .lst (SqL.of h2) (NiceL.dp n xs vs hn h3)
  | n, .ty _, _, h, _ => by cases n <;> (unfold Nice at h; exact h.elim)
  | n, .abs _ _, _, h, _ => by cases n <;> (unfold Nice at h; exact h.elim)
  | n, .obj _ _ _, _, h, _ => by cases n <;> (unfold Nice at h; exact h.elim)
theorem NiceL.dp {K : PySem.W.Frag} {H : Hp} : ∀ (n : Nat) (ds : List DD) (vs : List V), NiceL n ds → RepL H ds vs → DpAll K H vs (pyL ds)
  | n, [], _, _, h => by
    have e : _ = [] := h
    subst e
    exact .nil
  | n, d :: ds, _, hn, h => by
    unfold NiceL at hn
    obtain ⟨v, r, rfl, h2, h3⟩ := h
    exact .cons (Nice.dp n d v hn.1 h2) (NiceL.dp n ds r hn.2 h3)
end
/-- == of data -/
def deqv (d e : DD) : Bool := PyData.eqv (py d) (py e)
theorem o2_eq {K : PySem.W.Frag} {d e : DD} {n m : Nat} (h1 : Nice n d) (h2 : Nice m e) (hn : n ≤ 64) (hm : m ≤ 64) : Op2 (rEqD K) d e (.bl (deqv d e)) := fun G H x y ex t hx hy Q q =>
  ⟨py d, py e, Nice.dp n d x h1 hx, Nice.dp m e y h2 hy, h1.shaped hn, h2.shaped hm, q _ G H Fr.refl ex t rfl⟩
theorem o2_ne {K : PySem.W.Frag} {d e : DD} {n m : Nat} (h1 : Nice n d) (h2 : Nice m e) (hn : n ≤ 64) (hm : m ≤ 64) : Op2 (rNeD K) d e (.bl (!deqv d e)) := fun G H x y ex t hx hy Q q =>
  ⟨py d, py e, Nice.dp n d x h1 hx, Nice.dp m e y h2 hy, h1.shaped hn, h2.shaped hm, q _ G H Fr.refl ex t rfl⟩
theorem o2_inD {K : PySem.W.Frag} {d : DD} {es : List DD} {n m : Nat} (h1 : Nice n d) (h2 : Nice m (.lst es)) (hn : n ≤ 64) (hm : m ≤ 64) : Op2 (rInD K) d (.lst es) (.bl (es.any fun z => deqv z d)) := fun G H x y ex t hx hy Q q => by
  have e : ∀ es : List DD, (pyL es).any (fun z => PyData.eqv z (py d)) = es.any fun z => deqv z d := fun es => by
    induction es with
    | nil => rfl
    | cons a r ih =>
      show (PyData.eqv (py a) (py d) || (pyL r).any fun z => PyData.eqv z (py d)) = (deqv a d || r.any fun z => deqv z d)
      rw [ih]
      rfl
  refine ⟨py d, pyL es, Nice.dp n d x h1 hx, Nice.dp m _ y h2 hy, h1.shaped hn, h2.shaped hm, ?_⟩
  rw [e es]
  exact q _ G H Fr.refl ex t rfl
theorem deqv_int {i j : Int} : deqv (.int i) (.int j) = (i == j) := by simp [deqv, py, PyData.eqv]
theorem deqv_str {i j : Str} : deqv (.str i) (.str j) = (i == j) := by simp [deqv, py, PyData.eqv]
theorem deqv_bl {i j : Bool} : deqv (.bl i) (.bl j) = (i == j) := by simp [deqv, py, PyData.eqv]
def deqvL : List DD → List DD → Bool
  | [], [] => true
  | x :: xs, y :: ys => deqv x y && deqvL xs ys
  | _, _ => false
theorem eqvAll_L : ∀ {xs ys : List DD}, PyData.eqvAll (pyL xs) (pyL ys) = deqvL xs ys
  | [], [] => rfl
  | [], _ :: _ => rfl
  | _ :: _, [] => rfl
  | x :: xs, y :: ys => by
    show (PyData.eqv (py x) (py y) && PyData.eqvAll (pyL xs) (pyL ys)) = (deqv x y && deqvL xs ys)
    rw [eqvAll_L]
    rfl
theorem deqv_lst {xs ys : List DD} : deqv (.lst xs) (.lst ys) = deqvL xs ys := by
  show PyData.eqv (.list (pyL xs)) (.list (pyL ys)) = _
  rw [PyData.eqv, eqvAll_L]
theorem deqv_tup {xs ys : List DD} : deqv (.tup xs) (.tup ys) = deqvL xs ys := by
  show PyData.eqv (.tuple (pyL xs)) (.tuple (pyL ys)) = _
  rw [PyData.eqv, eqvAll_L]
theorem deqvL_self_iff {α : Type} {f : α → DD} (hf : ∀ a b, deqv (f a) (f b) = true ↔ a = b) : ∀ {xs ys : List α}, deqvL (xs.map f) (ys.map f) = true ↔ xs = ys
  | [], [] => by simp [deqvL]
  | [], y :: ys => by simp [deqvL]
  | x :: xs, [] => by simp [deqvL]
  | x :: xs, y :: ys => by
    rw [List.map_cons, List.map_cons, deqvL, Bool.and_eq_true, hf, deqvL_self_iff hf, List.cons.injEq]
/-! ### subscripts -/
section
variable {c : Cfg} {τ : Lc} {Φ : Tg → Lc → Bool → Prop} {te ta tb tc : TE} {t : TA} {K : PySem.W.Frag} {D : AE} {i j : Nat}
theorem atI_rep {G : Hp} {ds : List DD} {vs : List V} {n : Int} {d : DD} (h : RepL G ds vs) (ha : atI ds n = some d) : ∃ v, atI vs n = some v ∧ Rep G d v := by
  unfold atI at ha ⊢
  rw [h.length]
  cases z : ixN ds.length n with
  | none => rw [z] at ha; cases ha
  | some k =>
    rw [z] at ha
    exact h.get ha
/-- an item of data, of a list of one's own -/
theorem w_ix (h : W c ta τ fun x τ1 b1 => W c tb τ1 fun y τ2 b2 => stb x b2 = true ∧ ∃ n d, y = .dat (.int n) ∧ ((∃ ds, Dl τ2 x (.lst ds) ∧ atI ds n = some d) ∨ ∃ ds, Dl τ2 x (.tup ds) ∧ atI ds n = some d) ∧ Φ (.dat d) τ2 (b1 && b2)) :
    W c (tOp (rIx K) ta tb) τ Φ := fun σ G H F o Q q =>
  h σ G H F o _ fun x G1 H1 F1 rx τ1 b1 p1 g1 s1 => p1 σ G1 H1 F1 g1.ok _ fun y G2 H2 F2 ry τ2 b2 p2 g2 s2 => by
    obtain ⟨hs, n, d, rfl, hd, k⟩ := p2
    have s1' := s1.keep g2 hs
    have e2 : y = .int n := s2
    subst e2
    rcases hd with ⟨ds, hl, ha⟩ | ⟨ds, hl, ha⟩
    · obtain ⟨p, vs, rfl, h2, h3⟩ := hl.lst g2.ok s1'
      obtain ⟨v, h4, h5⟩ := atI_rep h3 ha
      exact .inl ⟨p, vs, n, v, rfl, rfl, SqL.of h2, h4, q v G2 H2 F2 _ τ2 _ k (g1.trans g2) h5⟩
    · obtain ⟨p, vs, rfl, h2, h3⟩ := hl.tup g2.ok s1'
      obtain ⟨v, h4, h5⟩ := atI_rep h3 ha
      exact .inr (.inl ⟨p, vs, n, v, rfl, rfl, .inl h2, h4, q v G2 H2 F2 _ τ2 _ k (g1.trans g2) h5⟩)
def scal : DD → Bool
  | .non => true
  | .bl _ => true
  | .int _ => true
  | .str _ => true
  | .ty _ => true
  | _ => false
theorem scal_any {d : DD} (h : scal d = true) {G G' : Hp} {v : V} (r : Rep G d v) : Rep G' d v := by
  cases d with
  | tup xs => cases h
  | tpl xs => cases h
  | lst xs => cases h
  | obj C ns xs => cases h
  | abs φ m => cases h
  | _ => exact r
/-- a seen thing's part: a number is data -/
def seen (f : DD → Tg) (d : DD) : Tg := if scal d = true then .dat d else f d
theorem w_ixV (h : W c ta τ fun x τ1 b1 => W c tb τ1 fun y τ2 b2 => stb x b2 = true ∧ ∃ n d, y = .dat (.int n) ∧ ((∃ ds, x = .vol (.lst ds) ∧ atI ds n = some d ∧ Φ (seen .vol d) τ2 (b1 && b2)) ∨ (∃ ds, x = .vol (.tup ds) ∧ atI ds n = some d ∧ Φ (seen .vol d) τ2 (b1 && b2)) ∨
      (∃ ds, Dv τ2 x (.lst ds) ∧ atI ds n = some d ∧ Φ (seen .tmp d) τ2 (b1 && b2)) ∨ ∃ ds, Dv τ2 x (.tup ds) ∧ atI ds n = some d ∧ Φ (seen .tmp d) τ2 (b1 && b2))) :
    W c (tOp (rIx K) ta tb) τ Φ := fun σ G H F o Q q =>
  h σ G H F o _ fun x G1 H1 F1 rx τ1 b1 p1 g1 s1 => p1 σ G1 H1 F1 g1.ok _ fun y G2 H2 F2 ry τ2 b2 p2 g2 s2 => by
    obtain ⟨hs, n, d, rfl, hd⟩ := p2
    have s1' := s1.keep g2 hs
    have e2 : y = .int n := s2
    subst e2
    have fin : ∀ (f : DD → Tg) (v : V), Φ (seen f d) τ2 (b1 && b2) → (scal d = false → Rs c σ H G2 H2 F2 (f d) v) → (∃ Gx, Rep Gx d v) → Q v H2 := fun f v k hf hr => by
      refine q v G2 H2 F2 _ τ2 _ k (g1.trans g2) ?_
      obtain ⟨Gx, hr⟩ := hr
      unfold seen
      cases z : scal d with
      | true =>
        rw [if_pos rfl]
        exact scal_any z hr
      | false =>
        rw [if_neg (by simp)]
        exact hf z
    rcases hd with ⟨ds, rfl, ha, k⟩ | ⟨ds, rfl, ha, k⟩ | ⟨ds, hl, ha, k⟩ | ⟨ds, hl, ha, k⟩
    · obtain ⟨Gv, hv, a, vs, rfl, h2, h3⟩ := s1'
      obtain ⟨v, h4, h5⟩ := atI_rep h3 ha
      exact .inl ⟨a, vs, n, v, rfl, rfl, SqL.of (g2.ok.fr.h a _ (hv a _ h2).1 (hv a _ h2).2), h4, fin _ v k (fun _ => ⟨Gv, hv, h5⟩) ⟨Gv, h5⟩⟩
    · obtain ⟨Gv, hv, a, vs, rfl, h2, h3⟩ := s1'
      obtain ⟨v, h4, h5⟩ := atI_rep h3 ha
      exact .inr (.inl ⟨a, vs, n, v, rfl, rfl, .inl (rd_mono (fun a o z => g2.ok.fr.h a o (hv a o z).1 (hv a o z).2) h2), h4, fin _ v k (fun _ => ⟨Gv, hv, h5⟩) ⟨Gv, h5⟩⟩)
    · obtain ⟨a, vs, rfl, h2, h3⟩ := hl.rep g2.ok s1'
      obtain ⟨v, h4, h5⟩ := atI_rep h3 ha
      exact .inl ⟨a, vs, n, v, rfl, rfl, SqL.of h2, h4, fin _ v k (fun _ => h5) ⟨H2, h5⟩⟩
    · obtain ⟨a, vs, rfl, h2, h3⟩ := hl.rep g2.ok s1'
      obtain ⟨v, h4, h5⟩ := atI_rep h3 ha
      exact .inr (.inl ⟨a, vs, n, v, rfl, rfl, .inl h2, h4, fin _ v k (fun _ => h5) ⟨H2, h5⟩⟩)
/-! ### built-ins -/
def rLen (K : PySem.W.Frag) : List V → Hp → VK → Prop := fun xs H Q => ∃ p ys, xs = [.ref p] ∧ (SqL K H p ys ∨ SqT K H p ys) ∧ Q (.int ys.length) H
theorem oa_lenL {ds : List DD} : OpA (rLen K) [.lst ds] (.int ds.length) := fun G H xs e t h Q q => by
  obtain ⟨v, r, rfl, ⟨a, vs, rfl, h2, h3⟩, h4⟩ := h
  have e4 : r = [] := h4
  subst e4
  refine ⟨a, vs, rfl, .inl (SqL.of h2), ?_⟩
  rw [h3.length]
  exact q _ G H Fr.refl e t rfl
theorem oa_lenT {ds : List DD} : OpA (rLen K) [.tup ds] (.int ds.length) := fun G H xs e t h Q q => by
  obtain ⟨v, r, rfl, ⟨a, vs, rfl, h2, h3⟩, h4⟩ := h
  have e4 : r = [] := h4
  subst e4
  refine ⟨a, vs, rfl, .inr (.inl h2), ?_⟩
  rw [h3.length]
  exact q _ G H Fr.refl e t rfl
theorem oa_all {bs : List Bool} : OpA (rAll K) [.lst (bs.map .bl)] (.bl (bs.all id)) := fun G H xs e t h Q q => by
  obtain ⟨v, r, rfl, ⟨a, vs, rfl, h2, h3⟩, h4⟩ := h
  have e4 : r = [] := h4
  subst e4
  rw [h3.bls] at h2
  exact ⟨a, bs, rfl, SqL.of h2, q _ G H Fr.refl e t rfl⟩
theorem oa_any {bs : List Bool} : OpA (rAny K) [.lst (bs.map .bl)] (.bl (bs.any id)) := fun G H xs e t h Q q => by
  obtain ⟨v, r, rfl, ⟨a, vs, rfl, h2, h3⟩, h4⟩ := h
  have e4 : r = [] := h4
  subst e4
  rw [h3.bls] at h2
  exact ⟨a, bs, rfl, SqL.of h2, q _ G H Fr.refl e t rfl⟩
theorem oa_sum {ns : List Int} : OpA (rSum K) [.lst (ns.map .int)] (.int ns.sum) := fun G H xs e t h Q q => by
  obtain ⟨v, r, rfl, ⟨a, vs, rfl, h2, h3⟩, h4⟩ := h
  have e4 : r = [] := h4
  subst e4
  rw [h3.ints] at h2
  exact ⟨a, ns, rfl, SqL.of h2, q _ G H Fr.refl e t rfl⟩
/-- the name of a datum's type -/
def tyN : DD → String
  | .non => "NoneType"
  | .bl _ => "bool"
  | .int _ => "int"
  | .str _ => "str"
  | .tup _ => "tuple"
  | .tpl _ => "tuple"
  | .lst _ => "list"
  | _ => ""
def isPl : DD → Bool
  | .ty _ => false
  | .abs _ _ => false
  | .obj _ _ _ => false
  | _ => true
theorem tyx_of {H : Hp} {d : DD} {v : V} (hp : isPl d = true) (h : Rep H d v) : TyX K H v (.type (tyN d)) := by
  cases d with
  | non => cases (show v = V.non from h); exact .base .non
  | bl b => cases (show v = V.bl b from h); exact .base (.bl b)
  | int b => cases (show v = V.int b from h); exact .base (.int b)
  | str b => cases (show v = V.str b from h); exact .base (.str b)
  | tup xs =>
    obtain ⟨a, vs, rfl, h2, _⟩ := h
    rcases h2 with h2 | ⟨o, h2⟩
    · exact .base (.tup h2)
    · exact .fTuple h2
  | tpl xs => obtain ⟨a, vs, o, rfl, h2, _⟩ := h; exact .fTuple h2.1
  | lst xs => obtain ⟨a, vs, rfl, h2, _⟩ := h; exact .base (.lst h2)
  | ty n => cases hp
  | abs _ _ => cases hp
  | obj C ns xs => cases hp
theorem oa_isi {d : DD} {n : String} {b : Bool} (hp : isPl d = true) (hk : kitB (tyN d) n = some b) : OpA (rIsi K) [d, .ty n] (.bl b) := fun G H xs e t h Q q => by
  obtain ⟨v, r, rfl, h2, v2, r2, rfl, h3, h4⟩ := h
  have e4 : r2 = [] := h4
  subst e4
  cases (show v2 = V.ty n from h3)
  exact ⟨v, .ty n, .type (tyN d), .type n, b, rfl, .ty n, tyx_of hp h2, kit_ty hk, q _ G H Fr.refl e t rfl⟩
def isiAny (a : String) : List String → Option Bool
  | [] => some false
  | n :: ns => match kitB a n with
    | some true => some true
    | some false => isiAny a ns
    | none => none
theorem kitAny_of {a : String} : ∀ {ns : List String} {b : Bool}, isiAny a ns = some b → PySem.W.kitAny K (.type a) (ns.map Value.type) = some b
  | [], b, h => h
  | n :: ns, b, h => by
    unfold isiAny at h
    cases z : kitB a n with
    | none => rw [z] at h; cases h
    | some k =>
      rw [z] at h
      have := kit_ty (K := K) z
      cases k with
      | true =>
        cases h
        show PySem.W.kitAny K (.type a) (.type n :: _) = _
        unfold PySem.W.kitAny
        rw [this]
      | false =>
        show PySem.W.kitAny K (.type a) (.type n :: _) = _
        unfold PySem.W.kitAny
        rw [this]
        exact kitAny_of h
/-- isinstance(x, (a, b)), the tuple of built-in classes written there -/
theorem w_isi2 {a b : String} (h : W c ta τ fun x τ1 b1 => ∃ d k, Dv τ1 x d ∧ isPl d = true ∧ isiAny (tyN d) [a, b] = some k ∧ Φ (.dat (.bl k)) τ1 b1) :
    W c (tCB (rIsiT K) (tCons ta (tCons (tTup (tCons (tC (.ty a)) (tCons (tC (.ty b)) tNil))) tNil))) τ Φ := fun σ G H F o Q q =>
  h σ G H F o _ fun x G1 H1 F1 rx τ1 b1 p1 g1 s1 => by
    obtain ⟨d, k, hd, hp, hk, kk⟩ := p1
    have hr := hd.rep g1.ok s1
    show [V.ty a, V.ty b].length ≤ sizeLine ∧ _
    refine ⟨sz_le (by show 2 ≤ 100000; decide), fun p hpp => ?_⟩
    have g2 := Go.grow g1.ok (Fr.both (o := .tup [V.ty a, V.ty b]) g1.ok.ex hpp) (same_both g1.ok.ex) g1.ok.tu.both
    have gg := g1.trans g2
    rw [Bool.and_true] at gg
    exact ⟨x, p, [V.ty a, V.ty b], .type (tyN d), [.type a, .type b], k, rfl, upd_same, .cons (.ty a) (.cons (.ty b) .nil), tyx_of hp (Rep.mono (Fr.both (o := .tup [V.ty a, V.ty b]) (Same.refl H1) hpp).same _ _ hr), kitAny_of (ns := [a, b]) hk, q _ _ _ F1 _ τ1 b1 kk gg rfl⟩
/-- list(x) -/
def rListOf (K : PySem.W.Frag) : List V → Hp → VK → Prop := fun xs H Q => ∃ p ys, xs = [.ref p] ∧ (SqL K H p ys ∨ SqT K H p ys) ∧ ∀ l, H l = none → Q (.ref l) (upd H l (.lst ys))
theorem mkL_list {ds : List DD} : MkL (rListOf K) (.lst ds) ds := fun G H p vs e Q h k => by
  obtain ⟨es, h1 | h1, h2⟩ := h
  · cases h1.1
    exact ⟨p, vs, rfl, .inl (SqL.of h1.2), fun l hl => k l vs hl h2⟩
  · cases h1.1
theorem mkL_listT {ds : List DD} : MkL (rListOf K) (.tup ds) ds := fun G H p vs e Q h k => by
  obtain ⟨es, h1 | h1, h2⟩ := h
  · cases h1.1
  · cases h1.1
    exact ⟨p, vs, rfl, .inr (.inl h1.2), fun l hl => k l vs hl h2⟩
/-- tuple(x): of a list a new one, whose object is known -/
def rTupN (K : PySem.W.Frag) : List V → Hp → VK → Prop := fun xs H Q => ∃ p ys, xs = [.ref p] ∧ ((SqL K H p ys ∧ ∀ (l : Addr) (o : Obj), H l = none → o.dict = none → Q (.ref l) (upd H l (.frz o (.tup ys)))) ∨ (SqT K H p ys ∧ Q (.ref p) H))
def hardL (ds : List DD) : Bool := ds.all scal
theorem hardL_any {G G' : Hp} : ∀ {ds : List DD} {vs : List V}, hardL ds = true → RepL G ds vs → RepL G' ds vs
  | [], _, _, h => h
  | d :: ds, _, hh, h => by
    obtain ⟨v, r, rfl, h2, h3⟩ := h
    have q : scal d = true ∧ hardL ds = true := by
      unfold hardL at hh ⊢
      rw [List.all_cons, Bool.and_eq_true] at hh
      exact hh
    exact RepL.cons (scal_any q.1 h2) (hardL_any q.2 h3)
theorem w_tupN (h : W c ta τ fun x τ1 b1 => ∃ ds, (Dl τ1 x (.lst ds) ∨ (Dv τ1 x (.lst ds) ∧ hardL ds = true)) ∧ Φ (.dat (.tpl ds)) τ1 b1) : W c (tCB (rTupN K) (tCons ta tNil)) τ Φ := fun σ G H F o Q q =>
  h σ G H F o _ fun x G1 H1 F1 rx τ1 b1 p1 g1 s1 => by
    obtain ⟨ds, hd, k⟩ := p1
    have new : ∀ (vs : List V), RepL G1 ds vs → ∀ (l : Addr) (o : Obj), H1 l = none → o.dict = none → Q (.ref l) (upd H1 l (.frz o (.tup vs))) := fun vs rr l o hl hdn => by
      have g2 := Go.grow g1.ok (Fr.both (o := .frz o (.tup vs)) g1.ok.ex hl) (same_both g1.ok.ex) g1.ok.tu.both
      have gg := g1.trans g2
      rw [Bool.and_true] at gg
      exact q _ _ _ F1 _ τ1 b1 k gg ⟨l, vs, o, rfl, ⟨upd_same, hdn⟩, rr.mono g2.fr.g _ _⟩
    rcases hd with hl | ⟨hl, hh⟩
    · obtain ⟨p, vs, rfl, h2, h3⟩ := hl.lst g1.ok s1
      exact ⟨p, vs, rfl, .inl ⟨SqL.of h2, new vs h3⟩⟩
    · obtain ⟨p, vs, rfl, h2, h3⟩ := hl.rep g1.ok s1
      exact ⟨p, vs, rfl, .inl ⟨SqL.of h2, new vs (hardL_any hh h3)⟩⟩
/-- of a tuple the same -/
theorem w_tupT (h : W c ta τ fun x τ1 b1 => ∃ ds, (x = .dat (.tup ds) ∨ (Dv τ1 x (.tup ds) ∧ hardL ds = true)) ∧ Φ (.dat (.tup ds)) τ1 b1) : W c (tCB (rTupN K) (tCons ta tNil)) τ Φ := fun σ G H F o Q q =>
  h σ G H F o _ fun x G1 H1 F1 rx τ1 b1 p1 g1 s1 => by
    obtain ⟨ds, hd, k⟩ := p1
    rcases hd with rfl | ⟨hl, hh⟩
    · obtain ⟨p, vs, rfl, h2, h3⟩ := s1
      exact ⟨p, vs, rfl, .inr ⟨.inl (rd_mono g1.ok.ex h2), q _ G1 H1 F1 _ τ1 b1 k g1 ⟨p, vs, rfl, h2, h3⟩⟩⟩
    · obtain ⟨p, vs, rfl, h2, h3⟩ := hl.rep g1.ok s1
      exact ⟨p, vs, rfl, .inr ⟨.inl h2, q _ G1 H1 F1 _ τ1 b1 k g1 ⟨p, vs, rfl, g1.ok.tu.rd h2, hardL_any hh h3⟩⟩⟩
/-- list(range(..)) -/
theorem w_listRg1 (h : W c ta τ fun x τ1 b1 => ∃ n : Nat, x = .dat (.int n) ∧ n ≤ 100000 ∧ Φ (.res true (ownL ((List.range n).map fun k => .int (k : Nat)))) τ1 b1) : W c (tLstRg (tRg1 ta)) τ Φ := fun σ G H F o Q q =>
  h σ G H F o _ fun x G1 H1 F1 rx τ1 b1 p1 g1 s1 => by
    obtain ⟨n, rfl, hn, k⟩ := p1
    refine ⟨(n : Int), s1, RgOk.of_le (by omega) (by omega) (by omega) (by omega), fun l hl => ?_⟩
    have e : rgV 0 (n : Int) = (List.range n).map fun k : Nat => V.int (k : Int) := by
      unfold rgV
      have e1 : ((n : Int) - 0).toNat = n := by omega
      rw [e1]
      exact List.map_congr_left fun a _ => by rw [Int.zero_add]
    rw [e]
    have rr : RepL G1 ((List.range n).map fun k : Nat => DD.int (k : Int)) ((List.range n).map fun k : Nat => V.int (k : Int)) := by
      have := RepL.of_ints (G := G1) ((List.range n).map fun k : Nat => (k : Int))
      rw [List.map_map, List.map_map] at this
      exact this
    obtain ⟨a, b⟩ := new_own g1 hl rr
    exact q _ _ _ F1 _ τ1 b1 k a b
/-! ### an owned list is changed -/
theorem Ok.mutL {σ : L2.St} {G H : Hp} {F : Nat → Addr → Prop} {l : Bool} {ds es : List DD} {ws : List V} (o : Ok c τ σ G H F) (hi : τ[i]? = some (some (.res l (ownL ds)))) (r : RepL G es ws) :
    ∃ p vs, σ[i]? = some (some (.ref p)) ∧ H p = some (.lst vs) ∧ RepL G ds vs ∧ Go false c (τ.set i (some (.res l (ownL es)))) σ G H F G (upd H p (.lst ws)) F := by
  obtain ⟨u, hu, p, vs, rfl, h2, h3, h4⟩ := o.rs i l _ hi
  have fp : F i p := by rw [h4]
  have m3 := (o.own i p fp).2.1
  have hil : i < τ.length := (List.getElem?_eq_some_iff.mp hi).1
  have gt : ∀ j : Nat, j ≠ i → (τ.set i (some (.res l (ownL es))))[j]? = τ[j]? := fun j h => List.getElem?_set_ne (fun z => h z.symm)
  have gti : (τ.set i (some (.res l (ownL es))))[i]? = some (some (.res l (ownL es))) := List.getElem?_set_self hil
  refine ⟨p, vs, hu, h2, h3, ⟨?_, ⟨Same.refl G, fun a u z w => ?_, fun a z _ _ => z, fun a z => ?_⟩, fun j a z => .inl z⟩⟩
  · exact {
      ex := same_own o.ex m3
      tu := o.tu.new fun z => z
      fr := ⟨o.fr.g, fun a u z w => by
        rw [upd_ne (fun e => by
          subst e
          obtain ⟨_, _, _, _, _, y4⟩ := o.own i a fp
          rcases y4 with y4 | y4
          · rw [z] at y4; cases y4
          · exact w y4.2)]
        exact o.fr.h a u z w, o.fr.n, fun a z => by
        by_cases e : a = p
        · rw [e, upd_same]; exact (fun y => by cases y)
        · rw [upd_ne e]; exact o.fr.t a z⟩
      len := by rw [List.length_set]; exact o.len
      sl := fun j t h => by
        by_cases e : j = i
        · subst e
          rw [gti] at h
          cases h
          exact ⟨_, hu, True.intro⟩
        · rw [gt j e] at h
          exact o.sl j t h
      rs := fun j l' R h => by
        by_cases e : j = i
        · subst e
          rw [gti] at h
          cases h
          exact ⟨_, hu, p, ws, rfl, upd_same, r, h4⟩
        · rw [gt j e] at h
          obtain ⟨v, k1, k2⟩ := o.rs j l' R h
          exact ⟨v, k1, R.mono v _ _ _ _ _ k2 (Same.refl G) fun a ha => upd_ne fun ea => o.dj j i a e ha (by rw [ea]; exact fp)⟩
      own := fun j a z => by
        obtain ⟨y1, y2, l', R, y3, y4⟩ := o.own j a z
        refine ⟨?_, y2, ?_⟩
        · by_cases e : a = p
          · rw [e, upd_same]; exact (fun y => by cases y)
          · rw [upd_ne e]; exact y1
        · by_cases e : j = i
          · subst e
            rw [hi] at y3
            cases y3
            exact ⟨l, _, gti, y4⟩
          · exact ⟨l', R, by rw [gt j e]; exact y3, y4⟩
      dj := o.dj
      pn := fun q hq => by
        obtain ⟨k1, R, k2⟩ := o.pn q hq
        by_cases e : q.1 = i
        · rw [e, hi] at k2
          cases k2
          exact ⟨k1, _, by rw [e]; exact gti⟩
        · exact ⟨k1, R, by rw [gt _ e]; exact k2⟩ }
  · rw [upd_ne (fun e => by subst e; exact w ⟨rfl, i, fp⟩)]
    exact z
  · by_cases e : a = p
    · rw [e, upd_same]; exact (fun y => by cases y)
    · rw [upd_ne e]; exact z
theorem tyV_list {H : Hp} {p : Addr} {vs : List V} (h : H p = some (.lst vs)) : tyV K "list" (.ref p) H := .inl ⟨rfl, vs, SqL.of h⟩
/-- x.append(e) -/
theorem ws_app {l : Bool} {ds0 : List DD} (hi : τ[i]? = some (some (.res l (ownL ds0)))) (h : W c te τ fun r τ1 _ => ∃ ds d, τ1[i]? = some (some (.res l (ownL ds))) ∧ r = .dat d ∧ ds.length < 100000 ∧ D.nx (τ1.set i (some (.res l (ownL (ds ++ [d])))))) :
    WS c (tDrop (tBM K "list" rAppend (tVar i) (tCons te tNil))) τ D := fun σ G H F o De lk => by
  obtain ⟨u, hu, p, vs, rfl, h2, h3, h4⟩ := o.rs i l _ hi
  refine ⟨_, hu, tyV_list h2, h σ G H F o _ fun y G1 H1 F1 r τ1 b1 p1 g1 s1 => ?_⟩
  obtain ⟨ds, d, hi1, rfl, hz, k⟩ := p1
  obtain ⟨u1, hu1, p1, vs1, e1, k2, k3, k4⟩ := g1.ok.rs i l _ hi1
  rw [hu] at hu1
  cases hu1
  cases e1
  obtain ⟨p', vs', q1, q2, q3, gm⟩ := g1.ok.mutL hi1 (es := ds ++ [d]) (ws := vs1 ++ [y]) (k3.append (RepL.cons s1 rfl))
  rw [hu] at q1
  cases q1
  exact ⟨p, vs1, y, rfl, rfl, k2, by rw [k3.length]; exact sz_lt hz, lk.nx _ σ G1 _ F1 k gm.ok g1.fr.g⟩
/-- x.pop(e) -/
theorem w_popAt {l : Bool} {ds0 : List DD} (hi : τ[i]? = some (some (.res l (ownL ds0)))) (h : W c te τ fun r τ1 _ => ∃ ds d n, τ1[i]? = some (some (.res l (ownL ds))) ∧ r = .dat (.int (n : Nat)) ∧ n < 100000 ∧ ds[n]? = some d ∧ Φ (.dat d) (τ1.set i (some (.res l (ownL (ds.eraseIdx n))))) false) :
    W c (tBM K "list" rPopAt (tVar i) (tCons te tNil)) τ Φ := fun σ G H F o Q q => by
  obtain ⟨u, hu, p, vs, rfl, h2, h3, h4⟩ := o.rs i l _ hi
  refine ⟨_, hu, tyV_list h2, h σ G H F o _ fun y G1 H1 F1 r τ1 b1 p1 g1 s1 => ?_⟩
  obtain ⟨ds, d, n, hi1, rfl, hz, hd, k⟩ := p1
  obtain ⟨u1, hu1, p1, vs1, e1, k2, k3, k4⟩ := g1.ok.rs i l _ hi1
  rw [hu] at hu1
  cases hu1
  cases e1
  obtain ⟨v, h5, h6⟩ := k3.get hd
  obtain ⟨p', vs', q1, q2, q3, gm⟩ := g1.ok.mutL hi1 (es := ds.eraseIdx n) (ws := vs1.eraseIdx n) (k3.erase n)
  rw [hu] at q1
  cases q1
  have hn : n < vs1.length := (List.getElem?_eq_some_iff.mp h5).1
  have ge := g1.trans gm
  rw [Bool.and_false] at ge
  refine ⟨p, vs1, (n : Nat), n, v, rfl, by rw [show y = V.int (n : Nat) from s1], k2, by omega, by omega, (ixN_seq (by unfold ixN; rw [if_pos (by omega), if_pos (by omega)]; simp)).1, h5, q v G1 _ F1 _ _ _ k ge h6⟩
/-- x.pop() -/
theorem w_pop {l : Bool} {ds : List DD} {d : DD} (hi : τ[i]? = some (some (.res l (ownL ds)))) (hd : ds[ds.length - 1]? = some d) (k : Φ (.dat d) (τ.set i (some (.res l (ownL ds.dropLast)))) false) :
    W c (tBM0 K "list" rPop (tVar i)) τ Φ := fun σ G H F o Q q => by
  obtain ⟨u, hu, p, vs, rfl, h2, h3, h4⟩ := o.rs i l _ hi
  obtain ⟨v, h5, h6⟩ := h3.get hd
  obtain ⟨p', vs', q1, q2, q3, gm⟩ := o.mutL hi (es := ds.dropLast) (ws := vs.dropLast) h3.dropLast
  rw [hu] at q1
  cases q1
  exact ⟨_, hu, tyV_list h2, p, vs, v, rfl, rfl, h2, by rw [h3.length]; exact h5, q v G _ F _ _ _ k gm h6⟩
theorem ixN_nat {n k : Nat} (h : k < n) : ixN n (k : Int) = some k := by
  unfold ixN
  rw [if_pos (by omega), if_pos (by omega)]
  simp
/-- x[j] = e -/
theorem ws_setI {l : Bool} (h : W c te τ fun r τ1 b1 => ∃ d ds0, r = .dat d ∧ τ1[i]? = some (some (.res l (ownL ds0))) ∧ W c tb τ1 fun y τ2 _ => ∃ ds n, τ2[i]? = some (some (.res l (ownL ds))) ∧ y = .dat (.int (n : Nat)) ∧ n < ds.length ∧ D.nx (τ2.set i (some (.res l (ownL (ds.set n d)))))) :
    WS c (tAsg te (gSub (tVar i) tb rSetL)) τ D := fun σ G H F o De lk =>
  h σ G H F o _ fun x G1 H1 F1 r τ1 b1 p1 g1 s1 => by
    obtain ⟨d, ds0, rfl, hi0, p2⟩ := p1
    obtain ⟨u, hu, p, vs, rfl, h2, h3, h4⟩ := g1.ok.rs i l _ hi0
    refine ⟨_, hu, p2 σ G1 H1 F1 g1.ok _ fun y G2 H2 F2 r2 τ2 b2 p3 g2 s2 => ?_⟩
    obtain ⟨ds, n, hi1, rfl, hn, k⟩ := p3
    obtain ⟨u1, hu1, p1, vs1, e1, k2, k3, k4⟩ := g2.ok.rs i l _ hi1
    rw [hu] at hu1
    cases hu1
    cases e1
    obtain ⟨p', vs', q1, q2, q3, gm⟩ := g2.ok.mutL hi1 (es := ds.set n d) (ws := vs1.set n x) (RepL.set (Rep.mono g2.fr.g _ _ s1) n k3)
    rw [hu] at q1
    cases q1
    exact ⟨p, vs1, (n : Nat), n, rfl, s2, k2, ixN_nat (by rw [k3.length]; exact hn), lk.nx _ σ G2 _ F2 k gm.ok (g1.fr.g.trans g2.fr.g)⟩
/-- x[j] op= e, by a rule for the read -/
def rGetL : V → V → Hp → VK → Prop := fun o i H Q => ∃ p xs k v, o = .ref p ∧ i = .int k ∧ H p = some (.lst xs) ∧ atI xs k = some v ∧ Q v H
theorem ws_augI {l : Bool} {ds0 : List DD} {f : Int → Int → Int} {n : Nat} (hi : τ[i]? = some (some (.res l (ownL ds0)))) {a : Int} (hn : ds0[n]? = some (.int a))
    (h : W c te τ fun r τ2 _ => ∃ ds b, τ2[i]? = some (some (.res l (ownL ds))) ∧ r = .dat (.int b) ∧ n < ds.length ∧ D.nx (τ2.set i (some (.res l (ownL (ds.set n (.int (f a b)))))))) :
    WS c (tAugS (tVar i) (tC (.int (n : Nat))) te rGetL (ipI f) rSetL) τ D := fun σ G H F o De lk => by
  obtain ⟨u, hu, p, vs, rfl, h2, h3, h4⟩ := o.rs i l _ hi
  obtain ⟨v, h5, h6⟩ := h3.get hn
  cases (show v = V.int a from h6)
  refine ⟨_, hu, p, vs, (n : Nat), .int a, rfl, rfl, h2, atI_nat h5, h σ G H F o _ fun y G2 H2 F2 r2 τ2 b2 p3 g2 s2 => ?_⟩
  obtain ⟨ds, b, hi1, rfl, hn2, k⟩ := p3
  obtain ⟨u1, hu1, p1, vs1, e1, k2, k3, k4⟩ := g2.ok.rs i l _ hi1
  rw [hu] at hu1
  cases hu1
  cases e1
  obtain ⟨p', vs', q1, q2, q3, gm⟩ := g2.ok.mutL hi1 (es := ds.set n (.int (f a b))) (ws := vs1.set n (.int (f a b))) (RepL.set (d := .int (f a b)) (v := V.int (f a b)) rfl n k3)
  rw [hu] at q1
  cases q1
  exact ⟨a, b, rfl, s2, p, vs1, (n : Nat), n, rfl, rfl, k2, ixN_nat (by rw [k3.length]; exact hn2), lk.nx _ σ G2 _ F2 k gm.ok g2.fr.g⟩
/-- x op= e, x a number of one's own -/
theorem ws_aug {f : Int → Int → Int} {a : Int} (hi : τ[i]? = some (some (.dat (.int a)))) (h : W c te τ fun r τ2 _ => ∃ b, r = .dat (.int b) ∧ i < τ2.length ∧ free τ2 i ∧ D.nx (τ2.set i (some (.dat (.int (f a b)))))) : WS c (tAug i te (ipI f)) τ D := fun σ G H F o De lk => by
  obtain ⟨v, h1, h2⟩ := o.sl i _ hi
  cases (show v = V.int a from h2)
  refine ⟨_, h1, h σ G H F o _ fun y G2 H2 F2 r2 τ2 b2 p3 g2 s2 => ?_⟩
  obtain ⟨b, rfl, hl, hf, k⟩ := p3
  obtain ⟨F', o', _⟩ := g2.ok.store (H0 := c.H0) (v := V.int (f a b)) (r := .dat (.int (f a b))) hf hl .dat (show Rep G2 (.int (f a b)) (V.int (f a b)) from rfl) fun _ z => z
  exact ⟨a, b, rfl, s2, lk.nx _ _ G2 H2 F' k o' g2.fr.g⟩
/-- a, b = e, e' -/
theorem ws_par {u v : Tg} (h : WA c t τ fun rs τ1 _ => ∃ r r2 u v, rs = [r, r2] ∧ Stk r u ∧ Stk r2 v ∧ (Pl r ∨ Pl r2) ∧ free τ1 i ∧ free τ1 j ∧ i ≠ j ∧ i < τ1.length ∧ j < τ1.length ∧ D.nx ((τ1.set i (some u)).set j (some v))) : WS c (tPar i j t) τ D := fun σ G H F o De lk =>
  h σ G H F o _ fun vs G1 H1 F1 rs τ1 b1 p1 g1 s1 => by
    obtain ⟨r, r2, u, v, rfl, hu, hv, hp, fi, fj, hij, hi, hj, k⟩ := p1
    cases s1 with
    | @cons _ x _ _ sx s' =>
      cases s' with
      | @cons _ y _ _ sy s'' =>
        cases s''
        have sx0 := Rs.from sx o.fr.t
        have sy0 := Rs.from sy o.fr.t
        have fij : ∀ {w : Tg}, free (τ1.set i (some u)) j := fun {w} R z => fj R (by rw [List.getElem?_set_ne hij] at z; exact z)
        obtain ⟨F', o', hF⟩ := g1.ok.store fi hi hu sx0 fun _ z => z
        have sy1 : Rs c (σ.set i (some x)) c.H0 G1 H1 F' r2 y := by
          cases hv with
          | dat => exact sy0
          | vol => exact sy0
          | res =>
            obtain ⟨q1, A, q2, q3⟩ := sy0
            refine ⟨q1, A, q2, fun a ha => ?_⟩
            obtain ⟨m1, m2, m3, m4⟩ := q3 a ha
            refine ⟨m1, m2, m3, fun k z => ?_⟩
            rcases hp with hp | hp
            · exact m4 k (hF hp k a z)
            · cases hp
        obtain ⟨F2, o2, _⟩ := o'.store (fij (w := u)) (by rw [List.length_set]; exact hj) hv sy1 fun _ z => z
        exact ⟨x, y, rfl, lk.nx _ _ G1 H1 F2 k o2 g1.fr.g⟩
end
end Z
set_option Elab.async false
set_option linter.all false
set_option maxRecDepth 100000
set_option maxHeartbeats 2000000
/-! Z6: further rules of the hand layer: reads for a changed item, tuple(list) with its object known, enumerate of a tuple, count of a tuple, own len, ==, !=, repr. -/
namespace Z
open PySem PySem.Spec PyProof.Rows L2
section
variable {X : Cx} {pins : List (Addr × Obj)} {σ : L2.St} {H : Hp} {s : Shared}
theorem pget_list : PGet X rGetL := by
  intro pins s σ H o i ov iv Q I ro ri h
  obtain ⟨p, xs, k, v, rfl, rfl, hp, ha, q⟩ := h
  cases ro
  obtain ⟨t, rfl⟩ := ri
  obtain ⟨its, r, pl, hz⟩ := I.list (SqL.of hp)
  obtain ⟨j, h1, h2, h3, h4, h5⟩ := atI_get ha
  obtain ⟨w, ew, rw'⟩ := r.get h2
  have hl := r.length
  have hn := line63
  have fin : EP X pins σ Q w s := ⟨v, H, I, rw', q⟩
  by_cases h0 : 0 ≤ k
  · have hj : k.toNat = j := by
      rw [seqIndex_of h0 h5] at h1
      exact Option.some.inj h1
    exact wpAny_getItem_list pl.isList h0 (by omega) (by rw [hj]; simpa using ew) fin
  · have hj : (k + (its.toArray.size : Int)).toNat = j := by
      rw [seqIndex_neg (by omega) h4] at h1
      rw [List.size_toArray, ← hl]
      exact Option.some.inj h1
    exact wpAny_getItem_list_neg pl.isList (by omega) (by rw [List.size_toArray] <;> omega) (by omega) (by rw [hj]; simpa using ew) fin
theorem call_tupleN : CallR X (.type "tuple") (rTupN X.K) := by
  intro pins s σ H xs us Q I r h
  obtain ⟨p, ys, rfl, h⟩ := h
  obtain ⟨u, rfl, rx⟩ := vals1 r
  cases rx
  rcases h with ⟨hq, q⟩ | ⟨hq, q⟩
  · obtain ⟨its, r', pl, hz⟩ := I.list hq
    have hlen := r'.length
    refine call_tuple_list pl.isList (fun h' kp => ?_) (by simp only [List.size_toArray] <;> omega)
    have I1 : Inv X pins σ H { s with heap := h' } := I.kept (t' := s.toks) kp
    have hg : (h'.push { cls := .type "tuple", data := .seq its.toArray }).get? h'.objs.size = some { cls := .type "tuple", data := .seq its.toArray } := Heap.get?_push_size _ rfl
    have I2 : Inv X pins σ (upd H h'.objs.size (.frz { cls := .type "tuple", data := .seq its.toArray } (.tup ys))) { s with heap := h'.push { cls := .type "tuple", data := .seq its.toArray } } :=
      I1.laid (t' := s.toks) (fun b o e => Heap.get?_push_of_some _ e) (Nat.le_refl _) (show ObjOk X.prog X.w _ _ _ (.frz _ (.tup ys)) from ⟨hg, hz, its, r', IsTup.new _ _⟩)
    exact ⟨.ref h'.objs.size, _, I2, rfl, q _ _ (I1.hok.fresh (Nat.le_refl _)) rfl⟩
  · obtain ⟨its, r', pl, hz⟩ := I.tuple hq
    exact call_tuple_same pl ⟨.ref p, H, I, rfl, q⟩
end
/-! ### enumerate(tuple) -/
theorem meets_enumerate_newT (l : Addr) (items : Array Value) :
    Meets (Builtin.«enumerate.__new__» ⟨[.type "enumerate", .ref l], []⟩) (fun _ R s => s.heap.IsTuple l items ∧
      R (.ok (.ret (.ref (s.heap.push { cls := .type "tuple_iterator", data := .fields #[.ref l, .int 0 0] }).objs.size)))
        { s with heap := (s.heap.push { cls := .type "tuple_iterator", data := .fields #[.ref l, .int 0 0] }).push { cls := .type "enumerate", data := .fields #[.none, .bool false, .ref s.heap.objs.size, rawInt 0, .none, .none] } }) :=
  .of_wp fun prog w A R s h => by
    obtain ⟨hp, g, d, tk, os⟩ := s; obtain ⟨h1, h⟩ := h
    have hsub := sub_enumerate
    have q1 : ∀ {A' : Around} {E : Value → Shared → Prop} {Q : Value → Shared → Prop}, Q (.ref hp.objs.size) ⟨hp.push { cls := .type "tuple_iterator", data := .fields #[.ref l, .int 0 0] }, g, d, tk, os⟩ → wpAny (model prog w) A' (pyIter (.ref l)) Q E ⟨hp, g, d, tk, os⟩ :=
      fun q => (begins_tuple l items).iter prog w _ _ ⟨hp, g, d, tk, os⟩ _ h1 q
    wp_walk using q1
    refine wpAny_stack_any fun st => wpAny_pure ?_
    split
    · rename_i c _ _ _ _ _
      cases (c == Value.type "enumerate")
      · wp_walk using q1
        exact ⟨_, rfl, h⟩
      · wp_walk using q1
        exact ⟨_, rfl, h⟩
    · wp_walk using q1
      exact ⟨_, rfl, h⟩
theorem call_enumerate_tup {prog : Program} {w : World} {A : Around} {E : Value → Shared → Prop} {s : Shared} {l : Addr} {items : Array Value} {Q : Value → Shared → Prop} (hL : s.heap.IsTuple l items)
    (h : ∀ h', IsEnum h' (s.heap.objs.size + 1) s.heap.objs.size 0 .none → h'.IsTupleIter s.heap.objs.size l 0 → h'.objs.size = s.heap.objs.size + 2 →
      (∀ b o, s.heap.get? b = some o → h'.get? b = some o) → Q (.ref (s.heap.objs.size + 1)) { s with heap := h' }) :
    wpAny (model prog w) A (call (.type "enumerate") [.ref l]) Q E s := by
  refine callType_new F.called_enumerate (by decide) (F.typeCall_enumerate_1 _) (F.newCall_enumerate_1 _) (fun obj => F.args_object_init_2 obj _) F.entry_enumerate_new
    (meets_enumerate_newT l items) ⟨hL, ?_⟩
  have hz : (s.heap.push { cls := .type "tuple_iterator", data := .fields #[.ref l, .int 0 0] }).objs.size = s.heap.objs.size + 1 := Heap.size_push ..
  show _ ∧ _
  rw [hz]
  have he : IsEnum ((s.heap.push { cls := .type "tuple_iterator", data := .fields #[.ref l, .int 0 0] }).push
      { cls := .type "enumerate", data := .fields #[.none, .bool false, .ref s.heap.objs.size, rawInt 0, .none, .none] }) (s.heap.objs.size + 1) s.heap.objs.size 0 .none := by
    have := Heap.get?_push_size (s.heap.push { cls := .type "tuple_iterator", data := .fields #[.ref l, .int 0 0] })
      (o := { cls := .type "enumerate", data := .fields #[.none, .bool false, .ref s.heap.objs.size, rawInt 0, .none, .none] }) rfl
    rw [hz] at this; exact this
  refine ⟨⟨_, he, rfl⟩, h _ he ⟨_, Heap.get?_push_of_some _ (Heap.get?_push_size _ rfl), rfl, rfl⟩ (by rw [Heap.size_push, hz]) fun b o x => Heap.get?_push_of_some _ (Heap.get?_push_of_some _ x)⟩
/-- the tuple at a, each item in a new pair -/
def IteT (K : PySem.W.Frag) (a : Addr) : It :=
  ⟨fun i H => ∃ (xs : List V) (x : V), SqT K H a xs ∧ xs[i]? = some x, fun i H v H' => ∃ T x, v = .ref T ∧ H T = none ∧ H' = upd H T (.tup [.int (i : Nat), x]) ∧ ∀ xs, SqT K H a xs → xs[i]? = some x, fun i H => ∃ xs : List V, SqT K H a xs ∧ xs.length ≤ i⟩
theorem turn_enumT {P : Program} {w : World} {K : PySem.W.Frag} {elts : List Expr} {kk : Nat} {tpos : Pos} (a e it : Addr) :
    Turn P w K (.Tuple elts kk tpos) (IteT K a) [e, it] e (fun i h => (∃ old, IsEnum h e it ((i : Nat) : Int) old) ∧ h.IsTupleIter it a i ∧ e ≠ it) where
  mem := by simp
  obj := fun i h st b hb => by
    obtain ⟨⟨old, he⟩, ⟨o, ho, hc, hd⟩, _⟩ := st
    have e' : b = e ∨ b = it := by simpa using hb
    rcases e' with z | z
    · rw [z]; exact ⟨_, he, fun v q => nomatch q⟩
    · rw [z]; exact ⟨o, ho, fun v q => by rw [hd] at q; cases q⟩
  keep := fun i h h' st k => let ⟨⟨old, he⟩, hi, hne⟩ := st; ⟨⟨old, k e (by simp) _ he⟩, hi.at fun o q => k it (by simp) o q, hne⟩
  item := by
    intro X hP hw hK hc i pins s σ H E I hf st hg
    subst hP hw hK
    obtain ⟨⟨old, he⟩, hit, hne⟩ := st
    obtain ⟨xs, x, hq, hx⟩ := hg
    obtain ⟨its, rv, p, hz⟩ := I.tuple hq
    obtain ⟨u, hu, ru⟩ := rv.get hx
    have hT : s.heap.IsTuple a its.toArray := p
    have hai : a ≠ it := fun z => by
      subst z
      obtain ⟨o, ho, hc', _⟩ := hit
      obtain ⟨o2, ho2, hc2, _⟩ := p
      rw [ho] at ho2
      cases ho2
      rw [hc'] at hc2
      exact absurd hc2 (by decide)
    have hae : a ≠ e := fun z => by
      subst z
      obtain ⟨o2, ho2, hc2, _⟩ := p
      have he' : s.heap.get? a = some _ := he
      rw [he'] at ho2
      cases ho2
      exact absurd (show Value.type "enumerate" = Value.type "tuple" from hc2) (by decide)
    have hel : e < s.heap.objs.size := Heap.lt_size he
    have hil : it < s.heap.objs.size := by obtain ⟨_, q, _⟩ := hit; exact Heap.lt_size q
    have hisz : i < its.toArray.size := by
      have := (List.getElem?_eq_some_iff.mp hu).1
      simpa using this
    refine wpAny_pyNext_enum_itemD (Draws.tuple (A := X.A.in1) (I.ok.hd hc) it a hai its.toArray) he ⟨hit, hT⟩ hisz hne (by simp [hne, Ne.symm hae]) fun y h' tk hPy ho hst' hT' hsz hk => ?_
    obtain ⟨hit', _⟩ := hst'
    have ey : y = u := by
      have h1 : its.toArray[i]? = some u := by simpa using hu
      rw [h1] at hPy
      exact (Option.some.inj hPy).symm
    subst ey
    refine ⟨_, rfl, wpAny_letOwnedTupleGo_enum (s := { s with heap := h', toks := tk + 1 }) ho fun h'' he' sb => ?_⟩
    have hT2 : h''.get? s.heap.objs.size = some { cls := .type "tuple", data := .seq #[.int i tk, y] } := (sb.2 _ (Nat.ne_of_gt hel)).trans hT'
    have new : ObjOk X.prog X.w (upd H s.heap.objs.size (.tup [.int (i : Nat), x])) h'' s.heap.objs.size (.tup [.int (i : Nat), x]) :=
      ⟨by show 2 ≤ sizeLine; decide, [.int i tk, y], .cons ⟨_, rfl⟩ (.cons ru .nil), ⟨_, hT2, rfl, _, rfl⟩⟩
    have I1 : Inv X pins σ (upd H s.heap.objs.size (.tup [.int (i : Nat), x])) { s with heap := h'', toks := tk + 1 } :=
      I.turnedNew (ch := [e, it]) (fun b ob hb q => (sb.2 b (fun z => hb (by simp [z]))).trans (hk b ob (fun z => hb (by simp [z])) (fun z => hb (by simp [z])) q)) hf (Nat.le_refl _) new
    refine ⟨.ref s.heap.objs.size, _, I1, rfl, ⟨_, x, rfl, I.hok.fresh (Nat.le_refl _), rfl, fun ys hy => by rw [I.tuple_inj hy hq]; exact hx⟩, ⟨⟨y, ?_⟩, hit'.at fun o q => (sb.2 it (Ne.symm hne)).trans q, hne⟩, fun b hb => ?_⟩
    · have e1 : ((i + 1 : Nat) : Int) = (i : Int) + 1 := by omega
      rw [e1]; exact he'
    · have hb' : b < s.heap.objs.size := by
        have e' : b = e ∨ b = it := by simpa using hb
        rcases e' with z | z
        · rw [z]; exact hel
        · rw [z]; exact hil
      rw [upd_ne (Nat.ne_of_lt hb')]
      exact (hf b hb).1
  done := by
    intro X hP hw hK hc i pins s σ H E I hf st hg
    subst hP hw hK
    obtain ⟨⟨old, he⟩, hit, hne⟩ := st
    obtain ⟨xs, hq, hx⟩ := hg
    obtain ⟨its, rv, p, hz⟩ := I.tuple hq
    obtain ⟨f0, f1, f2, f3, f4, f5⟩ := hf it (by simp)
    have hT : s.heap.IsTuple a its.toArray := p
    have hl := rv.length
    have hai : a ≠ it := fun z => by
      subst z
      obtain ⟨o, ho, hc', _⟩ := hit
      obtain ⟨o2, ho2, hc2, _⟩ := p
      rw [ho] at ho2
      cases ho2
      rw [hc'] at hc2
      exact absurd hc2 (by decide)
    have hT0 : s.TypeIs (.ref e) "enumerate" := ⟨_, he, rfl⟩
    unfold pyNext
    refine wpAny_bind (wpAny_attempt (wpAny_callSpecial?_slot (name := Str.ofString "__next__") hT0 F.slot_enumerate_next
      (wpAny_call_entry F.slot_enumerate_next hT0 F.entry_enumerate_next ?_ (F.args_enumerate_next_1 _))))
    show wpAny _ _ (PySem.field (.ref e) 2 >>= _) _ _ _
    refine wpAny_bind (wpAny_field he rfl (x := .ref it) rfl ?_)
    refine wpAny_bind (wpAny_nextOf_tuple_end (A := X.A.in1) (I.ok.hd hc) hit hT (by simp; omega) fun h' x he' hx' => ?_)
    obtain ⟨o, ho, hc⟩ := hx'
    refine wpAny_bind (wpAny_isInstance (T := "StopIteration") (b := true) ⟨o, ho, hc⟩ isSubtype_stop ?_)
    exact wpAny_pure ⟨rfl, I.turned (t' := s.toks) (fun b o hb q => he' b o hb q) f0 f1 f3 f4 f5⟩
  self := fun A i s Q E st h => let ⟨⟨_, he⟩, _⟩ := st; wpAny_pyIter_enum he h
/-- enumerate of a list or a tuple -/
def iEnumA (K : PySem.W.Frag) (ta : TA) : TI := fun σ H R => ta σ H fun vs H1 => ∃ a xs, vs = [.ref a] ∧ ((SqL K H1 a xs ∧ R (Ite K a) H1) ∨ (SqT K H1 a xs ∧ R (IteT K a) H1))
theorem pi_enumA {X : Cx} {e : Expr} {ta : TA} {p pos tpos : Pos} {elts : List Expr} {kk : Nat} (hg : Gl X "enumerate") (hm : X.mg "enumerate" = none) (ha : PA X [e] ta) (hs : starEach [e] X.env = [(false, eval e X.env)] := by rfl) :
    PI X (.Tuple elts kk tpos) (.Call (.Name "enumerate" p) [e] [] pos) (iEnumA X.K ta) := by
  refine ⟨fun pins s σ H R I h => ?_⟩
  refine Call_ (ld_blt I hg hm boot_enumerate (PyProof.Rows.callWith_type1 (thn (ha.run pos pins s σ H _ I h) fun us s1 ⟨vs, H1, I1, r1, q1⟩ => ?_) hs rfl))
  obtain ⟨a, xs, ex, hq⟩ := q1
  subst ex
  cases r1 with
  | cons r rr =>
    cases rr
    cases r
    have fp : ∀ b ∈ [s1.heap.objs.size + 1, s1.heap.objs.size], FpOk X pins H1 b := fun b hb => by
      have e' : b = s1.heap.objs.size + 1 ∨ b = s1.heap.objs.size := by simpa using hb
      have hle : s1.heap.objs.size ≤ b := by
        rcases e' with z | z
        · rw [z]; exact Nat.le_add_right _ _
        · rw [z]; exact Nat.le_refl _
      exact I1.fpOk hle (I1.hok.fresh hle)
    rcases hq with ⟨hq, q⟩ | ⟨hq, q⟩
    · obtain ⟨its, rv, p', hz⟩ := I1.list hq
      refine call_enumerate_list p'.isList fun h' he hit hsz hk => wpAny_pyIter_enum he ?_
      have I2 : Inv X pins σ H1 { s1 with heap := h' } := I1.kept (t' := s1.toks) hk
      exact ⟨s1.heap.objs.size + 1, [s1.heap.objs.size + 1, s1.heap.objs.size], _, _, H1, rfl, I2, turn_enum a (s1.heap.objs.size + 1) s1.heap.objs.size, ⟨⟨.none, he⟩, hit, Nat.succ_ne_self _⟩, fp, q⟩
    · obtain ⟨its, rv, p', hz⟩ := I1.tuple hq
      refine call_enumerate_tup (show s1.heap.IsTuple a its.toArray from p') fun h' he hit hsz hk => wpAny_pyIter_enum he ?_
      have I2 : Inv X pins σ H1 { s1 with heap := h' } := I1.kept (t' := s1.toks) hk
      exact ⟨s1.heap.objs.size + 1, [s1.heap.objs.size + 1, s1.heap.objs.size], _, _, H1, rfl, I2, turn_enumT a (s1.heap.objs.size + 1) s1.heap.objs.size, ⟨⟨.none, he⟩, hit, Nat.succ_ne_self _⟩, fp, q⟩
section
variable {c : Cfg} {τ : Lc} {Φ : List Itm → Lc → Bool → Prop} {t : TA} {K : PySem.W.Frag}
theorem wi_enumA (h : WA c t τ fun rs τ1 b1 => ∃ ds, (rs = [.dat (.lst ds)] ∧ Φ (itsE .dat ds) τ1 b1) ∨ (rs = [.dat (.tup ds)] ∧ Φ (itsE .dat ds) τ1 b1) ∨ (rs = [.dat (.tpl ds)] ∧ Φ (itsE .dat ds) τ1 b1) ∨ (rs = [.vol (.lst ds)] ∧ Φ (itsE .vol ds) τ1 b1)) :
    WI c (iEnumA K t) τ Φ := fun σ G H F o R q =>
  h σ G H F o _ fun x G1 H1 F1 rx τ1 b1 p1 g1 s1 => by
    obtain ⟨ds, p1⟩ := p1
    have tupC : ∀ (a : Addr) (vs : List V), Rd G1 a (.tup vs) → RepL G1 ds vs → Wk c (IteT K a) (itsE .dat ds) G1 := fun a vs h2 h3 => ⟨fun i G H hi e1 e2 _ => by
        rw [itsE_len] at hi
        exact ⟨vs, vs[i]'(by rw [h3.length]; exact hi), .inl (rd_mono (e1.trans e2) h2), by simp⟩, fun G H e1 e2 _ => ⟨vs, .inl (rd_mono (e1.trans e2) h2), by rw [itsE_len, h3.length]; exact Nat.le_refl _⟩, fun i t G H y H' ht e1 e2 _ yy => by
        obtain ⟨d, hd, rfl⟩ := itsE_get ht
        obtain ⟨w, h4, h5⟩ := h3.get hd
        obtain ⟨T, x, y1, y2, y3, y4⟩ := yy
        have e := y4 vs (.inl (rd_mono (e1.trans e2) h2))
        rw [h4] at e
        cases e
        exact ⟨T, _, _, y1, y2, y3, rfl, Rep.mono e1 _ _ h5⟩⟩
    rcases p1 with ⟨rfl, k⟩ | ⟨rfl, k⟩ | ⟨rfl, k⟩ | ⟨rfl, k⟩
    · cases s1 with
      | cons s1 b =>
        cases b
        obtain ⟨a, vs, rfl, h2, h3⟩ := s1
        refine ⟨a, vs, rfl, .inl ⟨SqL.of (g1.ok.ex _ _ h2), q _ _ G1 H1 F1 τ1 b1 k g1 ⟨fun i G H hi e1 e2 _ => ?_, fun G H e1 e2 _ => ?_, fun i t G H y H' ht e1 e2 _ yy => ?_⟩⟩⟩
        · rw [itsE_len] at hi
          exact ⟨vs, vs[i]'(by rw [h3.length]; exact hi), SqL.of (e2 _ _ (e1 _ _ h2)), by simp⟩
        · exact ⟨vs, SqL.of (e2 _ _ (e1 _ _ h2)), by rw [itsE_len, h3.length]; exact Nat.le_refl _⟩
        · obtain ⟨d, hd, rfl⟩ := itsE_get ht
          obtain ⟨w, h4, h5⟩ := h3.get hd
          obtain ⟨T, x, y1, y2, y3, y4⟩ := yy
          have e := y4 vs (SqL.of (e2 _ _ (e1 _ _ h2)))
          rw [h4] at e
          cases e
          exact ⟨T, _, _, y1, y2, y3, rfl, Rep.mono e1 _ _ h5⟩
    · cases s1 with
      | cons s1 b =>
        cases b
        obtain ⟨a, vs, rfl, h2, h3⟩ := s1
        exact ⟨a, vs, rfl, .inr ⟨.inl (rd_mono g1.ok.ex h2), q _ _ G1 H1 F1 τ1 b1 k g1 (tupC a vs h2 h3)⟩⟩
    · cases s1 with
      | cons s1 b =>
        cases b
        obtain ⟨a, vs, rfl, h2, h3⟩ := tpl_tup s1
        exact ⟨a, vs, rfl, .inr ⟨.inl (rd_mono g1.ok.ex h2), q _ _ G1 H1 F1 τ1 b1 k g1 (tupC a vs h2 h3)⟩⟩
    · cases s1 with
      | cons s1 b =>
        cases b
        obtain ⟨Gv, hv, a, vs, rfl, h2, h3⟩ := s1
        have at_ : ∀ {G H : Hp}, Fr c.X c.G0 c.H0 G H → H a = some (.lst vs) := fun f => f.h a _ (hv a _ h2).1 (hv a _ h2).2
        refine ⟨a, vs, rfl, .inl ⟨SqL.of (at_ g1.ok.fr), q _ _ G1 H1 F1 τ1 b1 k g1 ⟨fun i G H hi e1 e2 f => ?_, fun G H e1 e2 f => ?_, fun i t G H y H' ht e1 e2 f yy => ?_⟩⟩⟩
        · rw [itsE_len] at hi
          exact ⟨vs, vs[i]'(by rw [h3.length]; exact hi), SqL.of (at_ f), by simp⟩
        · exact ⟨vs, SqL.of (at_ f), by rw [itsE_len, h3.length]; exact Nat.le_refl _⟩
        · obtain ⟨d, hd, rfl⟩ := itsE_get ht
          obtain ⟨w, h4, h5⟩ := h3.get hd
          obtain ⟨T, x, y1, y2, y3, y4⟩ := yy
          have e := y4 vs (SqL.of (at_ f))
          rw [h4] at e
          cases e
          exact ⟨T, _, _, y1, y2, y3, rfl, Gv, hv, h5⟩
end
/-! ### methods of a tuple whose object is known -/
section
variable {X : Cx} {o e : Expr} {es : List Expr} {to : TE} {t : TA} {name : Str} {apos cpos : Pos} {id : String} {r : V → List V → Hp → VK → Prop}
def tyF (x : V) (H : Hp) : Prop := ∃ p ob ys, x = V.ref p ∧ H p = some (.frz ob (.tup ys)) ∧ ob.dict = none
def tBMT (r : V → List V → Hp → VK → Prop) (to : TE) (t : TA) : TE := fun σ H Q => to σ H fun x H1 => tyF x H1 ∧ t σ H1 fun xs H2 => r x xs H2 Q
theorem pe_bmT (pa : PlainAttrs "tuple") (slot : Slot "tuple" name id) (hty : typeOf (.builtin id) = pure (.type "method_descriptor")) (hm : MtR X id r) (ho : PE X o to) (ha : PA X (e :: es) t)
    (hbase : attributeBase o name X.env (eval o X.env) = eval o X.env := by rfl)
    (hfew : ((backTo cpos (starEach (e :: es) X.env)).all (fun x => !x.1) && (backToKw cpos (keywordEach [] X.env)).all (fun x => x.1.isSome)
      && decide ((e :: es).length + ([] : List Keyword).length + (if ([] : List Keyword).isEmpty then 0 else 1) < 30)) = true := by rfl)
    (hline : (apos.endLine == cpos.line) = true := by rfl) (hs : starEach (e :: es) X.env = (false, eval e X.env) :: starEach es X.env := by rfl) (hplain : (backTo cpos (starEach es X.env)).any (·.1) = false := by rfl) :
    PE X (.Call (.Attribute o name apos) (e :: es) [] cpos) (tBMT r to t) := by
  refine ⟨fun pins s σ H Q I h => ?_⟩
  refine wpAny_Call_method_late hbase hfew hline rfl (thn (ho.run pins s σ H _ I h) fun v s1 ⟨x, H1, I1, r1, ty, q1⟩ => ?_)
  obtain ⟨p, ob, ys, rfl, hp, hdn⟩ := ty
  cases r1
  obtain ⟨hg, _, its, rv, o2, ho2, hc2, _⟩ := (show ObjOk X.prog X.w H1 s1.heap p (.frz ob (.tup ys)) from I1.hok p _ hp)
  rw [hg] at ho2
  cases ho2
  refine ⟨"tuple", id, pa, slot, hty, ⟨_, hg, hc2⟩, fun a ea => ?_, ?_⟩
  · cases ea
    exact ⟨_, hg, hdn⟩
  have hA := ha.run cpos pins s1 σ H1 _ I1 q1
  rw [hs] at hA ⊢
  refine Calls.callWith_builtin (by show (false || (backTo cpos (starEach es X.env)).any (·.1)) = false; rw [hplain] <;> rfl) (Calls.evalArgs_plain ?_)
  exact thn hA fun us s2 ⟨vs, H2, I2, r2, q2⟩ => hm pins s2 σ H2 (.ref p) vs (.ref p) us Q I2 rfl r2 q2
def rCntD (K : PySem.W.Frag) : V → List V → Hp → VK → Prop := fun x xs H Q => ∃ (a : Addr) (y : V) (d : PyData) (ds : List PyData), x = V.ref a ∧ xs = [y] ∧ Dp K H (V.ref a) (.tuple ds) ∧ Dp K H y d ∧
  SeqAt.shaped (.tuple ds) = true ∧ SeqAt.shaped d = true ∧ Q (.int ((ds.countP fun z => PyData.eqv z d : Nat) : Int)) H
theorem room_cnt {A : Around} {ds : List PyData} {d : PyData} (hs : SeqAt.shaped d = true) (hu : A.units + 65 < cLine) : A.units + 1 + min (PyData.depthAll ds) d.depth < cLine := by
  have h1 := SeqAt.depth_of_shaped hs
  have h2 : min (PyData.depthAll ds) d.depth ≤ d.depth := Nat.min_le_right _ _
  omega
theorem mt_tcount (hu : X.A.units + 65 < cLine) : MtR X "tuple.count" (rCntD X.K) := by
  intro pins s σ H x xs v us Q I rx rxs h
  obtain ⟨a, y, d, ds, rfl, rfl, hl, hy, sl, sd, q⟩ := h
  cases rx
  cases rxs with
  | cons ry rt =>
    rename_i uy ut
    cases rt
    obtain ⟨bs, r1⟩ := Dp.reads I d y uy hy ry
    have hxs : PyData.canLayAll0 ds = true := SeqAt.canLay_of_shaped sl
    cases hl with
    | tup hs ha =>
      obtain ⟨its, rv, ⟨⟨cls, dd, data, sls⟩, ho, hc, n, hd⟩, hz⟩ := I.tuple hs
      simp only at hc hd
      subst hc hd
      obtain ⟨as, h4⟩ := Dp.readsAll I ds _ its ha rv
      have hmap : its.map (SeqAt.readOf s.heap) = ds := SeqAt.readsAll_map ds its as hxs h4
      refine call_meets PySem.F.slot_tuple_count ⟨_, ho, rfl⟩ PySem.F.entry_tuple_count (PySem.F.args_tuple_count_2 _ _)
        (SeqAt.tuple_countAt a its.toArray n dd sls uy (fun u => PyData.eqv (SeqAt.readOf s.heap u) d)) ⟨ho, SeqAt.items_eqAt (vs := its.toArray) (show ReadsAll s.heap its.toArray.toList ds as from h4) r1 hxs (SeqAt.canLay_of_shaped sd) (room_cnt sd hu), ?_⟩
      have ec : its.toArray.toList.countP (fun u => PyData.eqv (SeqAt.readOf s.heap u) d) = ds.countP fun z => PyData.eqv z d := by
        rw [← hmap, List.countP_map]
        rfl
      refine ⟨.int ((ds.countP fun z => PyData.eqv z d : Nat) : Int), H, I.tok _, ⟨s.toks, ?_⟩, q⟩
      show Value.int ((its.toArray.toList.countP (fun u => PyData.eqv (SeqAt.readOf s.heap u) d) : Nat) : Int) s.toks = _
      rw [ec]
end
section
variable {c : Cfg} {τ : Lc} {Φ : Tg → Lc → Bool → Prop} {ta : TE} {t : TA} {K : PySem.W.Frag}
theorem countP_py {ds : List DD} {d : DD} : ((pyL ds).countP fun z => PyData.eqv z (py d)) = ds.countP fun z => deqv z d := by
  induction ds with
  | nil => rfl
  | cons a r ih =>
    show ((py a :: pyL r).countP fun z => PyData.eqv z (py d)) = _
    rw [List.countP_cons, List.countP_cons, ih]
    rfl
theorem w_count {n m : Nat} (h : W c ta τ fun x τ1 b1 => ∃ ds, x = .dat (.tpl ds) ∧ Nice n (.tpl ds) ∧ WA c t τ1 fun rs τ2 b2 => ∃ d, rs = [.dat d] ∧ Nice m d ∧ n ≤ 64 ∧ m ≤ 64 ∧ Φ (.dat (.int ((ds.countP fun z => deqv z d : Nat) : Int))) τ2 (b1 && b2)) :
    W c (tBMT (rCntD K) ta t) τ Φ := fun σ G H F o Q q =>
  h σ G H F o _ fun x G1 H1 F1 rx τ1 b1 p1 g1 s1 => by
    obtain ⟨ds, rfl, hn, p2⟩ := p1
    obtain ⟨a, vs, ob, rfl, h2, h3⟩ := s1
    refine ⟨⟨a, ob, vs, rfl, g1.ok.ex _ _ h2.1, h2.2⟩, p2 σ G1 H1 F1 g1.ok _ fun ys G2 H2 F2 rs τ2 b2 p3 g2 s2 => ?_⟩
    obtain ⟨d, rfl, hm, ln, lm, k⟩ := p3
    cases s2 with
    | cons s2 sn =>
      cases sn
      have r0 : Rep H2 (.tpl ds) (.ref a) := Rep.mono g2.ok.ex _ _ (Rep.mono g2.fr.g _ _ (show Rep G1 (.tpl ds) (.ref a) from ⟨a, vs, ob, rfl, h2, h3⟩))
      refine ⟨a, _, py d, pyL ds, rfl, rfl, Nice.dp n (.tpl ds) _ hn r0, Nice.dp m d _ hm (Rep.mono g2.ok.ex _ _ s2), hn.shaped ln, hm.shaped lm, ?_⟩
      rw [countP_py]
      exact q _ G2 H2 F2 _ τ2 _ k (g1.trans g2) rfl
end
end Z
set_option Elab.async false
set_option linter.all false
set_option maxRecDepth 100000
set_option maxHeartbeats 2000000
/-! Z7: own len, ==, !=, repr. -/
namespace PySem.W
open Lean Elab Tactic Meta PySem PySem.Spec PySem.Calls PyProof.Rows
section
variable {prog : Program} {w : World} {A : Around} {E : Value → Shared → Prop} {s : Shared} {K : Frag} {x C L f : Addr} {h₀ : Heap} {m : Str → Option Value} {ox : Obj} {od : Option Obj} {b tb : Value}
theorem zz_ifBoundB {M : Model} {name : Str} {id : String} {args : List Value} {Q : Option Value → Shared → Prop} (X : K.In s.heap) (I : InstAt s.heap x ox C od) (hs : findIn K (.ref C) name = some (some (.builtin id)))
    (hb : ∀ self, bindSpecial (.builtin id) self = pure (.builtin id, [self])) (h : wpAny M A (call (.builtin id) (.ref x :: args)) (fun v => Q (some v)) E s) : wpAny M A (callSpecialIfBound? (.ref x) name args) Q E s := by
  simp only [callSpecialIfBound?, bindSpecialIfBound?]
  refine wpAny_holding (wpAny_bind (wpAny_bind (wpAny_bind (I.type.here ((looks_findIn X hs).here ?_)))))
  refine wpAny_bind (wpAny_askSetting (wpAny_ite ?_))
  have fin : wpAny M A (call (.builtin id) ([.ref x] ++ args) >>= fun v => pure (some v)) Q E s := wpAny_bind (wpAny_mono h (fun v s' h' => wpAny_pure h') fun _ _ h' => h')
  split
  · exact wpAny_bind ((Looks.of_pure (hb _)).here (wpAny_pure (by exact fin)))
  · exact wpAny_tryCatch (wpAny_bind ((Looks.of_pure (hb _)).here (wpAny_pure (by exact fin))))
open Builtin in
theorem zz_objNe {Q : Value → Shared → Prop} (hu : A.in1.units < cLine) (X : K.In s.heap) (I : InstAt s.heap x ox C od) (hm : mroIn K C (.type "object") = some true) (hr : findIn K (.ref C) "__eq__" = some (some (.ref f))) (hf : isFn K (.ref f) = true)
    (h : wpAny (model prog w) A.in1 (call (.ref f) [.ref x, b]) (fun v s' => ∃ k, v = .bool k ∧ Q (.bool (!k)) s') E s) : wpAny (model prog w) A (call (.builtin "object.__ne__") [.ref x, b]) Q E s := by
  refine wpAny_call (codeAny_call_builtin PySem.F.cmp_object.ne.plain PySem.F.cmpEntry_ne (check_slot (i := "object.__ne__") (owner := "object") (n := "__ne__") (by decide +kernel) (by decide +kernel) (I.type.andThen (looks_mroIn X hm)) (PySem.F.cmpArgs_ne _ _) ?_))
  unfold Builtin.«object.__ne__»
  refine wpAny_bind (m := slotArgs "__ne__" 1 _) (wpAny_pure ?_)
  refine wpAny_bind (m := cRoomFor _ _) (wpAny_cRoomFor hu ?_)
  refine wpAny_bind (m := callSpecialIfBound? (.ref x) (Str.ofString "__eq__") _) (ifBound_K X I hr hf (wpAny_mono h (fun r s' hq => ?_) fun _ _ y => y))
  obtain ⟨k, rfl, hq⟩ := hq
  refine wpAny_bind (wpAny_truthy_bool ?_)
  exact wpAny_pure hq
theorem zz_ne {Q : Value → Shared → Prop} (hu : A.units < cLine) (hu1 : A.in1.units < cLine) (F : Fr h₀ L s.heap m) (X₀ : K.In h₀) (I : InstAt s.heap x ox C od) (hb : Looks (model prog w) s.heap (typeOf b) tb) (hn : notFirst K C tb = true)
    (hs : findIn K (.ref C) "__ne__" = some (some (.builtin "object.__ne__"))) (hm : mroIn K C (.type "object") = some true) (hr : findIn K (.ref C) "__eq__" = some (some (.ref f))) (hf : isFn K (.ref f) = true)
    (h : wpAny (model prog w) A.in1 (call (.ref f) [.ref x, b]) (fun v s' => ∃ k, v = .bool k ∧ Q (.bool (!k)) s') E s) : wpAny (model prog w) A (richCompare .NotEq (.ref x) b) Q E s := by
  have X := X₀.keeps F.keep
  have one : wpAny (model prog w) A (tryCompare (.ref x) (cmpInfo .NotEq).2.1 b) (fun r s' => ∃ v, r = some v ∧ Q v s') E s := by
    unfold tryCompare
    refine wpAny_bind (zz_ifBoundB (name := (cmpInfo .NotEq).2.1) X I hs PySem.F.cmp_object.ne.bind (zz_objNe hu1 X I hm hr hf (wpAny_mono h (fun v s' hv => ?_) fun _ _ e => e)))
    obtain ⟨k, rfl, hq⟩ := hv
    exact ⟨k, rfl, wpAny_pure ⟨_, rfl, hq⟩⟩
  unfold richCompare
  simp only [oneThing_ref]
  refine wpAny_holding (wpAny_bind (wpAny_cRoomFor hu ?_))
  refine wpAny_bind (I.type.here (wpAny_bind (hb.here ?_)))
  split
  · rename_i q
    have e : subIn K tb (.ref C) = some false := by
      rcases Bool.or_eq_true_iff.mp hn with e | e
      · rw [beq_iff_eq.mp e] at q; simp at q
      · exact beq_iff_eq.mp e
    refine wpAny_bind ((looks_subIn X e).here ?_)
    simp only [Bool.false_eq_true, if_false]
    refine wpAny_bind (wpAny_mono one (fun r s' z => ?_) fun _ _ e => e)
    obtain ⟨v, rfl, hq⟩ := z
    exact wpAny_pure hq
  · refine wpAny_bind (wpAny_pure ?_)
    simp only [Bool.false_eq_true, if_false]
    refine wpAny_bind (wpAny_mono one (fun r s' z => ?_) fun _ _ e => e)
    obtain ⟨v, rfl, hq⟩ := z
    exact wpAny_pure hq
end
end PySem.W
namespace Z
open PySem PySem.Spec PyProof.Rows L2
section
variable {X : Cx} {CXg : CXT} {k n : Nat} {f C : Addr} {fd : FuncData} {ps : List Str} {sp : Sp} {E : XK}
/-- a method called by the machine itself, at a deeper place -/
theorem run_at {A : Around} {pins : List (Addr × Obj)} {σ : L2.St} {H : Hp} {s : Shared} {Q : VK} {us : List Value} {vs : List V} {R : Value → Shared → Prop} (F : FnOk X.prog X.w X.K X.mg X.base CXg n f fd ps sp) (hr : Room n A) (hfr : A.frames = X.A.frames) (hb : Binds X.K fd ps []) (hx : Passes CXg X E)
    (I : Inv X pins σ H s) (r : Vals vs us) (h : sp vs H Q E) (k : ∀ v s', EP X pins σ Q v s' → R v s') : wpAny (model X.prog X.w) A (call (.ref f) us) R X.xe s := by
  have e0 : Env0 X.prog X.w X.K X.mg X.base A X.stack s H := by
    have e := I.env0
    exact ⟨by rw [hfr]; exact e.frames, e.mod, e.bs, e.bsz, e.funs, e.frf, e.hok, e.bare⟩
  have hl := F.len _ _ _ _ h
  refine wpAny_call (codeAny_mono (F.run A X.stack s H ⟨us, []⟩ us vs _ E hr e0 (by
    have := hb s us I.kIn (by rw [List.append_nil, ← r.length]; exact hl)
    rw [List.append_nil] at this
    exact this) r h) fun r s' hq => ?_)
  cases r with
  | error e => exact hx pins σ H s e s' I hq
  | ok fl =>
    cases fl with
    | ret u => exact k u s' (I.after hq)
    | next => exact False.elim hq
    | brk => exact False.elim hq
    | cont => exact False.elim hq
theorem frames_in1 {A : Around} : A.in1.frames = A.frames := rfl
/-- len(x), x of a class with its own __len__ -/
def rOwnLen (C : Addr) (sp : Sp) (E : XK) : List V → Hp → VK → Prop := fun xs H Q => ∃ a dx fs, xs = [.ref a] ∧ H a = some (.ins C dx fs) ∧ sp [.ref a] H (fun v H' => ∃ i : Int, v = .int i ∧ (0 ≤ i ∧ i < 2 ^ 63) ∧ Q (.int i) H') E
theorem call_ownlen (F : FnOk X.prog X.w X.K X.mg X.base CXg n f fd ps sp) (hr : Room (n + 1) X.A) (hb : Binds X.K fd ps []) (hx : Passes CXg X E)
    (hs : PySem.W.findIn X.K (.ref C) "__len__" = some (some (.ref f))) (hf : PySem.W.isFn X.K (.ref f) = true) : CallR X (.builtin "len") (rOwnLen C sp E) := by
  intro pins s σ H xs us Q I r h
  obtain ⟨a, dx, fs, rfl, ha, hsp⟩ := h
  obtain ⟨u, rfl, rx⟩ := vals1 r
  cases rx
  obtain ⟨mA, J, _⟩ := ins_get I.hok ha
  obtain ⟨od, J, _⟩ := J.look
  obtain ⟨m, hF⟩ := I.fr
  refine PySem.W.len_K hF I.ok.mod.kin J hs hf (run_at F hr.in1 frames_in1 hb hx I r hsp fun v s' hv => ?_)
  obtain ⟨z, H', I', rz, i, rfl, hi, q⟩ := hv
  obtain ⟨t, rfl⟩ := rz
  exact ⟨hi, .int i, H', I'.tok _, ⟨_, rfl⟩, q⟩
/-- repr(x) -/
def rOwnRepr (C : Addr) (sp : Sp) (E : XK) : List V → Hp → VK → Prop := fun xs H Q => ∃ a dx fs, xs = [.ref a] ∧ H a = some (.ins C dx fs) ∧ sp [.ref a] H (fun v H' => ∃ i : Str, v = .str i ∧ Q (.str i) H') E
theorem call_ownrepr (F : FnOk X.prog X.w X.K X.mg X.base CXg n f fd ps sp) (hr : Room (n + 1) X.A) (hb : Binds X.K fd ps []) (hx : Passes CXg X E)
    (hs : PySem.W.findIn X.K (.ref C) "__repr__" = some (some (.ref f))) (hf : PySem.W.isFn X.K (.ref f) = true) : CallR X (.builtin "repr") (rOwnRepr C sp E) := by
  intro pins s σ H xs us Q I r h
  obtain ⟨a, dx, fs, rfl, ha, hsp⟩ := h
  obtain ⟨u, rfl, rx⟩ := vals1 r
  cases rx
  obtain ⟨mA, J, _⟩ := ins_get I.hok ha
  obtain ⟨od, J, _⟩ := J.look
  obtain ⟨m, hF⟩ := I.fr
  refine PySem.W.repr_K hr.in1.units0 hF I.ok.mod.kin J hs hf (run_at F hr.in1 frames_in1 hb hx I r hsp fun v s' hv => ?_)
  obtain ⟨z, H', I', rz, i, rfl, q⟩ := hv
  obtain ⟨t, rfl⟩ := rz
  exact ⟨.str i, H', I', ⟨t, rfl⟩, q⟩
/-- what stands on the right of an own == -/
inductive TyR (K : PySem.W.Frag) (C : Addr) (H : Hp) : V → Prop where
  | same {b dx : Addr} {fs : List (Str × V)} (h : H b = some (.ins C dx fs)) : TyR K C H (.ref b)
  | tup {b : Addr} {ys : List V} (h : Rd H b (.tup ys)) (hn : PySem.W.subIn K (.type "tuple") (.ref C) = some false) : TyR K C H (.ref b)
theorem TyR.looks {x : V} {u : Value} {pins : List (Addr × Obj)} {σ : L2.St} {H : Hp} {s : Shared} (h : TyR X.K C H x) (I : Inv X pins σ H s) (r : RelV x u) : ∃ tb, PySem.W.Looks (model X.prog X.w) s.heap (typeOf u) tb ∧ PySem.W.notFirst X.K C tb = true := by
  cases h with
  | same h =>
    cases r
    obtain ⟨mB, J', _⟩ := ins_get I.hok h
    obtain ⟨od', J', _⟩ := J'.look
    exact ⟨.ref C, J'.type, by simp [PySem.W.notFirst]⟩
  | tup h hn =>
    cases r
    obtain ⟨_, its, rv, o, ho, hc, _⟩ := (show ObjOk X.prog X.w H s.heap _ (.tup _) from h.ok I.hok)
    exact ⟨.type "tuple", fun A Q E s' k q => wpAny_typeOf_ref (k _ _ ho) (by rw [hc]; exact q), by simp [PySem.W.notFirst, hn]⟩
def rOwnEq (K : PySem.W.Frag) (C : Addr) (sp : Sp) (E : XK) : R2 := fun x y H Q => ∃ a dx fs, x = .ref a ∧ H a = some (.ins C dx fs) ∧ TyR K C H y ∧ sp [x, y] H (fun v H' => ∃ i : Bool, v = .bl i ∧ Q (.bl i) H') E
def rOwnNe (K : PySem.W.Frag) (C : Addr) (sp : Sp) (E : XK) : R2 := fun x y H Q => ∃ a dx fs, x = .ref a ∧ H a = some (.ins C dx fs) ∧ TyR K C H y ∧ sp [x, y] H (fun v H' => ∃ i : Bool, v = .bl i ∧ Q (.bl (!i)) H') E
theorem op_owneq (F : FnOk X.prog X.w X.K X.mg X.base CXg n f fd ps sp) (hr : Room n X.A) (hb : Binds X.K fd ps []) (hx : Passes CXg X E)
    (hs : PySem.W.findIn X.K (.ref C) "__eq__" = some (some (.ref f))) (hf : PySem.W.isFn X.K (.ref f) = true) : OpR X (compareOp .Eq) (rOwnEq X.K C sp E) := by
  intro pins s σ H x y v u Q I rx ry h
  obtain ⟨a, dx, fs, rfl, ha, hy, hsp⟩ := h
  cases rx
  obtain ⟨tb, hb1, hb2⟩ := hy.looks I ry
  obtain ⟨mA, J, _⟩ := ins_get I.hok ha
  obtain ⟨od, J, _⟩ := J.look
  obtain ⟨m, hF⟩ := I.fr
  show wpAny (model X.prog X.w) X.A (richCompare .Eq (.ref a) u) (EP X pins σ Q) X.xe s
  refine PySem.W.cmp_K (op := .Eq) hr.units0 hF I.ok.mod.kin J hb1 hb2 hs hf (run_at F hr rfl hb hx I (show Vals [V.ref a, y] [Value.ref a, u] from .cons rfl (.cons ry .nil)) hsp fun v s' hv => ?_)
  obtain ⟨z, H', I', rz, i, rfl, q⟩ := hv
  cases rz
  exact ⟨.bl i, H', I', rfl, q⟩
theorem op_ownne (F : FnOk X.prog X.w X.K X.mg X.base CXg n f fd ps sp) (hr : Room (n + 1) X.A) (hb : Binds X.K fd ps []) (hx : Passes CXg X E)
    (hs : PySem.W.findIn X.K (.ref C) "__eq__" = some (some (.ref f))) (hf : PySem.W.isFn X.K (.ref f) = true) (hne : PySem.W.findIn X.K (.ref C) "__ne__" = some (some (.builtin "object.__ne__"))) (hm : PySem.W.mroIn X.K C (.type "object") = some true) : OpR X (compareOp .NotEq) (rOwnNe X.K C sp E) := by
  intro pins s σ H x y v u Q I rx ry h
  obtain ⟨a, dx, fs, rfl, ha, hy, hsp⟩ := h
  cases rx
  obtain ⟨tb, hb1, hb2⟩ := hy.looks I ry
  obtain ⟨mA, J, _⟩ := ins_get I.hok ha
  obtain ⟨od, J, _⟩ := J.look
  obtain ⟨m, hF⟩ := I.fr
  show wpAny (model X.prog X.w) X.A (richCompare .NotEq (.ref a) u) (EP X pins σ Q) X.xe s
  refine PySem.W.zz_ne hr.units0 hr.in1.units0 hF I.ok.mod.kin J hb1 hb2 hne hm hs hf (run_at F hr.in1 frames_in1 hb hx I (show Vals [V.ref a, y] [Value.ref a, u] from .cons rfl (.cons ry .nil)) hsp fun v s' hv => ?_)
  obtain ⟨z, H', I', rz, i, rfl, q⟩ := hv
  cases rz
  exact ⟨i, rfl, .bl (!i), H', I', rfl, q⟩
end
end Z
set_option Elab.async false
set_option linter.all false
set_option maxRecDepth 100000
set_option maxHeartbeats 2000000
/-! Z8: short names of readings, defs of the text with what they promise, fields stored, two lists joined, texts, own ==. -/
namespace Z
open PySem PySem.Spec PyProof.Rows L2
/-! ### readings by short names -/
abbrev rAddI : R2 := rI0 fun i j => .int (i + j)
abbrev rSubI : R2 := rI0 fun i j => .int (i - j)
abbrev rMulI : R2 := rI CMul fun i j => .int (i * j)
abbrev rModI : R2 := rI (fun _ j => 0 < j) fun i j => .int (i % j)
abbrev rDivI : R2 := rI CDivW fun i j => .int (i / j)
abbrev rPowI : R2 := rI CPow fun i j => .int (i ^ j.toNat)
abbrev rLtI : R2 := rI0 fun i j => .bl (decide (i < j))
abbrev rLeI : R2 := rI0 fun i j => .bl (decide (i ≤ j))
abbrev rGtI : R2 := rI0 fun i j => .bl (decide (j < i))
abbrev rGeI : R2 := rI0 fun i j => .bl (decide (j ≤ i))
abbrev rNegI : V → Hp → VK → Prop := rU fun i => .int (-i)
abbrev rIsN : R2 := fun x y H Q => y = .non ∧ Q (.bl (decide (x = .non))) H
abbrev rNotN : R2 := fun x y H Q => y = .non ∧ Q (.bl (!decide (x = .non))) H
abbrev rAddS : R2 := fun x y H Q => ∃ i j, x = .str i ∧ y = .str j ∧ i.length + j.length ≤ sizeLine ∧ Q (.str (i ++ j)) H
abbrev rLenS : List V → Hp → VK → Prop := fun xs H Q => ∃ z, xs = [.str z] ∧ z.length ≤ sizeLine ∧ Q (.int z.length) H
abbrev rStrI : List V → Hp → VK → Prop := fun xs H Q => ∃ i, xs = [.int i] ∧ i.natAbs.log2 < 1920 ∧ Q (.str (toString i)) H
abbrev rIntB : List V → Hp → VK → Prop := fun xs H Q => (∃ i, xs = [.int i] ∧ Q (.int i) H) ∨ ∃ k, xs = [.bl k] ∧ Q (.int (if k then 1 else 0)) H
abbrev rMin2 : List V → Hp → VK → Prop := fun xs H Q => ∃ i j, xs = [.int i, .int j] ∧ Q (.int (if j < i then j else i)) H
abbrev rMax2 : List V → Hp → VK → Prop := fun xs H Q => ∃ i j, xs = [.int i, .int j] ∧ Q (.int (if j > i then j else i)) H
abbrev rJoin (K : PySem.W.Frag) : V → List V → Hp → VK → Prop := fun x xs H Q => ∃ a p, ∃ ys : List Str, x = .str a ∧ xs = [.ref p] ∧ (SqL K H p (ys.map V.str) ∨ SqT K H p (ys.map V.str)) ∧
    (ys.map (·.length)).sum + ys.length * a.length ≤ 16777216 ∧ Q (.str (Txt.join a ys)) H
/-! ### what a def may let out; defs of the text -/
abbrev CXZ (P : Program) (w : World) : CXT := L2N.CX P w
theorem passL0 {X : Cx} : Passes (CXZ X.prog X.w) X E0 := fun _ _ _ _ _ _ _ h => by
  obtain ⟨_, _, _, _, _, _, _, _, _, _, _, _, z⟩ := h
  exact z.elim
theorem passD {X : Cx} {E : XK} (tk : L2N.Takes X fun cls d _ H => E cls d H) : Passes (CXZ X.prog X.w) X E := L2N.passes_call tk fun _ _ _ _ h => h
/-- a def at its place: it keeps what S says -/
structure FO (P : Program) (w : World) (K : PySem.W.Frag) (mg : Str → Option Value) (k : Nat) (p : Str × Option Str) (ps : List Str) (S : Spec) : Prop where
  ex : ∃ fd, PySem.W.keepIn K (.ref (He.fAd K p)) = true ∧ Binds K fd ps [] ∧ ∀ base, FnOk P w K mg base (CXZ P w) k (He.fAd K p) fd ps (FP S)
abbrev FnP (K : PySem.W.Frag) (x qual : Str) (st : Stmt) (f : Addr) (fd : FuncData) : Prop := FunD K x qual (defArgs st) (defBody st) (defScope st) [] [] f fd
theorem un65 {k : Nat} {A : Around} (r : Room k A) : A.units + 65 < cLine := by
  have := r.un
  omega
/-- a def's arguments: as many as its parameters, what is to be changed as such -/
def Good (S : Spec) (n : Nat) : Prop := ∀ as Ψ Ξ, S as Ψ Ξ → as.length = n ∧ Plain as
/-! ### fields of an instance that is one's own -/
section
variable {c : Cfg} {τ : Lc} {Φ : Tg → Lc → Bool → Prop} {te ta tb : TE} {t : TA} {K : PySem.W.Frag} {D : AE} {i : Nat}
theorem Ok.mutI {σ : L2.St} {G H : Hp} {F : Nat → Addr → Prop} {l : Bool} {C : Addr} {ns ms : List Str} {xs ys : List DD} (o : Ok c τ σ G H F) (hi : τ[i]? = some (some (.res l (ownI C ns xs)))) :
    ∃ p dx vs, σ[i]? = some (some (.ref p)) ∧ H p = some (.ins C dx (ns.zip vs)) ∧ ns.length = vs.length ∧ RepL G xs vs ∧
      ∀ ws, ms.length = ws.length → RepL G ys ws → Go false c (τ.set i (some (.res l (ownI C ms ys)))) σ G H F G (upd H p (.ins C dx (ms.zip ws))) F := by
  obtain ⟨u, hu, p, dx, vs, rfl, h2, h5, h3, h4⟩ := o.rs i l _ hi
  have fp : F i p := by rw [h4]
  have m3 := (o.own i p fp).2.1
  have hil : i < τ.length := (List.getElem?_eq_some_iff.mp hi).1
  refine ⟨p, dx, vs, hu, h2, h5, h3, fun ws hl r => ?_⟩
  have gt : ∀ j : Nat, j ≠ i → (τ.set i (some (.res l (ownI C ms ys))))[j]? = τ[j]? := fun j h => List.getElem?_set_ne (fun z => h z.symm)
  have gti : (τ.set i (some (.res l (ownI C ms ys))))[i]? = some (some (.res l (ownI C ms ys))) := List.getElem?_set_self hil
  refine ⟨?_, ⟨Same.refl G, fun a u z w => ?_, fun a z _ _ => z, fun a z => ?_⟩, fun j a z => .inl z⟩
  · exact {
      ex := same_own o.ex m3
      tu := o.tu.new fun z => z
      fr := ⟨o.fr.g, fun a u z w => by
        rw [upd_ne (fun e => by
          subst e
          obtain ⟨_, _, _, _, _, y4⟩ := o.own i a fp
          rcases y4 with y4 | y4
          · rw [z] at y4; cases y4
          · exact w y4.2)]
        exact o.fr.h a u z w, o.fr.n, fun a z => by
        by_cases e : a = p
        · rw [e, upd_same]; exact (fun y => by cases y)
        · rw [upd_ne e]; exact o.fr.t a z⟩
      len := by rw [List.length_set]; exact o.len
      sl := fun j t h => by
        by_cases e : j = i
        · subst e
          rw [gti] at h
          cases h
          exact ⟨_, hu, True.intro⟩
        · rw [gt j e] at h
          exact o.sl j t h
      rs := fun j l' R h => by
        by_cases e : j = i
        · subst e
          rw [gti] at h
          cases h
          exact ⟨_, hu, p, dx, ws, rfl, upd_same, hl, r, h4⟩
        · rw [gt j e] at h
          obtain ⟨v, k1, k2⟩ := o.rs j l' R h
          exact ⟨v, k1, R.mono v _ _ _ _ _ k2 (Same.refl G) fun a ha => upd_ne fun ea => o.dj j i a e ha (by rw [ea]; exact fp)⟩
      own := fun j a z => by
        obtain ⟨y1, y2, l', R, y3, y4⟩ := o.own j a z
        refine ⟨?_, y2, ?_⟩
        · by_cases e : a = p
          · rw [e, upd_same]; exact (fun y => by cases y)
          · rw [upd_ne e]; exact y1
        · by_cases e : j = i
          · subst e
            rw [hi] at y3
            cases y3
            exact ⟨l, _, gti, y4⟩
          · exact ⟨l', R, by rw [gt j e]; exact y3, y4⟩
      dj := o.dj
      pn := fun q hq => by
        obtain ⟨k1, R, k2⟩ := o.pn q hq
        by_cases e : q.1 = i
        · rw [e, hi] at k2
          cases k2
          exact ⟨k1, _, by rw [e]; exact gti⟩
        · exact ⟨k1, R, by rw [gt _ e]; exact k2⟩ }
  · rw [upd_ne (fun e => by subst e; exact w ⟨rfl, i, fp⟩)]
    exact z
  · by_cases e : a = p
    · rw [e, upd_same]; exact (fun y => by cases y)
    · rw [upd_ne e]; exact z
/-- the names and the data behind a store to a field -/
def putN (f : Str) : List Str → List Str
  | [] => [f]
  | g :: r => if g = f then g :: r else g :: putN f r
def putX (f : Str) (d : DD) : List Str → List DD → List DD
  | g :: r, x :: xs => if g = f then d :: xs else x :: putX f d r xs
  | _, _ => [d]
def putV (f : Str) (d : V) : List Str → List V → List V
  | g :: r, x :: xs => if g = f then d :: xs else x :: putV f d r xs
  | _, _ => [d]
theorem put_zip {f : Str} {y : V} : ∀ {ns : List Str} {vs : List V}, ns.length = vs.length → putF f y (ns.zip vs) = (putN f ns).zip (putV f y ns vs) ∧ (putN f ns).length = (putV f y ns vs).length
  | [], [], _ => ⟨rfl, rfl⟩
  | [], _ :: _, h => by cases h
  | _ :: _, [], h => by cases h
  | g :: ns, v :: vs, h => by
    obtain ⟨h1, h2⟩ := put_zip (f := f) (y := y) (ns := ns) (vs := vs) (by simpa using h)
    have hl : ns.length = vs.length := by simpa using h
    show (if g = f then (g, y) :: ns.zip vs else (g, v) :: putF f y (ns.zip vs)) = (if g = f then g :: ns else g :: putN f ns).zip (if g = f then y :: vs else v :: putV f y ns vs) ∧
      (if g = f then g :: ns else g :: putN f ns).length = (if g = f then y :: vs else v :: putV f y ns vs).length
    by_cases e : g = f
    · rw [if_pos e, if_pos e, if_pos e]
      exact ⟨rfl, by rw [List.length_cons, List.length_cons, hl]⟩
    · rw [if_neg e, if_neg e, if_neg e, h1]
      exact ⟨rfl, by rw [List.length_cons, List.length_cons, h2]⟩
theorem putX_rep {G : Hp} {f : Str} {d : DD} {y : V} (hd : Rep G d y) : ∀ {ns : List Str} {xs : List DD} {vs : List V}, ns.length = vs.length → RepL G xs vs → RepL G (putX f d ns xs) (putV f y ns vs)
  | [], [], _, _, h => by
    have e : _ = [] := h
    subst e
    exact RepL.cons hd rfl
  | [], _ :: _, vs, hl, h => by
    have := h.length
    cases vs with
    | nil => cases this
    | cons a b => cases hl
  | _ :: _, [], vs, hl, h => by
    have e : vs = [] := h
    subst e
    cases hl
  | g :: ns, x :: xs, vs, hl, h => by
    obtain ⟨v, r, rfl, h2, h3⟩ := h
    show RepL G (if g = f then d :: xs else x :: putX f d ns xs) (if g = f then y :: r else v :: putV f y ns r)
    by_cases e : g = f
    · rw [if_pos e, if_pos e]
      exact RepL.cons hd h3
    · rw [if_neg e, if_neg e]
      exact RepL.cons h2 (putX_rep hd (by simpa using hl) h3)
/-- x.f = e -/
theorem ws_fldI {f : Str} (h : W c te τ fun r τ1 _ => ∃ d l C ns xs, r = .dat d ∧ τ1[i]? = some (some (.res l (ownI C ns xs))) ∧ Cls K C ∧ NoAttr K C f ∧ ns.length < 900 ∧ D.nx (τ1.set i (some (.res l (ownI C (putN f ns) (putX f d ns xs)))))) :
    WS c (sFld K (tVar i) te f) τ D := fun σ G H F o De lk =>
  h σ G H F o _ fun y G1 H1 F1 r τ1 b1 p1 g1 s1 => by
    obtain ⟨d, l, C, ns, xs, rfl, hi, hc, hn, hz, k⟩ := p1
    obtain ⟨p, dx, vs, hu, h2, h5, h3, gm⟩ := g1.ok.mutI (ms := putN f ns) (ys := putX f d ns xs) hi
    obtain ⟨e1, e2⟩ := put_zip (f := f) (y := y) h5
    have g2 := gm (putV f y ns vs) e2 (putX_rep s1 h5 h3)
    refine ⟨_, hu, p, C, dx, _, rfl, h2, hc, hn, ?_, ?_⟩
    · rw [List.length_zip, ← h5, Nat.min_self]
      exact Nat.lt_trans hz (by decide)
    · rw [e1]
      exact lk.nx _ σ G1 _ F1 k g2.ok g1.fr.g
/-! ### a new list of two -/
/-- the datum at a value: a list in the heap at hand, its items persistent -/
def AtD (G H : Hp) (v : V) : DD → Prop
  | .lst ds => ∃ p vs, v = .ref p ∧ H p = some (.lst vs) ∧ RepL G ds vs
  | d => Rep G d v
def MkL2 (r : R2) (x y : DD) (es : List DD) : Prop := ∀ (G H : Hp) (u v : V), Same G H → ∀ Q : VK, AtD G H u x → AtD G H v y → (∀ p ws, H p = none → RepL G es ws → Q (.ref p) (upd H p (.lst ws))) → r u v H Q
theorem Dl.at {c : Cfg} {σ : L2.St} {H0 G H : Hp} {F : Nat → Addr → Prop} {r : Tg} {d : DD} {v : V} (h : Dl τ r d) (o : Ok c τ σ G H F) (q : Rs c σ H0 G H F r v) : AtD G H v d := by
  cases h with
  | dat =>
    cases d with
    | lst ds => exact (Dl.dat (τ := τ)).lst o q
    | _ => exact q
  | fre => exact Dl.fre.lst o q
  | ali h => exact (Dl.ali h).lst o q
theorem w_mkL2 {r : R2} (h : W c ta τ fun x τ1 b1 => W c tb τ1 fun y τ2 b2 => stb x b2 = true ∧ ∃ d e es, Dl τ2 x d ∧ Dl τ2 y e ∧ MkL2 r d e es ∧ Φ (.res true (ownL es)) τ2 (b1 && b2)) : W c (tOp r ta tb) τ Φ := fun σ G H F o Q q =>
  h σ G H F o _ fun x G1 H1 F1 rx τ1 b1 p1 g1 s1 => p1 σ G1 H1 F1 g1.ok _ fun y G2 H2 F2 ry τ2 b2 p2 g2 s2 => by
    obtain ⟨hs, d, e, es, hd, he, hop, k⟩ := p2
    refine hop G2 H2 x y g2.ok.ex Q (hd.at g2.ok (s1.keep g2 hs)) (he.at g2.ok s2) fun p ws hp rr => ?_
    obtain ⟨a, b⟩ := new_own (g1.trans g2) hp rr
    exact q _ _ _ F2 _ τ2 _ k a b
theorem mk_cat {xs ys : List DD} (hz : xs.length + ys.length ≤ 100000) : MkL2 rCat (.lst xs) (.lst ys) (xs ++ ys) := fun G H u v e Q h1 h2 k => by
  obtain ⟨p, vs, rfl, a1, a2⟩ := h1
  obtain ⟨q, ws, rfl, b1, b2⟩ := h2
  exact ⟨p, q, vs, ws, rfl, rfl, a1, b1, by rw [a2.length, b2.length]; exact sz_le hz, fun l hl => k l _ hl (a2.append b2)⟩
theorem repl_rep {G : Hp} {ds : List DD} {vs : List V} (h : RepL G ds vs) : ∀ n : Nat, RepL G (List.replicate n ds).flatten (List.replicate n vs).flatten
  | 0 => rfl
  | n + 1 => by
    rw [List.replicate_succ, List.replicate_succ, List.flatten_cons, List.flatten_cons]
    exact h.append (repl_rep h n)
theorem mk_rep {xs : List DD} {n : Int} (h0 : -100000 ≤ n) (h1 : n ≤ 100000) (hz : xs.length * n.toNat ≤ 100000) : MkL2 rRep (.lst xs) (.int n) (List.replicate n.toNat xs).flatten := fun G H u v e Q h2 h3 k => by
  obtain ⟨p, vs, rfl, a1, a2⟩ := h2
  exact ⟨p, n, vs, rfl, h3, a1, by omega, by omega, by rw [a2.length]; exact sz_le hz, fun l hl => k l _ hl (repl_rep a2 _)⟩
/-! ### slices -/
def cutD (xs : List DD) (lo hi : Option Int) : List DD := (xs.drop (HT.sIx xs.length 0 lo)).take (HT.sIx xs.length xs.length hi - HT.sIx xs.length 0 lo)
theorem RepL.cut {G : Hp} {ds : List DD} {vs : List V} (h : RepL G ds vs) (lo hi : Option Int) : RepL G (cutD ds lo hi) (cutV vs lo hi) := by
  unfold cutD cutV
  rw [h.length]
  exact (h.drop _).take _
def WO (c : Cfg) (to : TO) (τ : Lc) (Φ : Option Int → Lc → Bool → Prop) : Prop := ∀ (σ : L2.St) (G H : Hp) (F : Nat → Addr → Prop), Ok c τ σ G H F → ∀ Q : Option Int → Hp → Prop,
  (∀ k G' H' F' τ' b, Φ k τ' b → Go b c τ' σ G H F G' H' F' → Q k H') → to σ H Q
theorem wo_none {Φ : Option Int → Lc → Bool → Prop} (k : Φ none τ true) : WO c tNoPart τ Φ := fun σ G H F o Q q => q none G H F τ true k (Go.refl o)
theorem wo_some {Φ : Option Int → Lc → Bool → Prop} (h : W c te τ fun r τ1 b1 => ∃ n, r = .dat (.int n) ∧ Φ (some n) τ1 b1) : WO c (tPart te) τ Φ := fun σ G H F o Q q =>
  h σ G H F o _ fun x G1 H1 F1 r τ1 b1 p1 g1 s1 => by
    obtain ⟨n, rfl, k⟩ := p1
    exact ⟨n, s1, q (some n) G1 H1 F1 τ1 b1 k g1⟩
/-- xs[lo:hi], a list: a new one -/
theorem w_slL {tl th : TO} (h : W c te τ fun x τ1 b1 => WO c tl τ1 fun lo τ2 b2 => WO c th τ2 fun hi τ3 b3 => stb x b2 = true ∧ stb x b3 = true ∧ ∃ ds, Dl τ3 x (.lst ds) ∧ Φ (.res true (ownL (cutD ds lo hi))) τ3 (b1 && b2 && b3)) :
    W c (tSl (rSlL K) te tl th) τ Φ := fun σ G H F o Q q =>
  h σ G H F o _ fun x G1 H1 F1 rx τ1 b1 p1 g1 s1 => p1 σ G1 H1 F1 g1.ok _ fun lo G2 H2 F2 τ2 b2 p2 g2 => p2 σ G2 H2 F2 g2.ok _ fun hi G3 H3 F3 τ3 b3 p3 g3 => by
    obtain ⟨e2, e3, ds, hd, k⟩ := p3
    obtain ⟨p, vs, rfl, h2, h3⟩ := hd.lst g3.ok ((s1.keep g2 e2).keep g3 e3)
    refine ⟨p, vs, rfl, SqL.of h2, fun l hl => ?_⟩
    obtain ⟨a, b⟩ := new_own ((g1.trans g2).trans g3) hl (h3.cut lo hi)
    exact q _ _ _ F3 _ τ3 _ k a b
/-- of a list that is only seen, of scalars -/
theorem w_slLV {tl th : TO} (h : W c te τ fun x τ1 b1 => WO c tl τ1 fun lo τ2 b2 => WO c th τ2 fun hi τ3 b3 => stb x b2 = true ∧ stb x b3 = true ∧ ∃ ds, Dv τ3 x (.lst ds) ∧ hardL ds = true ∧ Φ (.res true (ownL (cutD ds lo hi))) τ3 (b1 && b2 && b3)) :
    W c (tSl (rSlL K) te tl th) τ Φ := fun σ G H F o Q q =>
  h σ G H F o _ fun x G1 H1 F1 rx τ1 b1 p1 g1 s1 => p1 σ G1 H1 F1 g1.ok _ fun lo G2 H2 F2 τ2 b2 p2 g2 => p2 σ G2 H2 F2 g2.ok _ fun hi G3 H3 F3 τ3 b3 p3 g3 => by
    obtain ⟨e2, e3, ds, hd, hh, k⟩ := p3
    obtain ⟨p, vs, rfl, h2, h3⟩ := hd.rep g3.ok ((s1.keep g2 e2).keep g3 e3)
    refine ⟨p, vs, rfl, SqL.of h2, fun l hl => ?_⟩
    obtain ⟨a, b⟩ := new_own ((g1.trans g2).trans g3) hl ((hardL_any (G' := G3) hh h3).cut lo hi)
    exact q _ _ _ F3 _ τ3 _ k a b
/-- t[lo:hi], a tuple -/
theorem w_slT {tl th : TO} (h : W c te τ fun x τ1 b1 => WO c tl τ1 fun lo τ2 b2 => WO c th τ2 fun hi τ3 b3 => ∃ ds, x = .dat (.tup ds) ∧ Φ (.dat (.tup (cutD ds lo hi))) τ3 (b1 && b2 && b3)) :
    W c (tSl (rSlA K) te tl th) τ Φ := fun σ G H F o Q q =>
  h σ G H F o _ fun x G1 H1 F1 rx τ1 b1 p1 g1 s1 => p1 σ G1 H1 F1 g1.ok _ fun lo G2 H2 F2 τ2 b2 p2 g2 => p2 σ G2 H2 F2 g2.ok _ fun hi G3 H3 F3 τ3 b3 p3 g3 => by
    obtain ⟨ds, rfl, k⟩ := p3
    have s3 : Rs c σ H G3 H3 F3 (.dat (.tup ds)) x := (s1.keep g2 rfl).keep g3 rfl
    obtain ⟨p, vs, rfl, h2, h3⟩ := s3
    refine ⟨p, vs, rfl, .inl (rd_mono g3.ok.ex h2), fun hw => ?_, fun _ l hl => ?_⟩
    · refine q _ G3 H3 F3 _ τ3 _ k ((g1.trans g2).trans g3) ⟨p, vs, rfl, h2, ?_⟩
      have e : cutV vs lo hi = vs := by
        unfold cutV
        rw [hw.1, hw.2]
        simp
      have := h3.cut lo hi
      rw [e] at this
      exact this
    · have g4 := Go.grow g3.ok (Fr.both (o := .tup (cutV vs lo hi)) g3.ok.ex hl) (same_both g3.ok.ex) g3.ok.tu.both
      have gg := ((g1.trans g2).trans g3).trans g4
      rw [Bool.and_true] at gg
      exact q _ _ _ F3 _ τ3 _ k gg ⟨l, _, rfl, .inl upd_same, (h3.cut lo hi).mono g4.fr.g _ _⟩
/-- t + u, tuples -/
theorem w_catT (h : W c ta τ fun x τ1 b1 => W c tb τ1 fun y τ2 b2 => ∃ ds es, x = .dat (.tup ds) ∧ y = .dat (.tup es) ∧ ds.length + es.length ≤ 100000 ∧ Φ (.dat (.tup (ds ++ es))) τ2 (b1 && b2)) : W c (tOp (rCatA K) ta tb) τ Φ := fun σ G H F o Q q =>
  h σ G H F o _ fun x G1 H1 F1 rx τ1 b1 p1 g1 s1 => p1 σ G1 H1 F1 g1.ok _ fun y G2 H2 F2 ry τ2 b2 p2 g2 s2 => by
    obtain ⟨ds, es, rfl, rfl, hz, k⟩ := p2
    have s1' : Rs c σ H G2 H2 F2 (.dat (.tup ds)) x := s1.keep g2 rfl
    obtain ⟨p, vs, rfl, h2, h3⟩ := s1'
    obtain ⟨p', ws, rfl, h4, h5⟩ := s2
    have l1 := h3.length
    have l2 := h5.length
    refine ⟨p, p', vs, ws, rfl, rfl, .inl (rd_mono g2.ok.ex h2), .inl (rd_mono g2.ok.ex h4), by rw [l1, l2]; exact sz_le hz, fun e => ?_, fun _ e => ?_, fun _ _ l hl => ?_⟩
    · subst e
      have ed : ds = [] := List.length_eq_zero_iff.mp (by simpa using l1.symm)
      subst ed
      exact q _ G2 H2 F2 _ τ2 _ k (g1.trans g2) ⟨p', ws, rfl, h4, h5⟩
    · subst e
      have ed : es = [] := List.length_eq_zero_iff.mp (by simpa using l2.symm)
      subst ed
      rw [List.append_nil] at k
      exact q _ G2 H2 F2 _ τ2 _ k (g1.trans g2) ⟨p, vs, rfl, h2, h3⟩
    · have g4 := Go.grow g2.ok (Fr.both (o := .tup (vs ++ ws)) g2.ok.ex hl) (same_both g2.ok.ex) g2.ok.tu.both
      have gg := (g1.trans g2).trans g4
      rw [Bool.and_true] at gg
      exact q _ _ _ F2 _ τ2 _ k gg ⟨l, _, rfl, .inl upd_same, (h3.append h5).mono g4.fr.g _ _⟩
/-! ### texts -/
theorem o2_adds {a b : Str} (hz : a.length + b.length ≤ 100000) : Op2 rAddS (.str a) (.str b) (.str (a ++ b)) := fun G H x y e t hx hy Q q => ⟨a, b, hx, hy, sz_le hz, q _ G H Fr.refl e t rfl⟩
theorem o2_isN {d : DD} {k : Bool} (hk : ∀ G v, Rep G d v → decide (v = V.non) = k) : Op2 rIsN d .non (.bl k) := fun G H x y e t hx hy Q q => ⟨hy, q _ G H Fr.refl e t (show _ = V.bl k by rw [hk H x hx])⟩
theorem o2_notN {d : DD} {k : Bool} (hk : ∀ G v, Rep G d v → decide (v = V.non) = k) : Op2 rNotN d .non (.bl (!k)) := fun G H x y e t hx hy Q q => ⟨hy, q _ G H Fr.refl e t (show _ = V.bl (!k) by rw [hk H x hx])⟩
theorem oa_str {i : Int} (hz : i.natAbs.log2 < 1920) : OpA rStrI [.int i] (.str (toString i)) := fun G H xs e t h Q q => by
  obtain ⟨v, r, rfl, h2, h4⟩ := h
  have e4 : r = [] := h4
  subst e4
  exact ⟨i, by rw [show v = V.int i from h2], hz, q _ G H Fr.refl e t rfl⟩
theorem oa_lenS {z : Str} (hz : z.length ≤ 100000) : OpA rLenS [.str z] (.int z.length) := fun G H xs e t h Q q => by
  obtain ⟨v, r, rfl, h2, h4⟩ := h
  have e4 : r = [] := h4
  subst e4
  exact ⟨z, by rw [show v = V.str z from h2], sz_le hz, q _ G H Fr.refl e t rfl⟩
theorem oa_intB {k : Bool} : OpA rIntB [.bl k] (.int (if k then 1 else 0)) := fun G H xs e t h Q q => by
  obtain ⟨v, r, rfl, h2, h4⟩ := h
  have e4 : r = [] := h4
  subst e4
  exact .inr ⟨k, by rw [show v = V.bl k from h2], q _ G H Fr.refl e t rfl⟩
theorem oa_min2 {i j : Int} : OpA rMin2 [.int i, .int j] (.int (if j < i then j else i)) := fun G H xs e t h Q q => by
  obtain ⟨v, r, rfl, h2, v2, r2, rfl, h3, h4⟩ := h
  have e4 : r2 = [] := h4
  subst e4
  exact ⟨i, j, by rw [show v = V.int i from h2, show v2 = V.int j from h3], q _ G H Fr.refl e t rfl⟩
theorem oa_max2 {i j : Int} : OpA rMax2 [.int i, .int j] (.int (if j > i then j else i)) := fun G H xs e t h Q q => by
  obtain ⟨v, r, rfl, h2, v2, r2, rfl, h3, h4⟩ := h
  have e4 : r2 = [] := h4
  subst e4
  exact ⟨i, j, by rw [show v = V.int i from h2, show v2 = V.int j from h3], q _ G H Fr.refl e t rfl⟩
/-! ### own ==, !=, len, repr -/
theorem tyr_obj {H : Hp} {C : Addr} {ns : List Str} {xs : List DD} {v : V} (h : Rep H (.obj C ns xs) v) : TyR K C H v := by
  obtain ⟨a, dx, vs, rfl, h2, _⟩ := h
  exact .same h2
theorem w_ownEq {C : Addr} {S : Spec} {E : XK} (h : W c ta τ fun x τ1 b1 => W c tb τ1 fun y τ2 b2 => ∃ ns xs e, x = .dat (.obj C ns xs) ∧ y = .dat e ∧ ((∃ ms ys, e = .obj C ms ys) ∨ (∃ ys, e = .tup ys) ∧ PySem.W.subIn K (.type "tuple") (.ref C) = some false) ∧
    CallOk c S E τ2 [x, y] (fun r τ3 b3 => ∃ k, r = .dat (.bl k) ∧ Φ (.dat (.bl k)) τ3 b3) (b1 && b2)) : W c (tOp (rOwnEq K C (FP S) E) ta tb) τ Φ := fun σ G H F o Q q =>
  h σ G H F o _ fun x G1 H1 F1 rx τ1 b1 p1 g1 s1 => p1 σ G1 H1 F1 g1.ok _ fun y G2 H2 F2 ry τ2 b2 p2 g2 s2 => by
    obtain ⟨ns, xs, e, rfl, rfl, he, hc⟩ := p2
    have s1' : Rs c σ H G2 H2 F2 (.dat (.obj C ns xs)) x := s1.keep g2 rfl
    obtain ⟨a, dx, vs, rfl, h2, h3, h4⟩ := id s1'
    refine ⟨a, dx, _, rfl, g2.ok.ex _ _ h2, ?_, call_run hc (g1.trans g2) (.cons s1' (.cons (Rs.from s2 g1.fr.t) .nil)) fun v G' H' F' r τ' b' hr g' rs => ?_⟩
    · rcases he with ⟨ms, ys, rfl⟩ | ⟨⟨ys, rfl⟩, hn⟩
      · exact tyr_obj (Rep.mono g2.ok.ex _ _ s2)
      · obtain ⟨b, ws, rfl, h5, _⟩ := s2
        exact .tup (rd_mono g2.ok.ex h5) hn
    · obtain ⟨k, rfl, hk⟩ := hr
      exact ⟨k, rs, q _ G' H' F' _ τ' b' hk g' rfl⟩
theorem w_ownNe {C : Addr} {S : Spec} {E : XK} (h : W c ta τ fun x τ1 b1 => W c tb τ1 fun y τ2 b2 => ∃ ns xs e, x = .dat (.obj C ns xs) ∧ y = .dat e ∧ ((∃ ms ys, e = .obj C ms ys) ∨ (∃ ys, e = .tup ys) ∧ PySem.W.subIn K (.type "tuple") (.ref C) = some false) ∧
    CallOk c S E τ2 [x, y] (fun r τ3 b3 => ∃ k, r = .dat (.bl k) ∧ Φ (.dat (.bl (!k))) τ3 b3) (b1 && b2)) : W c (tOp (rOwnNe K C (FP S) E) ta tb) τ Φ := fun σ G H F o Q q =>
  h σ G H F o _ fun x G1 H1 F1 rx τ1 b1 p1 g1 s1 => p1 σ G1 H1 F1 g1.ok _ fun y G2 H2 F2 ry τ2 b2 p2 g2 s2 => by
    obtain ⟨ns, xs, e, rfl, rfl, he, hc⟩ := p2
    have s1' : Rs c σ H G2 H2 F2 (.dat (.obj C ns xs)) x := s1.keep g2 rfl
    obtain ⟨a, dx, vs, rfl, h2, h3, h4⟩ := id s1'
    refine ⟨a, dx, _, rfl, g2.ok.ex _ _ h2, ?_, call_run hc (g1.trans g2) (.cons s1' (.cons (Rs.from s2 g1.fr.t) .nil)) fun v G' H' F' r τ' b' hr g' rs => ?_⟩
    · rcases he with ⟨ms, ys, rfl⟩ | ⟨⟨ys, rfl⟩, hn⟩
      · exact tyr_obj (Rep.mono g2.ok.ex _ _ s2)
      · obtain ⟨b, ws, rfl, h5, _⟩ := s2
        exact .tup (rd_mono g2.ok.ex h5) hn
    · obtain ⟨k, rfl, hk⟩ := hr
      exact ⟨k, rs, q _ G' H' F' _ τ' b' hk g' rfl⟩
theorem w_ownLen {C : Addr} {S : Spec} {E : XK} (h : W c ta τ fun x τ1 b1 => ∃ ns xs, x = .dat (.obj C ns xs) ∧ CallOk c S E τ1 [x] (fun r τ3 b3 => ∃ k : Int, r = .dat (.int k) ∧ 0 ≤ k ∧ k ≤ 1000000 ∧ Φ (.dat (.int k)) τ3 b3) b1) :
    W c (tCB (rOwnLen C (FP S) E) (tCons ta tNil)) τ Φ := fun σ G H F o Q q =>
  h σ G H F o _ fun x G1 H1 F1 rx τ1 b1 p1 g1 s1 => by
    obtain ⟨ns, xs, rfl, hc⟩ := p1
    obtain ⟨a, dx, vs, rfl, h2, h3, h4⟩ := id s1
    refine ⟨a, dx, _, rfl, g1.ok.ex _ _ h2, call_run hc g1 (.cons s1 .nil) fun v G' H' F' r τ' b' hr g' rs => ?_⟩
    obtain ⟨k, rfl, k1, k2, hk⟩ := hr
    exact ⟨k, rs, ⟨k1, by omega⟩, q _ G' H' F' _ τ' b' hk g' rfl⟩
theorem w_ownRepr {C : Addr} {S : Spec} {E : XK} (h : W c ta τ fun x τ1 b1 => ∃ ns xs, x = .dat (.obj C ns xs) ∧ CallOk c S E τ1 [x] (fun r τ3 b3 => ∃ k : Str, r = .dat (.str k) ∧ Φ (.dat (.str k)) τ3 b3) b1) :
    W c (tCB (rOwnRepr C (FP S) E) (tCons ta tNil)) τ Φ := fun σ G H F o Q q =>
  h σ G H F o _ fun x G1 H1 F1 rx τ1 b1 p1 g1 s1 => by
    obtain ⟨ns, xs, rfl, hc⟩ := p1
    obtain ⟨a, dx, vs, rfl, h2, h3, h4⟩ := id s1
    refine ⟨a, dx, _, rfl, g1.ok.ex _ _ h2, call_run hc g1 (.cons s1 .nil) fun v G' H' F' r τ' b' hr g' rs => ?_⟩
    obtain ⟨k, rfl, hk⟩ := hr
    exact ⟨k, rs, q _ G' H' F' _ τ' b' hk g' rfl⟩
/-- isinstance(x, C), C a class of one's own -/
theorem clsV_ref {C : Addr} : True := True.intro
end
end Z
set_option Elab.async false
set_option linter.all false
set_option maxRecDepth 100000
set_option maxHeartbeats 2000000
/-! Z9: targets with a star, targets that are fields, f-strings, joined texts. -/
namespace Z
open PySem PySem.Spec PyProof.Rows L2
/-! ### a, *b, c = a list -/
section
variable {X : Cx} {pos : Pos}
/-- n targets, the i-th with a star: a new list in its place -/
def gStar (K : PySem.W.Frag) (n i : Nat) (t : TGs) : TG := fun v σ H Q => ∃ a xs, v = .ref a ∧ SqL K H a xs ∧ n ≤ xs.length + 1 ∧ xs.length ≤ 1000000 ∧
  ∀ D, H D = none → t (xs.take i ++ V.ref D :: (xs.drop i).drop (xs.length + 1 - n)) σ (upd H D (.lst ((xs.drop i).take (xs.length + 1 - n)))) Q
theorem Vals.toDrop {xs : List V} {us : List Value} (r : Vals xs us) (n : Nat) : Vals (xs.drop n) (us.drop n) := Vals.drop n r
theorem pg_star {es : List Expr} {k : Nat} {t : TGs} {n i : Nat} (hc : X.calm = true) (h : PGs X es t)
    (hn : (assignEach es X.env).length = n := by rfl) (hst : (assignEach es X.env).findIdx? (·.1) = some i := by rfl) (hi : i < n := by decide) : PG X (.Tuple es k pos) (gStar X.K n i t) := by
  refine ⟨fun pins s σ H v u Q I r hw => ?_⟩
  obtain ⟨a, xs, e1, hq, hl, hz, hw⟩ := hw
  subst e1
  cases r
  obtain ⟨its, rv, pl, hz2⟩ := I.list hq
  have ll := rv.length
  have hla : s.heap.IsList a its.toArray := pl.isList
  have hlt : a ≠ s.heap.objs.size := by obtain ⟨o, ho, _⟩ := hla; exact Nat.ne_of_lt (Heap.lt_size ho)
  rw [PyProof.Rows.assign_Tuple]
  refine wpAny_bind (wpAny_standAt ?_)
  unfold unpack
  rw [hn, hst]
  refine wpAny_bind (wpAny_holding ?_)
  unfold unpackItems
  refine wpAny_bind ?_
  unfold notIterableAtAll
  refine wpAny_bind (wpAny_specialOf hla.typeIs slot_list_iter.lookup (wpAny_pure ?_))
  simp only [Bool.false_eq_true, if_false]
  refine wpAny_bind (wpAny_holding (wpAny_pyIter_list hla ?_))
  have hsz : its.toArray.size = its.length := by simp
  refine wpAny_bind (wpAny_holding (PySem.W.kun_draw hlt i 0 _ _ ⟨_, Heap.get?_push_size _ rfl, rfl, rfl⟩ (hla.push _) (by omega) fun h1 hit hs1 => ?_))
  have hl1 : h1.IsList a its.toArray := (hla.push _).extBut hs1.extBut hlt
  rw [Nat.zero_add] at hit
  obtain ⟨oi, hoi, _⟩ := id hit
  obtain ⟨ol, hol, _⟩ := id hl1
  have e0 : its.toArray.toList.drop 0 = its := by simp
  rw [e0]
  have hfl : (its.take i).length = i := by rw [List.length_take]; omega
  rw [if_neg (by rw [hfl]; omega)]
  refine wpAny_bind (wpAny_holding (PySem.W.kun_collect (s := { s with heap := h1 }) (T := "list_iterator") (.inr (.inr (.inl rfl))) (Walks.list (A := X.A.in1) (I.ok.hd hc) s.heap.objs.size a hlt its.toArray) (fun j u st => st.1.typeIs) (k := i) (by omega) ⟨hit, hl1⟩ (Heap.lt_size hoi) (Heap.lt_size hol) (fun h2 tk hk => ?_) (by rw [sizeLine_eq]; omega)))
  have e1 : its.toArray.toList.drop i = its.drop i := by simp
  rw [e1]
  have hrl : (its.drop i).length = its.length - i := List.length_drop
  rw [if_neg (by rw [hrl]; omega)]
  have hmid : (its.drop i).length - (n - 1 - i) = its.length + 1 - n := by rw [hrl]; omega
  rw [hmid]
  refine wpAny_bind (wpAny_newObj_type ?_ (by show (List.toArray _).size ≤ sizeLine; rw [List.size_toArray, List.length_take, hrl, sizeLine_eq]; omega))
  refine wpAny_pure ?_
  have kp : ∀ b o, s.heap.get? b = some o → h2.get? b = some o := fun b o e => hk b o (Nat.ne_of_lt (Heap.lt_size e)) (hs1.extBut b o (Nat.ne_of_lt (Heap.lt_size e)) (Heap.get?_push_of_some _ e))
  have I1 : Inv X pins σ H { s with heap := h2, toks := tk } := I.kept (t' := tk) kp
  have rm : Vals ((xs.drop i).take (xs.length + 1 - n)) ((its.drop i).take (its.length + 1 - n)) := by
    rw [← ll]
    exact Vals.take _ (Vals.drop _ rv)
  have I2 := I1.lnew (t' := tk) rm (by rw [List.length_take, List.length_drop, sizeLine_eq]; omega)
  refine h.run pins _ σ _ _ _ Q I2 ?_ (hw _ I1.fresh)
  have rl : Vals ((xs.drop i).drop (xs.length + 1 - n)) ((its.drop i).drop (its.length + 1 - n)) := by
    rw [← ll]
    exact Vals.drop _ (Vals.drop _ rv)
  have : its.take i ++ [Value.ref h2.objs.size] ++ (its.drop i).drop (its.length + 1 - n) = its.take i ++ Value.ref h2.objs.size :: (its.drop i).drop (its.length + 1 - n) := by simp
  rw [this]
  exact (Vals.take i rv).append (.cons rfl rl)
theorem pgs_starred {e : Expr} {es : List Expr} {t : TG} {u : TGs} {p : Pos} (h1 : PG X e t) (h2 : PGs X es u)
    (hs : (assignEach (.Starred e p :: es) X.env).map (·.2) = assign e X.env :: (assignEach es X.env).map (·.2) := by rfl) : PGs X (.Starred e p :: es) (gCons t u) := by
  refine ⟨fun pins s σ H vs us Q I r h => ?_⟩
  obtain ⟨v, vr, e1, h⟩ := h
  subst e1
  cases r with
  | cons r rr =>
    rw [hs]
    refine assignInOrder_cons (thn (h1.run pins s σ H _ _ _ I r h) fun _ s1 ⟨σ1, H1, I1, q1⟩ => ?_)
    exact h2.run pins s1 σ1 H1 _ _ Q I1 rr q1
/-! ### a target that is a field -/
def gFld (K : PySem.W.Frag) (to : TE) (f : Str) : TG := fun v σ H Q => to σ H fun x H2 => ∃ a C dx fs, x = .ref a ∧ H2 a = some (.ins C dx fs) ∧ Cls K C ∧ NoAttr K C f ∧ fs.length < 1000 ∧ Q σ (upd H2 a (.ins C dx (putF f v fs)))
theorem pg_fld {o : Expr} {to : TE} {f : Str} (ho : PE X o to)
    (ha : ∀ v, assign (.Attribute o f pos) X.env v = (do
      let ov ← holding [v] (eval o X.env)
      standAt pos.atName
      holding [v, ov] (setAttr ov f v)
      release [v, ov] []) := by intro _; rfl) : PG X (.Attribute o f pos) (gFld X.K to f) := by
  refine ⟨fun pins s σ H v u Q I r h => ?_⟩
  rw [ha]
  refine wpAny_bind (wpAny_holding (thn (ho.run pins s σ H _ I h) fun ov s1 ⟨x, H1, I1, r1, a, C, dx, fs, e, hp, c, n, l, q1⟩ => ?_))
  subst e
  cases r1
  refine wpAny_bind (wpAny_standAt (wpAny_bind (wpAny_holding (setattr_ok I1 hp c n l r fun s3 I3 => ?_))))
  exact wpAny_release ⟨σ, _, I3, q1⟩
end
/-! ### targets that may change what is owned -/
def WX (c : Cfg) (g : TG) (r : Tg) (τ : Lc) (N : Lc → Prop) : Prop := ∀ (σ : L2.St) (G H : Hp) (F : Nat → Addr → Prop) (v : V), Ok c τ σ G H F → Rs c σ c.H0 G H F r v → ∀ Q : L2.St → Hp → Prop, (∀ τ' σ' G' H' F', N τ' → Ok c τ' σ' G' H' F' → Same G G' → Q σ' H') → g v σ H Q
section
variable {c : Cfg} {τ : Lc} {Φ : Tg → Lc → Bool → Prop} {te ta tb : TE} {t : TA} {K : PySem.W.Frag} {D : AE} {i : Nat} {g g1 g2 g3 : TG} {N : Lc → Prop} {r : Tg}
theorem wx_of (h : WG c g r τ N) : WX c g r τ N := fun σ G H F v o s Q q => h σ G H F v o s Q fun τ' σ' G' H' F' n o' f _ => q τ' σ' G' H' F' n o' f.g
theorem ws_asgX (h : W c te τ fun r τ1 _ => WX c g r τ1 D.nx) : WS c (tAsg te g) τ D := fun σ G H F o De l =>
  h σ G H F o _ fun v G1 H1 F1 r τ1 b1 p1 g1 s1 => p1 σ G1 H1 F1 v g1.ok (Rs.from s1 o.fr.t) De.nx fun τ' σ' G' H' F' n o' s => l.nx τ' σ' G' H' F' n o' (g1.fr.g.trans s)
theorem wx_fldI {f : Str} {d : DD} {l : Bool} {C : Addr} {ns : List Str} {xs : List DD} (hi : τ[i]? = some (some (.res l (ownI C ns xs)))) (hc : Cls K C) (hn : NoAttr K C f) (hz : ns.length < 900) (k : N (τ.set i (some (.res l (ownI C (putN f ns) (putX f d ns xs)))))) :
    WX c (gFld K (tVar i) f) (.dat d) τ N := fun σ G H F v o s Q q => by
  obtain ⟨p, dx, vs, hu, h2, h5, h3, gm⟩ := o.mutI (ms := putN f ns) (ys := putX f d ns xs) hi
  obtain ⟨e1, e2⟩ := put_zip (f := f) (y := v) h5
  have g2 := gm (putV f v ns vs) e2 (putX_rep s h5 h3)
  refine ⟨_, hu, p, C, dx, _, rfl, h2, hc, hn, ?_, ?_⟩
  · rw [List.length_zip, ← h5, Nat.min_self]
    exact Nat.lt_trans hz (by decide)
  · rw [e1]
    exact q _ σ G _ F k g2.ok (Same.refl G)
theorem wx_tup2 {d e : DD} (h : WX c g1 (.dat d) τ fun τ1 => WX c g2 (.dat e) τ1 N) : WX c (gTup K 2 (gCons g1 (gCons g2 gNil))) (.dat (.tup [d, e])) τ N := fun σ G H F x o s Q q => by
  obtain ⟨a, vs, rfl, h2, y, r, rfl, h3, z, r2, rfl, h4, h5⟩ := s
  have e5 : r2 = [] := h5
  subst e5
  refine ⟨a, [y, z], rfl, .inl (rd_mono o.ex h2), rfl, y, [z], rfl, h σ G H F y o h3 _ fun τ1 σ1 G1 H1 F1 n1 o1 e1 => ?_⟩
  exact ⟨z, [], rfl, n1 σ1 G1 H1 F1 z o1 (Rep.mono e1 _ _ h4) _ fun τ2 σ2 G2 H2 F2 n2 o2 e2 => ⟨rfl, q τ2 σ2 G2 H2 F2 n2 o2 (e1.trans e2)⟩⟩
/-- *a, b = a list of data: a is one's own -/
theorem wx_star1 {ds : List DD} {d : DD} (hx : Dl τ r (.lst ds)) (hr : Pl r ∨ ∃ j, r = .ali j) (hd : ds.getLast? = some d) (hz : ds.length ≤ 100000) (h : WX c g1 (.res true (ownL ds.dropLast)) τ fun τ1 => WX c g2 (.dat d) τ1 N) :
    WX c (gStar K 2 0 (gCons g1 (gCons g2 gNil))) r τ N := fun σ G H F x o s Q q => by
  obtain ⟨p, vs, rfl, h2, h3⟩ := hx.lst o s
  have hl := h3.length
  have hne : ds ≠ [] := by
    intro e
    rw [e] at hd
    cases hd
  have hpos : 0 < ds.length := List.length_pos_iff.mpr hne
  have elast : ds[ds.length - 1]? = some d := by rw [← List.getLast?_eq_getElem?]; exact hd
  obtain ⟨v, h4, h5⟩ := h3.get elast
  have ed : vs.drop (vs.length + 1 - 2) = [v] := by
    rw [hl]
    have hlt : ds.length - 1 < vs.length := by omega
    have e1 : ds.length + 1 - 2 = ds.length - 1 := by omega
    rw [e1, List.drop_eq_getElem_cons hlt]
    have e2 : vs.drop (ds.length - 1 + 1) = [] := List.drop_eq_nil_of_le (by omega)
    rw [e2]
    rw [List.getElem?_eq_getElem hlt] at h4
    rw [Option.some.inj h4]
  refine ⟨p, vs, rfl, SqL.of h2, by omega, by omega, fun D hD => ?_⟩
  rw [List.take_zero, List.nil_append, List.drop_zero, ed]
  have et : vs.take (vs.length + 1 - 2) = vs.dropLast := by rw [List.dropLast_eq_take]; congr 1
  rw [et]
  have f := Fr.new (G := G) (o := .lst vs.dropLast) hD
  have o' := o.grow f (same_new o.ex hD) (o.tu.new fun z => z)
  have gD : G D = none := by
    cases z : G D with
    | none => rfl
    | some w => have := o.ex _ _ z; rw [hD] at this; cases this
  have h0D : c.H0 D = none := by
    cases z : c.H0 D with
    | none => rfl
    | some w => exact absurd hD (o.fr.t D (ne_none z))
  have s1 : Rs c σ c.H0 G (upd H D (.lst vs.dropLast)) F (.res true (ownL ds.dropLast)) (.ref D) := ⟨rfl, _, ⟨D, _, rfl, upd_same, h3.dropLast, rfl⟩, fun a ha => by
    subst ha
    exact ⟨h0D, (by rw [upd_same]; exact (fun z => by cases z)), gD, fun j z => (o.own j a z).1 hD⟩⟩
  refine ⟨.ref D, [v], rfl, h σ G _ F _ o' s1 _ fun τ1 σ1 G1 H1 F1 n1 o1 e1 => ?_⟩
  exact ⟨v, [], rfl, n1 σ1 G1 H1 F1 v o1 (Rep.mono e1 _ _ h5) _ fun τ2 σ2 G2 H2 F2 n2 o2 e2 => ⟨rfl, q τ2 σ2 G2 H2 F2 n2 o2 (e1.trans e2)⟩⟩
/-! ### texts joined -/
def tJoined (ts : List TE) : TE := fun σ H Q => tJs ts Str.empty σ H fun out H1 => Q (.str out) H1
/-- the parts of an f-string -/
def WJ (c : Cfg) (ts : List TE) (acc : Str) (τ : Lc) (Φ : Str → Lc → Bool → Prop) : Prop := ∀ (σ : L2.St) (G H : Hp) (F : Nat → Addr → Prop), Ok c τ σ G H F → ∀ Q : Str → Hp → Prop,
  (∀ v G' H' F' τ' b, Φ v τ' b → Go b c τ' σ G H F G' H' F' → Q v H') → tJs ts acc σ H Q
theorem wj_nil {acc : Str} {Φ : Str → Lc → Bool → Prop} (k : Φ acc τ true) : WJ c [] acc τ Φ := fun σ G H F o Q q => q acc G H F τ true k (Go.refl o)
theorem wj_cons {acc : Str} {Φ : Str → Lc → Bool → Prop} {ts : List TE} (h : W c te τ fun r τ1 b1 => ∃ y, r = .dat (.str y) ∧ (acc ++ y).length ≤ 100000 ∧ WJ c ts (acc ++ y) τ1 fun v τ2 b2 => Φ v τ2 (b1 && b2)) : WJ c (te :: ts) acc τ Φ := fun σ G H F o Q q =>
  h σ G H F o _ fun x G1 H1 F1 r τ1 b1 p1 g1 s1 => by
    obtain ⟨y, rfl, hz, k⟩ := p1
    exact ⟨y, s1, sz_le hz, k σ G1 H1 F1 g1.ok _ fun v G2 H2 F2 τ2 b2 p2 g2 => q v G2 H2 F2 τ2 _ p2 (g1.trans g2)⟩
theorem w_joined {ts : List TE} (h : WJ c ts Str.empty τ fun v τ1 b1 => Φ (.dat (.str v)) τ1 b1) : W c (tJoined ts) τ Φ := fun σ G H F o Q q =>
  h σ G H F o _ fun v G1 H1 F1 τ1 b1 p1 g1 => q _ G1 H1 F1 _ τ1 b1 p1 g1 rfl
theorem w_fmtI (h : W c te τ fun r τ1 b1 => ∃ (i : Int), r = .dat (.int i) ∧ i.natAbs.log2 < 1920 ∧ Φ (.dat (.str (toString i))) τ1 b1) : W c (tFmt te) τ Φ := fun σ G H F o Q q =>
  h σ G H F o _ fun x G1 H1 F1 r τ1 b1 p1 g1 s1 => by
    obtain ⟨i, rfl, hz, k⟩ := p1
    exact .inr ⟨i, s1, hz, q _ G1 H1 F1 _ τ1 b1 k g1 rfl⟩
theorem w_fmtS (h : W c te τ fun r τ1 b1 => ∃ y : Str, r = .dat (.str y) ∧ y.length ≤ 100000 ∧ Φ (.dat (.str y)) τ1 b1) : W c (tFmt te) τ Φ := fun σ G H F o Q q =>
  h σ G H F o _ fun x G1 H1 F1 r τ1 b1 p1 g1 s1 => by
    obtain ⟨i, rfl, hz, k⟩ := p1
    exact .inl ⟨i, s1, sz_le hz, q _ G1 H1 F1 _ τ1 b1 k g1 rfl⟩
/-- sep.join(list of texts) -/
theorem w_join (h : W c ta τ fun x τ1 b1 => ∃ a : Str, x = .dat (.str a) ∧ WA c t τ1 fun rs τ2 b2 => ∃ (r : Tg) (ys : List Str), rs = [r] ∧ Dl τ2 r (.lst (ys.map .str)) ∧ (ys.map (·.length)).sum + ys.length * a.length ≤ 1000000 ∧ Φ (.dat (.str (Txt.join a ys))) τ2 (b1 && b2)) :
    W c (tBM K "str" (rJoin K) ta t) τ Φ := fun σ G H F o Q q =>
  h σ G H F o _ fun x G1 H1 F1 rx τ1 b1 p1 g1 s1 => by
    obtain ⟨a, rfl, p2⟩ := p1
    have ex : x = V.str a := s1
    subst ex
    refine ⟨?_, p2 σ G1 H1 F1 g1.ok _ fun vs G2 H2 F2 rs τ2 b2 p3 g2 s2 => ?_⟩
    · exact rfl
    · obtain ⟨r, ys, rfl, hd, hz, k⟩ := p3
      cases s2 with
      | cons s2 sn =>
        cases sn
        obtain ⟨p, ws, rfl, h4, h5⟩ := hd.lst g2.ok s2
        refine ⟨a, p, ys, rfl, rfl, .inl (SqL.of ?_), by omega, q _ G2 H2 F2 _ τ2 _ k (g1.trans g2) rfl⟩
        rw [h4, h5.strs]
end
end Z
set_option Elab.async false
set_option linter.all false
set_option maxRecDepth 100000
set_option maxHeartbeats 2000000
/-! Z10: lists or tuples walked; comprehensions that change nothing; slots frozen, weakened; own classes; what is read off any seen thing. -/
namespace Z
open PySem PySem.Spec PyProof.Rows L2
/-! ### a list or a tuple is walked -/
def iSeq (K : PySem.W.Frag) (tl : TE) : TI := fun σ H R => tl σ H fun x H1 => ∃ a, x = .ref a ∧ (((∃ xs, SqL K H1 a xs) ∧ R (Itl K a) H1) ∨ ((∃ xs, SqT K H1 a xs) ∧ R (Itt K a) H1))
theorem pi_seq {X : Cx} {tg : Expr} {l : Expr} {tl : TE} (hl : PE X l tl) : PI X tg l (iSeq X.K tl) := by
  refine ⟨fun pins s σ H R I h => ?_⟩
  refine thn (hl.run pins s σ H _ I h) fun v s1 ⟨x, H1, I1, r1, q1⟩ => ?_
  obtain ⟨a, e, q⟩ := q1
  subst e
  cases r1
  have fin : ∀ b ∈ [s1.heap.objs.size], FpOk X pins H1 b := fun b hb => by
    have e : b = s1.heap.objs.size := by simpa using hb
    subst e
    exact I1.fpOk (Nat.le_refl _) (I1.hok.fresh (Nat.le_refl _))
  rcases q with ⟨⟨xs, hq⟩, q⟩ | ⟨⟨xs, hq⟩, q⟩
  · obtain ⟨its, rv, p, hz⟩ := I1.list hq
    refine wpAny_pyIter_list p.isList ?_
    exact ⟨s1.heap.objs.size, [s1.heap.objs.size], _, _, H1, rfl, I1.kept (t' := s1.toks) fun b o e => Heap.get?_push_of_some _ e, turn_list a _, ⟨_, Heap.get?_push_size _ rfl, rfl, rfl⟩, fin, q⟩
  · obtain ⟨its, rv, p, hz⟩ := I1.tuple hq
    refine wpAny_pyIter_tuple (show s1.heap.IsTuple a its.toArray from p) ?_
    exact ⟨s1.heap.objs.size, [s1.heap.objs.size], _, _, H1, rfl, I1.kept (t' := s1.toks) fun b o e => Heap.get?_push_of_some _ e, turn_tuple a _, ⟨_, Heap.get?_push_size _ rfl, rfl, rfl⟩, fin, q⟩
section
variable {c : Cfg} {τ : Lc} {Φ : Tg → Lc → Bool → Prop} {te ta tb : TE} {t : TA} {K : PySem.W.Frag} {D : AE} {i : Nat} {g g1 g2 g3 : TG} {N : Lc → Prop} {r : Tg} {ΦI : List Itm → Lc → Bool → Prop} {ts : TS}
/-! ### what a list holds, by its items -/
theorem wk_listD {a : Addr} {vs : List V} {ds : List DD} {G1 : Hp} (h2 : G1 a = some (.lst vs)) (h3 : RepL G1 ds vs) : Wk c (Itl K a) (itsD ds) G1 := ⟨fun i G H hi e1 e2 _ => by
    rw [itsD_len] at hi
    exact ⟨vs, vs[i]'(by rw [h3.length]; exact hi), SqL.of (e2 _ _ (e1 _ _ h2)), by simp⟩, fun G H e1 e2 _ => ⟨vs, SqL.of (e2 _ _ (e1 _ _ h2)), by rw [itsD_len, h3.length]; exact Nat.le_refl _⟩, fun i t G H y H' ht e1 e2 _ yy => by
    obtain ⟨d, hd, rfl⟩ := itsD_get ht
    obtain ⟨w, h4, h5⟩ := h3.get hd
    have e := yy.2 vs (SqL.of (e2 _ _ (e1 _ _ h2)))
    rw [h4] at e
    cases e
    exact ⟨yy.1, Rep.mono e1 _ _ h5⟩⟩
theorem wk_tupD {a : Addr} {vs : List V} {ds : List DD} {G1 : Hp} (h2 : Rd G1 a (.tup vs)) (h3 : RepL G1 ds vs) : Wk c (Itt K a) (itsD ds) G1 := ⟨fun i G H hi e1 e2 _ => by
    rw [itsD_len] at hi
    exact ⟨vs, vs[i]'(by rw [h3.length]; exact hi), .inl (rd_mono (e1.trans e2) h2), by simp⟩, fun G H e1 e2 _ => ⟨vs, .inl (rd_mono (e1.trans e2) h2), by rw [itsD_len, h3.length]; exact Nat.le_refl _⟩, fun i t G H y H' ht e1 e2 _ yy => by
    obtain ⟨d, hd, rfl⟩ := itsD_get ht
    obtain ⟨w, h4, h5⟩ := h3.get hd
    have e := yy.2 vs (.inl (rd_mono (e1.trans e2) h2))
    rw [h4] at e
    cases e
    exact ⟨yy.1, Rep.mono e1 _ _ h5⟩⟩
theorem wk_listV {a : Addr} {vs : List V} {ds : List DD} {G1 Gv : Hp} (hv : ∀ a o, Gv a = some o → c.H0 a = some o ∧ ¬ c.X a) (h2 : Gv a = some (.lst vs)) (h3 : RepL Gv ds vs) : Wk c (Itl K a) (itsV ds) G1 := by
  have at_ : ∀ {G H : Hp}, Fr c.X c.G0 c.H0 G H → H a = some (.lst vs) := fun f => f.h a _ (hv a _ h2).1 (hv a _ h2).2
  refine ⟨fun i G H hi e1 e2 f => ?_, fun G H e1 e2 f => ?_, fun i t G H y H' ht e1 e2 f yy => ?_⟩
  · rw [itsV_len] at hi
    exact ⟨vs, vs[i]'(by rw [h3.length]; exact hi), SqL.of (at_ f), by simp⟩
  · exact ⟨vs, SqL.of (at_ f), by rw [itsV_len, h3.length]; exact Nat.le_refl _⟩
  · obtain ⟨d, hd, rfl⟩ := itsV_get ht
    obtain ⟨w, h4, h5⟩ := h3.get hd
    have e := yy.2 vs (SqL.of (at_ f))
    rw [h4] at e
    cases e
    exact ⟨yy.1, Gv, hv, h5⟩
theorem wk_tupV {a : Addr} {vs : List V} {ds : List DD} {G1 Gv : Hp} (hv : ∀ a o, Gv a = some o → c.H0 a = some o ∧ ¬ c.X a) (h2 : Rd Gv a (.tup vs)) (h3 : RepL Gv ds vs) : Wk c (Itt K a) (itsV ds) G1 := by
  have at_ : ∀ {G H : Hp}, Fr c.X c.G0 c.H0 G H → Rd H a (.tup vs) := fun f => rd_mono (fun b o z => f.h b o (hv b o z).1 (hv b o z).2) h2
  refine ⟨fun i G H hi e1 e2 f => ?_, fun G H e1 e2 f => ?_, fun i t G H y H' ht e1 e2 f yy => ?_⟩
  · rw [itsV_len] at hi
    exact ⟨vs, vs[i]'(by rw [h3.length]; exact hi), .inl (at_ f), by simp⟩
  · exact ⟨vs, .inl (at_ f), by rw [itsV_len, h3.length]; exact Nat.le_refl _⟩
  · obtain ⟨d, hd, rfl⟩ := itsV_get ht
    obtain ⟨w, h4, h5⟩ := h3.get hd
    have e := yy.2 vs (.inl (at_ f))
    rw [h4] at e
    cases e
    exact ⟨yy.1, Gv, hv, h5⟩
theorem wi_seq (h : W c ta τ fun r τ1 b1 => ∃ ds, ((r = .dat (.lst ds) ∨ r = .dat (.tup ds) ∨ r = .dat (.tpl ds)) ∧ ΦI (itsD ds) τ1 b1) ∨ ((r = .vol (.lst ds) ∨ r = .vol (.tup ds) ∨ r = .vol (.tpl ds)) ∧ ΦI (itsV ds) τ1 b1)) : WI c (iSeq K ta) τ ΦI := fun σ G H F o R q =>
  h σ G H F o _ fun x G1 H1 F1 rx τ1 b1 p1 g1 s1 => by
    have up : ∀ {Gv : Hp}, (∀ a o, Gv a = some o → c.H0 a = some o ∧ ¬ c.X a) → Same Gv H1 := fun hv b o z => g1.ok.fr.h b o (hv b o z).1 (hv b o z).2
    obtain ⟨ds, ⟨rfl | rfl | rfl, k⟩ | ⟨rfl | rfl | rfl, k⟩⟩ := p1
    · obtain ⟨a, vs, rfl, h2, h3⟩ := s1
      exact ⟨a, rfl, .inl ⟨⟨vs, SqL.of (g1.ok.ex _ _ h2)⟩, q _ _ G1 H1 F1 τ1 b1 k g1 (wk_listD h2 h3)⟩⟩
    · obtain ⟨a, vs, rfl, h2, h3⟩ := s1
      exact ⟨a, rfl, .inr ⟨⟨vs, .inl (rd_mono g1.ok.ex h2)⟩, q _ _ G1 H1 F1 τ1 b1 k g1 (wk_tupD h2 h3)⟩⟩
    · obtain ⟨a, vs, rfl, h2, h3⟩ := tpl_tup s1
      exact ⟨a, rfl, .inr ⟨⟨vs, .inl (rd_mono g1.ok.ex h2)⟩, q _ _ G1 H1 F1 τ1 b1 k g1 (wk_tupD h2 h3)⟩⟩
    · obtain ⟨Gv, hv, a, vs, rfl, h2, h3⟩ := s1
      exact ⟨a, rfl, .inl ⟨⟨vs, SqL.of (up hv _ _ h2)⟩, q _ _ G1 H1 F1 τ1 b1 k g1 (wk_listV hv h2 h3)⟩⟩
    · obtain ⟨Gv, hv, a, vs, rfl, h2, h3⟩ := s1
      exact ⟨a, rfl, .inr ⟨⟨vs, .inl (rd_mono (up hv) h2)⟩, q _ _ G1 H1 F1 τ1 b1 k g1 (wk_tupV hv h2 h3)⟩⟩
    · obtain ⟨Gv, hv, z⟩ := s1
      obtain ⟨a, vs, rfl, h2, h3⟩ := tpl_tup z
      exact ⟨a, rfl, .inr ⟨⟨vs, .inl (rd_mono (up hv) h2)⟩, q _ _ G1 H1 F1 τ1 b1 k g1 (wk_tupV hv h2 h3)⟩⟩
/-- a seen number is a number -/
theorem wgi_volS {d : DD} (hs : scal d = true) (h : WG c g (.dat d) τ N) : WGI c g (.one (.vol d)) τ N := fun σ G H F x H' o y Q q => by
  obtain ⟨rfl, Gv, hv, s⟩ := y
  exact h σ G H' F x o (show Rep G d x from scal_any hs s) Q fun τ' σ' G' H2 F' n o' f p => q τ' σ' G' H2 F' n o' f (p .dat)
/-! ### slots frozen, weakened -/
/-- the state with one slot's own list frozen -/
theorem Ok.frz {σ : L2.St} {G H : Hp} {F : Nat → Addr → Prop} {ds : List DD} (o : Ok c τ σ G H F) (hi : τ[i]? = some (some (.res true (ownL ds)))) :
    ∃ G' F', Go false c (τ.set i (some (.dat (.lst ds)))) σ G H F G' H F' := by
  obtain ⟨u, hu, p, vs, rfl, h2, h3, h4⟩ := o.rs i _ _ hi
  have fp : F i p := by rw [h4]
  obtain ⟨m1, m3, l', R', m4, m5⟩ := o.own i p fp
  rw [hi] at m4
  cases m4
  have h0 : c.H0 p = none := m5.elim id fun z => by cases z.1
  have hil : i < τ.length := (List.getElem?_eq_some_iff.mp hi).1
  have gt : ∀ j : Nat, j ≠ i → (τ.set i (some (.dat (.lst ds))))[j]? = τ[j]? := fun j h => List.getElem?_set_ne (fun z => h z.symm)
  have gti : (τ.set i (some (.dat (.lst ds))))[i]? = some (some (.dat (.lst ds))) := List.getElem?_set_self hil
  have eg : Same G (upd G p (.lst vs)) := fun a u z => by
    rw [upd_ne (ne_of_none z m3)]
    exact z
  have nn : ∀ a, G a = none → a ≠ p → upd G p (.lst vs) a = none := fun a z e => by
    rw [upd_ne e]
    exact z
  refine ⟨upd G p (.lst vs), fun j a => F j a ∧ j ≠ i, ?_, ⟨eg, fun a u z _ => z, fun a z w nx => nn a z fun e => nx (by subst e; exact ⟨rfl, i, fp⟩), fun a z => z⟩, fun j a z => .inl z.1⟩
  exact {
    ex := fun a u z => by
      by_cases e : a = p
      · subst e
        rw [upd_same] at z
        rw [← z]
        exact h2
      · rw [upd_ne e] at z
        exact o.ex a u z
    tu := fun a u t z => eg a _ (o.tu a u t z)
    fr := ⟨o.fr.g.trans eg, o.fr.h, fun a z w nx => nn a (o.fr.n a z w nx) (fun e => by subst e; exact w h0), o.fr.t⟩
    len := by rw [List.length_set]; exact o.len
    sl := fun j t h => by
      by_cases e : j = i
      · subst e
        rw [gti] at h
        cases h
        exact ⟨_, hu, p, vs, rfl, upd_same, h3.mono eg _ _⟩
      · rw [gt j e] at h
        obtain ⟨v, z1, z2⟩ := o.sl j t h
        refine ⟨v, z1, ?_⟩
        cases t with
        | dat d => exact Rep.mono eg d v z2
        | vol d => exact z2
        | tmp d => exact z2
        | res l R => exact z2
        | ali i => exact z2
    rs := fun j l R h => by
      by_cases e : j = i
      · subst e
        rw [gti] at h
        cases h
      · rw [gt j e] at h
        obtain ⟨v, z1, z2⟩ := o.rs j l R h
        refine ⟨v, z1, ?_⟩
        have ef : (fun a => F j a ∧ j ≠ i) = F j := by
          funext a
          exact propext ⟨fun z => z.1, fun z => ⟨z, e⟩⟩
        rw [ef]
        exact R.mono v _ _ _ _ _ z2 eg fun _ _ => rfl
    own := fun j a z => by
      obtain ⟨y1, y2, l, R, y3, y4⟩ := o.own j a z.1
      exact ⟨y1, nn a y2 (fun e => by subst e; exact o.dj j i a z.2 z.1 fp), l, R, by rw [gt j z.2]; exact y3, y4⟩
    dj := fun j k a hjk z1 z2 => o.dj j k a hjk z1.1 z2.1
    pn := fun q hq => by
      obtain ⟨k1, R, k2⟩ := o.pn q hq
      have e : q.1 ≠ i := fun e => by rw [e, hi] at k2; cases k2
      exact ⟨k1, R, by rw [gt _ e]; exact k2⟩ }
theorem ws_frz (i : Nat) {ds : List DD} (hi : τ[i]? = some (some (.res true (ownL ds)))) (h : WS c ts (τ.set i (some (.dat (.lst ds)))) D) : WS c ts τ D := fun σ G H F o De l => by
  obtain ⟨G', F', g⟩ := o.frz hi
  exact h σ G' H F' g.ok De (l.from g.fr.g)
theorem w_frzS (i : Nat) {ds : List DD} (hi : τ[i]? = some (some (.res true (ownL ds)))) (h : W c te (τ.set i (some (.dat (.lst ds)))) fun r τ' _ => Φ r τ' false) : W c te τ Φ := fun σ G H F o Q q => by
  obtain ⟨G', F', g⟩ := o.frz hi
  refine h σ G' H F' g.ok Q fun v G2 H2 F2 r τ' b k g2 s => ?_
  have gg := g.trans g2
  rw [Bool.false_and] at gg
  exact q v G2 H2 F2 r τ' false k gg s
/-- a slot's resource as another description of the same thing -/
theorem Ok.chg {σ : L2.St} {G H : Hp} {F : Nat → Addr → Prop} {l : Bool} {R R' : Rsc} (o : Ok c τ σ G H F) (hi : τ[i]? = some (some (.res l R))) (hR : ∀ v G H A, R.φ v G H A → R'.φ v G H A) : Ok c (τ.set i (some (.res l R'))) σ G H F := by
  have hil : i < τ.length := (List.getElem?_eq_some_iff.mp hi).1
  have gt : ∀ j : Nat, j ≠ i → (τ.set i (some (.res l R')))[j]? = τ[j]? := fun j h => List.getElem?_set_ne (fun z => h z.symm)
  have gti : (τ.set i (some (.res l R')))[i]? = some (some (.res l R')) := List.getElem?_set_self hil
  exact {
    ex := o.ex
    tu := o.tu
    fr := o.fr
    len := by rw [List.length_set]; exact o.len
    sl := fun j t h => by
      by_cases e : j = i
      · subst e
        rw [gti] at h
        cases h
        obtain ⟨v, z1, _⟩ := o.sl j _ hi
        exact ⟨v, z1, True.intro⟩
      · rw [gt j e] at h
        exact o.sl j t h
    rs := fun j l2 R2 h => by
      by_cases e : j = i
      · subst e
        rw [gti] at h
        cases h
        obtain ⟨v, z1, z2⟩ := o.rs j _ _ hi
        exact ⟨v, z1, hR _ _ _ _ z2⟩
      · rw [gt j e] at h
        exact o.rs j l2 R2 h
    own := fun j a z => by
      obtain ⟨y1, y2, l2, R2, y3, y4⟩ := o.own j a z
      refine ⟨y1, y2, ?_⟩
      by_cases e : j = i
      · subst e
        rw [hi] at y3
        cases y3
        exact ⟨l, _, gti, y4⟩
      · exact ⟨l2, R2, by rw [gt j e]; exact y3, y4⟩
    dj := o.dj
    pn := fun q hq => by
      obtain ⟨k1, R2, k2⟩ := o.pn q hq
      by_cases e : q.1 = i
      · rw [e, hi] at k2
        cases k2
        exact ⟨k1, R', by rw [e]; exact gti⟩
      · exact ⟨k1, R2, by rw [gt _ e]; exact k2⟩ }
theorem ws_chg (i : Nat) {l : Bool} {R R' : Rsc} (hi : τ[i]? = some (some (.res l R))) (hR : ∀ v G H A, R.φ v G H A → R'.φ v G H A) (h : WS c ts (τ.set i (some (.res l R'))) D) : WS c ts τ D := fun σ G H F o De lk => h σ G H F (o.chg hi hR) De lk
/-- one of several -/
def exR {α : Type} (R : α → Rsc) : Rsc where
  φ := fun v G H A => ∃ x, (R x).φ v G H A
  mono := fun v G H A G' H' h e k => by
    obtain ⟨x, h⟩ := h
    exact ⟨x, (R x).mono v G H A G' H' h e k⟩
theorem ws_open {α : Type} {R : α → Rsc} (i : Nat) {l : Bool} (hi : τ[i]? = some (some (.res l (exR R)))) (h : ∀ x, WS c ts (τ.set i (some (.res l (R x)))) D) : WS c ts τ D := fun σ G H F o De lk => by
  obtain ⟨v, hv, x, hx⟩ := o.rs i _ _ hi
  have hil : i < τ.length := (List.getElem?_eq_some_iff.mp hi).1
  have gt : ∀ j : Nat, j ≠ i → (τ.set i (some (.res l (R x))))[j]? = τ[j]? := fun j h => List.getElem?_set_ne (fun z => h z.symm)
  have gti : (τ.set i (some (.res l (R x))))[i]? = some (some (.res l (R x))) := List.getElem?_set_self hil
  refine h x σ G H F ?_ De lk
  exact {
    ex := o.ex
    tu := o.tu
    fr := o.fr
    len := by rw [List.length_set]; exact o.len
    sl := fun j t h => by
      by_cases e : j = i
      · subst e
        rw [gti] at h
        cases h
        exact ⟨v, hv, True.intro⟩
      · rw [gt j e] at h
        exact o.sl j t h
    rs := fun j l2 R2 h => by
      by_cases e : j = i
      · subst e
        rw [gti] at h
        cases h
        exact ⟨v, hv, hx⟩
      · rw [gt j e] at h
        exact o.rs j l2 R2 h
    own := fun j a z => by
      obtain ⟨y1, y2, l2, R2, y3, y4⟩ := o.own j a z
      refine ⟨y1, y2, ?_⟩
      by_cases e : j = i
      · subst e
        rw [hi] at y3
        cases y3
        exact ⟨l, _, gti, y4⟩
      · exact ⟨l2, R2, by rw [gt j e]; exact y3, y4⟩
    dj := o.dj
    pn := fun q hq => by
      obtain ⟨k1, R2, k2⟩ := o.pn q hq
      by_cases e : q.1 = i
      · rw [e, hi] at k2
        cases k2
        exact ⟨k1, R x, by rw [e]; exact gti⟩
      · exact ⟨k1, R2, by rw [gt _ e]; exact k2⟩ }
theorem ws_close {α : Type} {R : α → Rsc} (i : Nat) {l : Bool} {x : α} (hi : τ[i]? = some (some (.res l (R x)))) (h : WS c ts (τ.set i (some (.res l (exR R)))) D) : WS c ts τ D := ws_chg (R := R x) (R' := exR R) i hi (fun v G H A z => ⟨x, z⟩) h
/-- statements behind another state's -/
theorem ws_nextC {α : Type} {R : α → Rsc} (i : Nat) {l : Bool} {x : α} (hi : τ[i]? = some (some (.res l (R x)))) (h : D.nx (τ.set i (some (.res l (exR R))))) : WS c tNext τ D := ws_close i hi (ws_next h)
/-! ### comprehensions that leave the slots as they are -/
theorem unwipe_same {τ : Lc} : ∀ {vs : List Nat}, unwipe τ (wipeT τ vs) vs = τ := by
  intro vs
  apply List.ext_getElem?
  intro i
  by_cases m : i ∈ vs
  · by_cases hl : i < τ.length
    · rw [unwipe_in (by rw [wipeT_length]; exact hl) m, List.getElem?_eq_getElem hl]
      rfl
    · rw [List.getElem?_eq_none (by rw [unwipe_length, wipeT_length]; omega), List.getElem?_eq_none (by omega)]
  · rw [unwipe_out m, wipeT_get m]
theorem wipeT_not {τ : Lc} {vs : List Nat} : ∀ i ∈ vs, ∀ t, (wipeT τ vs)[i]? ≠ some (some t) := fun i m t h => (wipeT_some h).2 m
/-- [f x for x in .. if keep x]: f and keep by the turn -/
theorem w_lcF {wi : TI} {tt : TT} {vs : List Nat} (keep : List Itm → Nat → Bool) (f : List Itm → Nat → DD) (hg : GW g vs) (h : WI c wi τ fun its τ1 b1 => still τ1 vs ∧ its.length ≤ 100000 ∧
    (∀ k it, its[k]? = some it → WGI c g it (wipeT τ1 vs) fun τ3 => WT c tt τ3 fun kp τ4 _ => kp = keep its k ∧ if kp = true then W c te τ4 fun r τ5 _ => r = .dat (f its k) ∧ wipeT τ5 vs = wipeT τ1 vs ∧ (∀ i ∈ vs, free τ5 i) else wipeT τ4 vs = wipeT τ1 vs ∧ ∀ i ∈ vs, free τ4 i) ∧
    Φ (.res true (ownL (((List.range its.length).filter (keep its)).map (f its)))) τ1 false) : W c (tLc wi g tt te vs) τ Φ := by
  refine w_lcM hg fun σ G H F o R q => h σ G H F o R fun J its G' H' F' τ' b p go wk => q J its G' H' F' τ' b ?_ go wk
  obtain ⟨h1, h2, h3, h4⟩ := p
  refine ⟨h1, fun k acc τ2 => τ2 = wipeT τ' vs ∧ acc = ((List.range k).filter (keep its)).map (f its), ⟨rfl, rfl⟩, fun k it acc τ2 hit _ ⟨e1, e2⟩ => ?_, h2, fun acc τ2 _ ⟨e1, e2⟩ => ?_⟩
  · subst e1 e2
    have h5 := h3 k it hit
    intro σ G H F x H' o y Q q2
    refine h5 σ G H F x H' o y Q fun τ3 σ3 G3 H3 F3 n3 o3 f3 k3 => q2 τ3 σ3 G3 H3 F3 (WT.imp n3 fun kp τ4 b4 z => ?_) o3 f3 k3
    obtain ⟨e, z⟩ := z
    have er : (List.range (k + 1)).filter (keep its) = (List.range k).filter (keep its) ++ if keep its k = true then [k] else [] := by
      rw [List.range_succ, List.filter_append]
      congr 1
      by_cases w : keep its k = true
      · rw [if_pos w, List.filter_cons_of_pos w, List.filter_nil]
      · rw [if_neg w, List.filter_cons_of_neg w, List.filter_nil]
    by_cases w : kp = true
    · rw [if_pos w] at z ⊢
      refine W.imp z fun r τ5 b5 z5 => ⟨z5.2.2, _, z5.1, z5.2.1, ?_⟩
      rw [er, if_pos (by rw [← e]; exact w), List.map_append]
      rfl
    · rw [if_neg w] at z ⊢
      refine ⟨z.2, z.1, ?_⟩
      rw [er, if_neg (by rw [← e]; exact w), List.append_nil]
  · subst e1 e2
    exact ⟨wipeT_not, by rw [unwipe_same]; exact h4⟩
/-! ### stores by what is stored -/
theorem wg_dat {d : DD} (hf : free τ i) (hi : i < τ.length) (h : N (τ.set i (some (.dat d)))) : WG c (gName i) (.dat d) τ N := wg_name .dat hf hi h
theorem wg_vol {d : DD} (hf : free τ i) (hi : i < τ.length) (h : N (τ.set i (some (.vol d)))) : WG c (gName i) (.vol d) τ N := wg_name .vol hf hi h
theorem wg_res {R : Rsc} (hf : free τ i) (hi : i < τ.length) (h : N (τ.set i (some (.res true R)))) : WG c (gName i) (.res true R) τ N := wg_name .res hf hi h
/-- a state between two pieces -/
theorem ws_cut (I : Lc → Prop) {tu : TS} (h : WS c ts τ { D with nx := I }) (k : ∀ τ', I τ' → WS c tu τ' D) : WS c (tSeq ts tu) τ D := ws_seq (WS.imp h (fun τ' h => k τ' h) (fun _ _ h => h) (fun _ h => h) fun _ h => h)
/-- what the arguments of a call are, given -/
theorem wa_args {ΦA : List Tg → Lc → Bool → Prop} (h : WA c t τ ΦA) : WA c t τ ΦA := h
theorem w_close {α : Type} {R : α → Rsc} (h : W c te τ fun x τ1 b1 => ∃ y, x = .res true (R y) ∧ Φ (.res true (exR R)) τ1 b1) : W c te τ Φ := fun σ G H F o Q q =>
  h σ G H F o _ fun x G1 H1 F1 rx τ1 b1 p1 g1 s1 => by
    obtain ⟨y, rfl, k⟩ := p1
    obtain ⟨e, A, h2, h3⟩ := s1
    exact q x G1 H1 F1 _ τ1 b1 k g1 ⟨rfl, A, ⟨y, h2⟩, h3⟩
def cutG {α : Type} (xs : List α) (lo hi : Option Int) : List α := (xs.drop (HT.sIx xs.length 0 lo)).take (HT.sIx xs.length xs.length hi - HT.sIx xs.length 0 lo)
theorem cutD_map {α : Type} {f : α → DD} {xs : List α} {lo hi : Option Int} : cutD (xs.map f) lo hi = (cutG xs lo hi).map f := by
  unfold cutD cutG
  rw [List.length_map, List.map_take, List.map_drop]
/-! ### operators by kind -/
theorem w_opI0 {f : Int → Int → V} (h : W c ta τ fun x τ1 b1 => W c tb τ1 fun y τ2 b2 => stb x b2 = true ∧ ∃ d e f', Dv τ2 x d ∧ Dv τ2 y e ∧ Op2 (rI0 f) d e f' ∧ Φ (.dat f') τ2 (b1 && b2)) : W c (tOp (rI0 f) ta tb) τ Φ := w_op h
theorem w_opI {C : Int → Int → Prop} {f : Int → Int → V} (h : W c ta τ fun x τ1 b1 => W c tb τ1 fun y τ2 b2 => stb x b2 = true ∧ ∃ d e f', Dv τ2 x d ∧ Dv τ2 y e ∧ Op2 (rI C f) d e f' ∧ Φ (.dat f') τ2 (b1 && b2)) : W c (tOp (rI C f) ta tb) τ Φ := w_op h
theorem w_eqD (h : W c ta τ fun x τ1 b1 => W c tb τ1 fun y τ2 b2 => stb x b2 = true ∧ ∃ d e, Dv τ2 x d ∧ Dv τ2 y e ∧ Nice 60 d ∧ Nice 60 e ∧ Φ (.dat (.bl (deqv d e))) τ2 (b1 && b2)) : W c (tOp (rEqD K) ta tb) τ Φ := w_op (W.imp h fun x τ1 b1 p => W.imp p fun y τ2 b2 q => by
  obtain ⟨h0, d, e, h1, h2, h3, h4, h5⟩ := q
  exact ⟨h0, d, e, _, h1, h2, o2_eq h3 h4 (by decide) (by decide), h5⟩)
theorem w_neD (h : W c ta τ fun x τ1 b1 => W c tb τ1 fun y τ2 b2 => stb x b2 = true ∧ ∃ d e, Dv τ2 x d ∧ Dv τ2 y e ∧ Nice 60 d ∧ Nice 60 e ∧ Φ (.dat (.bl (!deqv d e))) τ2 (b1 && b2)) : W c (tOp (rNeD K) ta tb) τ Φ := w_op (W.imp h fun x τ1 b1 p => W.imp p fun y τ2 b2 q => by
  obtain ⟨h0, d, e, h1, h2, h3, h4, h5⟩ := q
  exact ⟨h0, d, e, _, h1, h2, o2_ne h3 h4 (by decide) (by decide), h5⟩)
/-- of numbers -/
theorem w_eqI (h : W c ta τ fun x τ1 b1 => W c tb τ1 fun y τ2 b2 => stb x b2 = true ∧ ∃ a b : Int, Dv τ2 x (.int a) ∧ Dv τ2 y (.int b) ∧ Φ (.dat (.bl (decide (a = b)))) τ2 (b1 && b2)) : W c (tOp (rEqD K) ta tb) τ Φ := w_eqD (W.imp h fun x τ1 b1 p => W.imp p fun y τ2 b2 q => by
  obtain ⟨h0, a, b, h1, h2, h5⟩ := q
  refine ⟨h0, _, _, h1, h2, nice_int, nice_int, ?_⟩
  rw [deqv_int]
  exact h5)
theorem w_neI (h : W c ta τ fun x τ1 b1 => W c tb τ1 fun y τ2 b2 => stb x b2 = true ∧ ∃ a b : Int, Dv τ2 x (.int a) ∧ Dv τ2 y (.int b) ∧ Φ (.dat (.bl (!decide (a = b)))) τ2 (b1 && b2)) : W c (tOp (rNeD K) ta tb) τ Φ := w_neD (W.imp h fun x τ1 b1 p => W.imp p fun y τ2 b2 q => by
  obtain ⟨h0, a, b, h1, h2, h5⟩ := q
  refine ⟨h0, _, _, h1, h2, nice_int, nice_int, ?_⟩
  rw [deqv_int]
  exact h5)
theorem w_inD (h : W c ta τ fun x τ1 b1 => W c tb τ1 fun y τ2 b2 => stb x b2 = true ∧ ∃ d es, Dv τ2 x d ∧ Dv τ2 y (.lst es) ∧ Nice 60 d ∧ Nice 60 (.lst es) ∧ Φ (.dat (.bl (es.any fun z => deqv z d))) τ2 (b1 && b2)) : W c (tOp (rInD K) ta tb) τ Φ := w_op (W.imp h fun x τ1 b1 p => W.imp p fun y τ2 b2 q => by
  obtain ⟨h0, d, e, h1, h2, h3, h4, h5⟩ := q
  exact ⟨h0, d, _, _, h1, h2, o2_inD h3 h4 (by decide) (by decide), h5⟩)
theorem o2_notInD {d : DD} {es : List DD} {n m : Nat} (h1 : Nice n d) (h2 : Nice m (.lst es)) (hn : n ≤ 64) (hm : m ≤ 64) : Op2 (rNotInD K) d (.lst es) (.bl (!es.any fun z => deqv z d)) := fun G H x y ex t hx hy Q q => by
  have e : ∀ es : List DD, (pyL es).any (fun z => PyData.eqv z (py d)) = es.any fun z => deqv z d := fun es => by
    induction es with
    | nil => rfl
    | cons a r ih =>
      show (PyData.eqv (py a) (py d) || (pyL r).any fun z => PyData.eqv z (py d)) = (deqv a d || r.any fun z => deqv z d)
      rw [ih]
      rfl
  refine ⟨py d, pyL es, Nice.dp n d x h1 hx, Nice.dp m _ y h2 hy, h1.shaped hn, h2.shaped hm, ?_⟩
  rw [e es]
  exact q _ G H Fr.refl ex t rfl
theorem w_notInD (h : W c ta τ fun x τ1 b1 => W c tb τ1 fun y τ2 b2 => stb x b2 = true ∧ ∃ d es, Dv τ2 x d ∧ Dv τ2 y (.lst es) ∧ Nice 60 d ∧ Nice 60 (.lst es) ∧ Φ (.dat (.bl (!es.any fun z => deqv z d))) τ2 (b1 && b2)) : W c (tOp (rNotInD K) ta tb) τ Φ := w_op (W.imp h fun x τ1 b1 p => W.imp p fun y τ2 b2 q => by
  obtain ⟨h0, d, e, h1, h2, h3, h4, h5⟩ := q
  exact ⟨h0, d, _, _, h1, h2, o2_notInD h3 h4 (by decide) (by decide), h5⟩)
/-! ### own classes -/
/-- what isinstance asks of a class of the program -/
structure KCls (K : PySem.W.Frag) (C : Addr) : Prop where
  c : Cls K C
  ic : PySem.W.findIn K (.ref C) "__class__" = some (some (.builtin "object.__class__"))
  is : PySem.W.specialIn K (.builtin "object.__class__") "__get__" = some (some (.builtin "getset_descriptor.__get__"))
  it : PySem.W.takesIn K (.builtin "object.__class__") = some true
  mo : PySem.W.mroIn K C (.type "object") = some true
  tup : PySem.W.kitOne K (.type "tuple") (.ref C) = some false
  sub : PySem.W.subIn K (.type "tuple") (.ref C) = some false
theorem tyx_obj {H : Hp} {C : Addr} {ns : List Str} {xs : List DD} {v : V} (kc : KCls K C) (h : Rep H (.obj C ns xs) v) : TyX K H v (.ref C) := by
  obtain ⟨a, dx, vs, rfl, h2, _⟩ := h
  exact .base (.ins h2 kc.c kc.ic kc.is kc.it kc.mo)
theorem kitOne_self {C : Addr} : PySem.W.kitOne K (.ref C) (.ref C) = some true := by
  unfold PySem.W.kitOne
  rw [if_pos (by simp)]
/-- isinstance(x, C) -/
theorem w_isiO {C : Addr} (kc : KCls K C) (h : W c ta τ fun x τ1 b1 => (∃ ns xs, x = .dat (.obj C ns xs) ∧ Φ (.dat (.bl true)) τ1 b1) ∨ ∃ xs, x = .dat (.tup xs) ∧ Φ (.dat (.bl false)) τ1 b1) :
    W c (tCB (rIsi K) (tCons ta (tCons (tC (.ref C)) tNil))) τ Φ := fun σ G H F o Q q =>
  h σ G H F o _ fun x G1 H1 F1 r τ1 b1 p1 g1 s1 => by
    rcases p1 with ⟨ns, xs, rfl, k⟩ | ⟨xs, rfl, k⟩
    · exact ⟨x, .ref C, .ref C, .ref C, true, rfl, .own C, tyx_obj kc (Rep.mono g1.ok.ex _ _ s1), kitOne_self, q _ G1 H1 F1 _ τ1 b1 k g1 rfl⟩
    · exact ⟨x, .ref C, .type "tuple", .ref C, false, rfl, .own C, tyx_of (d := .tup xs) rfl (Rep.mono g1.ok.ex _ _ s1), kc.tup, q _ G1 H1 F1 _ τ1 b1 k g1 rfl⟩
/-! ### weaker descriptions -/
theorem w_tupN' (h : W c ta τ fun x τ1 b1 => ∃ ds, (Dl τ1 x (.lst ds) ∨ (Dv τ1 x (.lst ds) ∧ hardL ds = true)) ∧ Φ (.dat (.tup ds)) τ1 b1) : W c (tCB (rTupN K) (tCons ta tNil)) τ Φ :=
  w_tpl (w_tupN (W.imp h fun x τ1 b1 p => by
    obtain ⟨ds, h1, h2⟩ := p
    exact ⟨ds, h1, ds, rfl, h2⟩))
/-- data as data of another description -/
theorem w_as {d e : DD} (he : ∀ G v, Rep G d v → Rep G e v) (h : W c te τ fun x τ1 b1 => x = .dat d ∧ Φ (.dat e) τ1 b1) : W c te τ Φ := fun σ G H F o Q q =>
  h σ G H F o _ fun x G1 H1 F1 rx τ1 b1 p1 g1 s1 => by
    obtain ⟨rfl, k⟩ := p1
    exact q x G1 H1 F1 _ τ1 b1 k g1 (he _ _ s1)
/-- a new list in flight, frozen where it is wanted as data -/
theorem wa_frz {ΦA : List Tg → Lc → Bool → Prop} (h : W c ta τ fun x τ1 b1 => ∃ ds, x = .res true (ownL ds) ∧ WA c t τ1 fun xs τ2 b2 => ΦA (.dat (.lst ds) :: xs) τ2 (b1 && b2)) : WA c (tCons ta t) τ ΦA :=
  wa_cons (w_frz (W.imp h fun x τ1 b1 p => by
    obtain ⟨ds, e, h2⟩ := p
    exact ⟨ds, e, WA.imp h2 fun xs τ2 b2 k => ⟨rfl, k⟩⟩))
end
end Z
set_option Elab.async false
set_option linter.all false
set_option maxRecDepth 100000
set_option maxHeartbeats 2000000
/-! Z11: two things walked at once; list(x) of what is only seen; items by a place that is a natural number. -/
namespace Z
open PySem PySem.Spec PyProof.Rows L2
/-- what may be walked: a list (true) or a tuple, by its items -/
inductive Src : Tg → Bool → List Tg → Prop
  | datL {ds : List DD} : Src (.dat (.lst ds)) true (ds.map .dat)
  | datT {ds : List DD} : Src (.dat (.tup ds)) false (ds.map .dat)
  | datP {ds : List DD} : Src (.dat (.tpl ds)) false (ds.map .dat)
  | volL {ds : List DD} : Src (.vol (.lst ds)) true (ds.map .vol)
  | volT {ds : List DD} : Src (.vol (.tup ds)) false (ds.map .vol)
  | volP {ds : List DD} : Src (.vol (.tpl ds)) false (ds.map .vol)
section
variable {c : Cfg} {τ : Lc} {Φ : Tg → Lc → Bool → Prop} {te ta tb : TE} {t : TA} {K : PySem.W.Frag} {D : AE} {i : Nat} {g g1 g2 g3 : TG} {N : Lc → Prop} {r : Tg} {ΦI : List Itm → Lc → Bool → Prop} {ts : TS}
def stands (c : Cfg) (G1 : Hp) (k : Bool) (a : Addr) (vs : List V) : Prop := ∀ G H : Hp, Same G1 G → Same G H → Fr c.X c.G0 c.H0 G H → if k = true then H a = some (.lst vs) else Rd H a (.tup vs)
theorem src_rep {G1 : Hp} {ds : List DD} {vs : List V} (h : RepL G1 ds vs) : vs.length = (ds.map Tg.dat).length ∧ ∀ (i : Nat) (t : Tg), (ds.map Tg.dat)[i]? = some t → ∃ v, vs[i]? = some v ∧ ∀ G, Same G1 G → Sl c G t v := by
  refine ⟨by rw [h.length, List.length_map], fun i t ht => ?_⟩
  rw [List.getElem?_map] at ht
  cases z : ds[i]? with
  | none => rw [z] at ht; cases ht
  | some d =>
    rw [z] at ht
    cases ht
    obtain ⟨v, h1, h2⟩ := h.get z
    exact ⟨v, h1, fun G e => Rep.mono e _ _ h2⟩
theorem src_repV {Gv : Hp} {ds : List DD} {vs : List V} (hv : ∀ a o, Gv a = some o → c.H0 a = some o ∧ ¬ c.X a) (h : RepL Gv ds vs) : vs.length = (ds.map Tg.vol).length ∧ ∀ (i : Nat) (t : Tg), (ds.map Tg.vol)[i]? = some t → ∃ v, vs[i]? = some v ∧ ∀ G : Hp, Sl c G t v := by
  refine ⟨by rw [h.length, List.length_map], fun i t ht => ?_⟩
  rw [List.getElem?_map] at ht
  cases z : ds[i]? with
  | none => rw [z] at ht; cases ht
  | some d =>
    rw [z] at ht
    cases ht
    obtain ⟨v, h1, h2⟩ := h.get z
    exact ⟨v, h1, fun G => ⟨Gv, hv, h2⟩⟩
theorem Src.at {σ : L2.St} {H0 G1 H1 : Hp} {F : Nat → Addr → Prop} {k : Bool} {ts : List Tg} {x : V} (h : Src r k ts) (s : Rs c σ H0 G1 H1 F r x) :
    ∃ a vs, x = V.ref a ∧ vs.length = ts.length ∧ stands c G1 k a vs ∧ ∀ (i : Nat) (t : Tg), ts[i]? = some t → ∃ v, vs[i]? = some v ∧ ∀ G, Same G1 G → Sl c G t v := by
  have up : ∀ {Gv : Hp}, (∀ a o, Gv a = some o → c.H0 a = some o ∧ ¬ c.X a) → ∀ {G H : Hp}, Fr c.X c.G0 c.H0 G H → Same Gv H := fun hv _ _ f b o z => f.h b o (hv b o z).1 (hv b o z).2
  cases h with
  | datL =>
    obtain ⟨a, vs, rfl, h2, h3⟩ := s
    exact ⟨a, vs, rfl, (src_rep (c := c) h3).1, fun G H e1 e2 _ => e2 _ _ (e1 _ _ h2), (src_rep h3).2⟩
  | datT =>
    obtain ⟨a, vs, rfl, h2, h3⟩ := s
    exact ⟨a, vs, rfl, (src_rep (c := c) h3).1, fun G H e1 e2 _ => rd_mono (e1.trans e2) h2, (src_rep h3).2⟩
  | datP =>
    obtain ⟨a, vs, rfl, h2, h3⟩ := tpl_tup s
    exact ⟨a, vs, rfl, (src_rep (c := c) h3).1, fun G H e1 e2 _ => rd_mono (e1.trans e2) h2, (src_rep h3).2⟩
  | volL =>
    obtain ⟨Gv, hv, a, vs, rfl, h2, h3⟩ := s
    exact ⟨a, vs, rfl, (src_repV hv h3).1, fun G H _ _ f => up hv f _ _ h2, fun i t ht => ((src_repV hv h3).2 i t ht).imp fun v z => ⟨z.1, fun G _ => z.2 G⟩⟩
  | volT =>
    obtain ⟨Gv, hv, a, vs, rfl, h2, h3⟩ := s
    exact ⟨a, vs, rfl, (src_repV hv h3).1, fun G H _ _ f => rd_mono (up hv f) h2, fun i t ht => ((src_repV hv h3).2 i t ht).imp fun v z => ⟨z.1, fun G _ => z.2 G⟩⟩
  | volP =>
    obtain ⟨Gv, hv, z⟩ := s
    obtain ⟨a, vs, rfl, h2, h3⟩ := tpl_tup z
    exact ⟨a, vs, rfl, (src_repV hv h3).1, fun G H _ _ f => rd_mono (up hv f) h2, fun i t ht => ((src_repV hv h3).2 i t ht).imp fun v z => ⟨z.1, fun G _ => z.2 G⟩⟩
theorem wi_zip (h : WA c t τ fun rs τ1 b1 => ∃ r r2 k ts us, rs = [r, r2] ∧ Src r k ts ∧ Src r2 k us ∧ ΦI (List.zipWith .two ts us) τ1 b1) : WI c (RZ.iZipA K t) τ ΦI := fun σ G H F o R q =>
  h σ G H F o _ fun xs G1 H1 F1 rs τ1 b1 p1 g1 s1 => by
    obtain ⟨r, r2, k, ts, us, rfl, h1, h2, kk⟩ := p1
    cases s1 with
    | @cons _ x _ _ sx s' =>
      cases s' with
      | @cons _ y _ _ sy s'' =>
        cases s''
        obtain ⟨a, vs, rfl, l1, t1, i1⟩ := h1.at sx
        obtain ⟨b, ws, rfl, l2, t2, i2⟩ := h2.at sy
        have n1 := t1 G1 H1 (Same.refl _) g1.ok.ex g1.ok.fr
        have n2 := t2 G1 H1 (Same.refl _) g1.ok.ex g1.ok.fr
        have ln : (List.zipWith Itm.two ts us).length = min ts.length us.length := List.length_zipWith
        have it : ∀ (i : Nat) (t : Itm), (List.zipWith Itm.two ts us)[i]? = some t → ∃ t' u', ts[i]? = some t' ∧ us[i]? = some u' ∧ t = .two t' u' := fun i t ht => by
          rw [List.getElem?_zipWith] at ht
          cases z : ts[i]? with
          | none => rw [z] at ht; cases us[i]? <;> cases ht
          | some t' =>
            cases z2 : us[i]? with
            | none => rw [z, z2] at ht; cases ht
            | some u' =>
              rw [z, z2] at ht
              exact ⟨t', u', rfl, rfl, (Option.some.inj ht).symm⟩
        cases k with
        | true =>
          have n1 : H1 a = some (.lst vs) := n1
          have n2 : H1 b = some (.lst ws) := n2
          have t1' : ∀ G H : Hp, Same G1 G → Same G H → Fr c.X c.G0 c.H0 G H → H a = some (.lst vs) := t1
          have t2' : ∀ G H : Hp, Same G1 G → Same G H → Fr c.X c.G0 c.H0 G H → H b = some (.lst ws) := t2
          refine ⟨a, b, vs, ws, rfl, .inl ⟨SqL.of n1, SqL.of n2, q _ _ G1 H1 F1 τ1 b1 kk g1 ⟨fun i G H hi e1 e2 f => ?_, fun G H e1 e2 f => ?_, fun i t G H y H' ht e1 e2 f yy => ?_⟩⟩⟩
          · rw [ln] at hi
            exact ⟨vs, ws, vs[i]'(by omega), ws[i]'(by omega), SqL.of (t1' G H e1 e2 f), SqL.of (t2' G H e1 e2 f), by simp, by simp⟩
          · refine ⟨vs, ws, SqL.of (t1' G H e1 e2 f), SqL.of (t2' G H e1 e2 f), ?_⟩
            rw [ln]
            omega
          · obtain ⟨t', u', h3, h4, rfl⟩ := it i t ht
            obtain ⟨v, h5, h6⟩ := i1 i t' h3
            obtain ⟨w, h7, h8⟩ := i2 i u' h4
            obtain ⟨T, x, z, y1, y2, y3, y4, y5⟩ := yy
            have e := y4 vs (SqL.of (t1' G H e1 e2 f))
            rw [h5] at e
            cases e
            have e := y5 ws (SqL.of (t2' G H e1 e2 f))
            rw [h7] at e
            cases e
            exact ⟨T, _, _, y1, y2, y3, h6 G e1, h8 G e1⟩
        | false =>
          have n1 : Rd H1 a (.tup vs) := n1
          have n2 : Rd H1 b (.tup ws) := n2
          have t1' : ∀ G H : Hp, Same G1 G → Same G H → Fr c.X c.G0 c.H0 G H → Rd H a (.tup vs) := t1
          have t2' : ∀ G H : Hp, Same G1 G → Same G H → Fr c.X c.G0 c.H0 G H → Rd H b (.tup ws) := t2
          refine ⟨a, b, vs, ws, rfl, .inr ⟨.inl n1, .inl n2, q _ _ G1 H1 F1 τ1 b1 kk g1 ⟨fun i G H hi e1 e2 f => ?_, fun G H e1 e2 f => ?_, fun i t G H y H' ht e1 e2 f yy => ?_⟩⟩⟩
          · rw [ln] at hi
            exact ⟨vs, ws, vs[i]'(by omega), ws[i]'(by omega), .inl (t1' G H e1 e2 f), .inl (t2' G H e1 e2 f), by simp, by simp⟩
          · refine ⟨vs, ws, .inl (t1' G H e1 e2 f), .inl (t2' G H e1 e2 f), ?_⟩
            rw [ln]
            omega
          · obtain ⟨t', u', h3, h4, rfl⟩ := it i t ht
            obtain ⟨v, h5, h6⟩ := i1 i t' h3
            obtain ⟨w, h7, h8⟩ := i2 i u' h4
            obtain ⟨T, x, z, y1, y2, y3, y4, y5⟩ := yy
            have e := y4 vs (.inl (t1' G H e1 e2 f))
            rw [h5] at e
            cases e
            have e := y5 ws (.inl (t2' G H e1 e2 f))
            rw [h7] at e
            cases e
            exact ⟨T, _, _, y1, y2, y3, h6 G e1, h8 G e1⟩
/-- list(x) of anything seen: of scalars -/
theorem w_listV (h : W c ta τ fun x τ1 b1 => ∃ ds, (Dv τ1 x (.lst ds) ∨ Dv τ1 x (.tup ds) ∨ Dv τ1 x (.tpl ds)) ∧ hardL ds = true ∧ Φ (.res true (ownL ds)) τ1 b1) : W c (tCB (rListOf K) (tCons ta tNil)) τ Φ := fun σ G H F o Q q =>
  h σ G H F o _ fun x G1 H1 F1 rx τ1 b1 p1 g1 s1 => by
    obtain ⟨ds, hd, hh, k⟩ := p1
    rcases hd with hd | hd | hd
    · obtain ⟨p, vs, rfl, h2, h3⟩ := hd.rep g1.ok s1
      refine ⟨p, vs, rfl, .inl (SqL.of h2), fun l hl => ?_⟩
      obtain ⟨a, b⟩ := new_own g1 hl (hardL_any (G' := G1) hh h3)
      exact q _ _ _ F1 _ τ1 b1 k a b
    · obtain ⟨p, vs, rfl, h2, h3⟩ := hd.rep g1.ok s1
      refine ⟨p, vs, rfl, .inr (.inl h2), fun l hl => ?_⟩
      obtain ⟨a, b⟩ := new_own g1 hl (hardL_any (G' := G1) hh h3)
      exact q _ _ _ F1 _ τ1 b1 k a b
    · obtain ⟨p, vs, rfl, h2, h3⟩ := tpl_tup (hd.rep g1.ok s1)
      refine ⟨p, vs, rfl, .inr (.inl h2), fun l hl => ?_⟩
      obtain ⟨a, b⟩ := new_own g1 hl (hardL_any (G' := G1) hh h3)
      exact q _ _ _ F1 _ τ1 b1 k a b
/-- list(x) of persistent data -/
theorem w_listD (h : W c ta τ fun x τ1 b1 => ∃ ds, (x = .dat (.lst ds) ∨ x = .dat (.tup ds) ∨ x = .dat (.tpl ds)) ∧ Φ (.res true (ownL ds)) τ1 b1) : W c (tCB (rListOf K) (tCons ta tNil)) τ Φ := fun σ G H F o Q q =>
  h σ G H F o _ fun x G1 H1 F1 rx τ1 b1 p1 g1 s1 => by
    obtain ⟨ds, rfl | rfl | rfl, k⟩ := p1
    · obtain ⟨p, vs, rfl, h2, h3⟩ := s1
      refine ⟨p, vs, rfl, .inl (SqL.of (g1.ok.ex _ _ h2)), fun l hl => ?_⟩
      obtain ⟨a, b⟩ := new_own g1 hl h3
      exact q _ _ _ F1 _ τ1 b1 k a b
    · obtain ⟨p, vs, rfl, h2, h3⟩ := s1
      refine ⟨p, vs, rfl, .inr (.inl (rd_mono g1.ok.ex h2)), fun l hl => ?_⟩
      obtain ⟨a, b⟩ := new_own g1 hl h3
      exact q _ _ _ F1 _ τ1 b1 k a b
    · obtain ⟨p, vs, rfl, h2, h3⟩ := tpl_tup s1
      refine ⟨p, vs, rfl, .inr (.inl (rd_mono g1.ok.ex h2)), fun l hl => ?_⟩
      obtain ⟨a, b⟩ := new_own g1 hl h3
      exact q _ _ _ F1 _ τ1 b1 k a b
theorem atI_nat' {α : Type} {xs : List α} {k : Nat} {x : α} (h : xs[k]? = some x) : atI xs (k : Int) = some x := by
  have hk : k < xs.length := (List.getElem?_eq_some_iff.mp h).1
  unfold atI
  rw [ixN_nat hk]
  exact h
theorem atI_neg1 {α : Type} {xs : List α} {x : α} (h : xs.getLast? = some x) : atI xs (-1) = some x := by
  have hne : xs ≠ [] := fun e => by rw [e] at h; cases h
  have hp : 0 < xs.length := List.length_pos_iff.mpr hne
  have e : ixN xs.length (-1) = some (xs.length - 1) := by
    unfold ixN
    rw [if_neg (by omega), if_pos (by omega)]
    congr 1
    omega
  unfold atI
  rw [e]
  show xs[xs.length - 1]? = some x
  rw [← List.getLast?_eq_getElem?]
  exact h
/-- an item of persistent data: a list, a tuple -/
theorem w_ixD (h : W c ta τ fun x τ1 b1 => W c tb τ1 fun y τ2 b2 => ∃ n ds d, y = .dat (.int n) ∧ (x = .dat (.lst ds) ∨ x = .dat (.tup ds) ∨ x = .dat (.tpl ds)) ∧ atI ds n = some d ∧ Φ (.dat d) τ2 (b1 && b2)) :
    W c (tOp (rIx K) ta tb) τ Φ := fun σ G H F o Q q =>
  h σ G H F o _ fun x G1 H1 F1 rx τ1 b1 p1 g1 s1 => p1 σ G1 H1 F1 g1.ok _ fun y G2 H2 F2 ry τ2 b2 p2 g2 s2 => by
    obtain ⟨n, ds, d, rfl, hd, ha, k⟩ := p2
    have e2 : y = .int n := s2
    subst e2
    rcases hd with rfl | rfl | rfl
    · obtain ⟨p, vs, rfl, h2, h3⟩ := (s1.keep g2 rfl : Rs c σ H G2 H2 F2 (.dat (.lst ds)) x)
      obtain ⟨v, h4, h5⟩ := atI_rep h3 ha
      exact .inl ⟨p, vs, n, v, rfl, rfl, SqL.of (g2.ok.ex _ _ h2), h4, q v G2 H2 F2 _ τ2 _ k (g1.trans g2) h5⟩
    · obtain ⟨p, vs, rfl, h2, h3⟩ := (s1.keep g2 rfl : Rs c σ H G2 H2 F2 (.dat (.tup ds)) x)
      obtain ⟨v, h4, h5⟩ := atI_rep h3 ha
      exact .inr (.inl ⟨p, vs, n, v, rfl, rfl, .inl (rd_mono g2.ok.ex h2), h4, q v G2 H2 F2 _ τ2 _ k (g1.trans g2) h5⟩)
    · obtain ⟨p, vs, rfl, h2, h3⟩ := tpl_tup (s1.keep g2 rfl : Rs c σ H G2 H2 F2 (.dat (.tpl ds)) x)
      obtain ⟨v, h4, h5⟩ := atI_rep h3 ha
      exact .inr (.inl ⟨p, vs, n, v, rfl, rfl, .inl (rd_mono g2.ok.ex h2), h4, q v G2 H2 F2 _ τ2 _ k (g1.trans g2) h5⟩)
/-- of what is only seen, a scalar -/
theorem w_ixS (h : W c ta τ fun x τ1 b1 => W c tb τ1 fun y τ2 b2 => stb x b2 = true ∧ ∃ n ds d, y = .dat (.int n) ∧ (Dv τ2 x (.lst ds) ∨ Dv τ2 x (.tup ds) ∨ Dv τ2 x (.tpl ds)) ∧ atI ds n = some d ∧ scal d = true ∧ Φ (.dat d) τ2 (b1 && b2)) :
    W c (tOp (rIx K) ta tb) τ Φ := fun σ G H F o Q q =>
  h σ G H F o _ fun x G1 H1 F1 rx τ1 b1 p1 g1 s1 => p1 σ G1 H1 F1 g1.ok _ fun y G2 H2 F2 ry τ2 b2 p2 g2 s2 => by
    obtain ⟨hs, n, ds, d, rfl, hd, ha, hsc, k⟩ := p2
    have s1' := s1.keep g2 hs
    have e2 : y = .int n := s2
    subst e2
    rcases hd with hd | hd | hd
    · obtain ⟨p, vs, rfl, h2, h3⟩ := hd.rep g2.ok s1'
      obtain ⟨v, h4, h5⟩ := atI_rep h3 ha
      exact .inl ⟨p, vs, n, v, rfl, rfl, SqL.of h2, h4, q v G2 H2 F2 _ τ2 _ k (g1.trans g2) (scal_any hsc h5)⟩
    · obtain ⟨p, vs, rfl, h2, h3⟩ := hd.rep g2.ok s1'
      obtain ⟨v, h4, h5⟩ := atI_rep h3 ha
      exact .inr (.inl ⟨p, vs, n, v, rfl, rfl, .inl h2, h4, q v G2 H2 F2 _ τ2 _ k (g1.trans g2) (scal_any hsc h5)⟩)
    · obtain ⟨p, vs, rfl, h2, h3⟩ := tpl_tup (hd.rep g2.ok s1')
      obtain ⟨v, h4, h5⟩ := atI_rep h3 ha
      exact .inr (.inl ⟨p, vs, n, v, rfl, rfl, .inl h2, h4, q v G2 H2 F2 _ τ2 _ k (g1.trans g2) (scal_any hsc h5)⟩)
/-- len of anything seen -/
theorem w_lenV (h : W c ta τ fun x τ1 b1 => ∃ ds, (Dv τ1 x (.lst ds) ∨ Dv τ1 x (.tup ds) ∨ Dv τ1 x (.tpl ds)) ∧ Φ (.dat (.int (ds.length : Nat))) τ1 b1) : W c (tCB (rLen K) (tCons ta tNil)) τ Φ := fun σ G H F o Q q =>
  h σ G H F o _ fun x G1 H1 F1 rx τ1 b1 p1 g1 s1 => by
    obtain ⟨ds, hd, k⟩ := p1
    rcases hd with hd | hd | hd
    · obtain ⟨p, vs, rfl, h2, h3⟩ := hd.rep g1.ok s1
      refine ⟨p, vs, rfl, .inl (SqL.of h2), ?_⟩
      rw [h3.length]
      exact q _ G1 H1 F1 _ τ1 b1 k g1 rfl
    · obtain ⟨p, vs, rfl, h2, h3⟩ := hd.rep g1.ok s1
      refine ⟨p, vs, rfl, .inr (.inl h2), ?_⟩
      rw [h3.length]
      exact q _ G1 H1 F1 _ τ1 b1 k g1 rfl
    · obtain ⟨p, vs, rfl, h2, h3⟩ := tpl_tup (hd.rep g1.ok s1)
      refine ⟨p, vs, rfl, .inr (.inl h2), ?_⟩
      rw [h3.length]
      exact q _ G1 H1 F1 _ τ1 b1 k g1 rfl
end
end Z
set_option Elab.async false
set_option linter.all false
set_option maxRecDepth 100000
set_option maxHeartbeats 2000000
/-! Z12: isinstance by kinds, calls by their promises, items by what they are. -/
namespace Z
open PySem PySem.Spec PyProof.Rows L2
def itemsD : DD → List DD
  | .lst xs => xs
  | .tup xs => xs
  | .tpl xs => xs
  | _ => []
def isNonD : DD → Bool
  | .non => true
  | _ => false
def isListed : DD → Bool
  | .lst _ => true
  | .tup _ => true
  | .tpl _ => true
  | _ => false
/-- what isinstance says of a datum -/
def kindD (d : DD) (n : String) : Bool := (kitB (tyN d) n).getD false
def kinds : List String := ["int", "bool", "list", "tuple", "str"]
theorem kind_ok {d : DD} {n : String} (hd : isPl d = true) (hn : n ∈ kinds) : kitB (tyN d) n = some (kindD d n) := by
  have q : ∀ a ∈ ["NoneType", "bool", "int", "str", "tuple", "list"], ∀ n ∈ kinds, (kitB a n).isSome = true := by decide +kernel
  have m : tyN d ∈ ["NoneType", "bool", "int", "str", "tuple", "list"] := by
    cases d <;> first | (cases hd; done) | simp [tyN]
  have := q _ m n hn
  unfold kindD
  cases z : kitB (tyN d) n with
  | none => rw [z] at this; cases this
  | some b => rfl
theorem listed_ok {d : DD} (hd : isPl d = true) : isiAny (tyN d) ["list", "tuple"] = some (isListed d) := by
  cases d <;> first | (cases hd; done) | (simp only [tyN, isListed]; decide +kernel)
theorem rs_non {d : DD} {G : Hp} {v : V} (hd : isPl d = true) (h : Rep G d v) : decide (v = V.non) = isNonD d := by
  cases d with
  | non => cases (show v = V.non from h); rfl
  | bl b => cases (show v = V.bl b from h); rfl
  | int b => cases (show v = V.int b from h); rfl
  | str b => cases (show v = V.str b from h); rfl
  | ty b => cases hd
  | tup xs => obtain ⟨a, vs, rfl, _⟩ := h; rfl
  | tpl xs => obtain ⟨a, vs, o, rfl, _⟩ := h; rfl
  | lst xs => obtain ⟨a, vs, rfl, _⟩ := h; rfl
  | obj C ns xs => cases hd
  | abs φ m => cases hd
theorem isPl_of {n : Nat} {d : DD} (h : Nice n d) : isPl d = true := by
  cases d with
  | ty m => cases n <;> (unfold Nice at h; exact h.elim)
  | obj C ns xs => cases n <;> (unfold Nice at h; exact h.elim)
  | abs φ m => cases n <;> (unfold Nice at h; exact h.elim)
  | _ => rfl
section
variable {c : Cfg} {τ τ1 : Lc} {Φ : Tg → Lc → Bool → Prop} {te ta tb : TE} {t : TA} {K : PySem.W.Frag} {D : AE} {i : Nat} {ts : TS} {S : Spec} {E : XK} {rs as : List Tg} {b : Bool}
theorem w_isiB {n : String} (h : W c ta τ fun x τ1 b1 => ∃ d, Dv τ1 x d ∧ isPl d = true ∧ n ∈ kinds ∧ Φ (.dat (.bl (kindD d n))) τ1 b1) : W c (tCB (rIsi K) (tCons ta (tCons (tC (.ty n)) tNil))) τ Φ := fun σ G H F o Q q =>
  h σ G H F o _ fun x G1 H1 F1 r τ1 b1 p1 g1 s1 => by
    obtain ⟨d, hd, hp, hn, k⟩ := p1
    exact ⟨x, .ty n, .type (tyN d), .type n, _, rfl, .ty n, tyx_of hp (hd.rep g1.ok s1), kit_ty (kind_ok hp hn), q _ G1 H1 F1 _ τ1 b1 k g1 rfl⟩
theorem w_isLT (h : W c ta τ fun x τ1 b1 => ∃ d, Dv τ1 x d ∧ isPl d = true ∧ Φ (.dat (.bl (isListed d))) τ1 b1) : W c (tCB (rIsiT K) (tCons ta (tCons (tTup (tCons (tC (.ty "list")) (tCons (tC (.ty "tuple")) tNil))) tNil))) τ Φ :=
  w_isi2 (W.imp h fun x τ1 b1 p => by
    obtain ⟨d, h1, h2, h3⟩ := p
    exact ⟨d, _, h1, h2, listed_ok h2, h3⟩)
theorem w_isN (h : W c ta τ fun x τ1 b1 => ∃ d, Dv τ1 x d ∧ isPl d = true ∧ Φ (.dat (.bl (isNonD d))) τ1 b1) : W c (tOp rIsN ta (tC .non)) τ Φ := fun σ G H F o Q q =>
  h σ G H F o _ fun x G1 H1 F1 r τ1 b1 p1 g1 s1 => by
    obtain ⟨d, hd, hp, k⟩ := p1
    exact ⟨rfl, q _ G1 H1 F1 _ τ1 b1 k g1 (show _ = V.bl _ by rw [rs_non hp (hd.rep g1.ok s1)])⟩
theorem w_notN (h : W c ta τ fun x τ1 b1 => ∃ d, Dv τ1 x d ∧ isPl d = true ∧ Φ (.dat (.bl (!isNonD d))) τ1 b1) : W c (tOp rNotN ta (tC .non)) τ Φ := fun σ G H F o Q q =>
  h σ G H F o _ fun x G1 H1 F1 r τ1 b1 p1 g1 s1 => by
    obtain ⟨d, hd, hp, k⟩ := p1
    exact ⟨rfl, q _ G1 H1 F1 _ τ1 b1 k g1 (show _ = V.bl _ by rw [rs_non hp (hd.rep g1.ok s1)])⟩
theorem pasX0 : Pas c X0 E := fun _ _ _ _ _ _ _ h => h.elim
/-- a call that lets nothing out -/
theorem cok0 (ha : Args τ1 rs as) (h : S as (fun r _ => Φ (dem r) τ1 b) X0) : CallOk c S E τ1 rs Φ b := ⟨X0, pasX0, .inl ⟨as, ha, h⟩⟩
/-- whose first argument is changed -/
theorem cok1 {j : Nat} {l : Bool} {R : Rsc} (hj : τ1[j]? = some (some (.res l R))) (ha : Args1 τ1 j rs as) (h : S (.res false R :: as) (fun r as2 => ∃ l2 R', as2[0]? = some (.res l2 R') ∧ Φ (dem r) (τ1.set j (some (.res l R'))) false) X0) : CallOk c S E τ1 (.ali j :: rs) Φ b :=
  ⟨X0, pasX0, .inr ⟨j, l, R, rs, as, rfl, hj, ha, h⟩⟩
theorem w_make0 {C : Addr} (h : WA c t τ fun rs τ1 b1 => ∃ as, Args τ1 rs as ∧ S (.res false (ownI C [] []) :: as) (fun r as2 => r = .dat .non ∧ ∃ l2 ns xs, as2[0]? = some (.res l2 (ownI C ns xs)) ∧ Φ (.dat (.obj C ns xs)) τ1 b1) X0) : W c (tMake C (FP S) [] E t) τ Φ :=
  w_make (WA.imp h fun rs τ1 b1 p => by
    obtain ⟨as, h1, h2⟩ := p
    exact ⟨X0, as, pasX0, h1, h2⟩)
/-- a body's ends, by name -/
def bodyD (Ψ : Tg → List Tg → Prop) (as : List Tg) : AE := { nx := fun τ' => Ψ (.dat .non) (backs as τ'), rt := fun r τ' => Ψ r (backs as τ') }
theorem fp_bodyD {S : Spec} {N : List Str} {ps : List Str} {t : XK → TS} (hl : ∀ as Ψ Ξ, S as Ψ Ξ → as.length = ps.length ∧ Plain as) (hN : ps.length ≤ N.length)
    (hb : ∀ (c : Cfg) (E : XK) as Ψ Ξ, S as Ψ Ξ → Pas c Ξ E → WS c (t E) (startT N.length as) (bodyD Ψ as)) :
    ∀ vs H Q E, FP S vs H Q E → t E { nx := fun _ H' => Q .non H', rt := Q } (start N vs) H := fp_body hl hN hb
def nextD (D : AE) (I : Lc → Prop) : AE := { D with nx := I }
theorem ws_seqN {tu : TS} (h : WS c ts τ (nextD D fun τ' => WS c tu τ' D)) : WS c (tSeq ts tu) τ D := ws_seq h
theorem ws_cutN (I : Lc → Prop) {tu : TS} (h : WS c ts τ (nextD D I)) (k : ∀ τ', I τ' → WS c tu τ' D) : WS c (tSeq ts tu) τ D := ws_cut I h k
/-- a branch that the facts shut -/
theorem wt_if {P : Prop} [Decidable P] {A B : Prop} (h1 : P → A) (h2 : ¬ P → B) : if decide P = true then A else B := by
  by_cases h : P
  · rw [decide_eq_true h, if_pos rfl]
    exact h1 h
  · rw [decide_eq_false h, if_neg Bool.false_ne_true]
    exact h2 h
theorem wt_ifB {k : Bool} {A B : Prop} (h1 : k = true → A) (h2 : k = false → B) : if k = true then A else B := by
  cases k with
  | true => rw [if_pos rfl]; exact h1 rfl
  | false => rw [if_neg Bool.false_ne_true]; exact h2 rfl
end
end Z
set_option Elab.async false
set_option linter.all false
set_option maxRecDepth 100000
set_option maxHeartbeats 2000000
/-! Z13: lists of lists that are one's own. -/
namespace Z
open PySem PySem.Spec PyProof.Rows L2
def ownLL (dss : List (List DD)) : Rsc where
  φ := fun v G H A => ∃ (p : Addr) (ps : List Addr), v = V.ref p ∧ H p = some (.lst (ps.map V.ref)) ∧ ps.length = dss.length ∧
    (∀ (k : Nat) (a : Addr) (ds : List DD), ps[k]? = some a → dss[k]? = some ds → ∃ vs, H a = some (.lst vs) ∧ RepL G ds vs) ∧ (p :: ps).Nodup ∧ A = fun a => a ∈ p :: ps
  mono := fun v G H A G' H' h e k => by
    obtain ⟨p, ps, h1, h2, h3, h4, h5, rfl⟩ := h
    refine ⟨p, ps, h1, by rw [k p (List.mem_cons_self ..)]; exact h2, h3, fun j a ds ha hd => ?_, h5, rfl⟩
    obtain ⟨vs, q1, q2⟩ := h4 j a ds ha hd
    exact ⟨vs, by rw [k a (List.mem_cons_of_mem _ (List.mem_of_getElem? ha))]; exact q1, q2.mono e _ _⟩
theorem repL_of {H : Hp} : ∀ {ds : List DD} {vs : List V}, vs.length = ds.length → (∀ (k : Nat) v d, vs[k]? = some v → ds[k]? = some d → Rep H d v) → RepL H ds vs
  | [], [], _, _ => rfl
  | [], _ :: _, h, _ => by simp at h
  | _ :: _, [], h, _ => by simp at h
  | d :: ds, v :: vs, h, k => RepL.cons (k 0 v d rfl rfl) (repL_of (by simpa using h) fun j u e hu he => k (j + 1) u e (by simpa using hu) (by simpa using he))
theorem ownLL_see {dss : List (List DD)} {v : V} {G H : Hp} {A : Addr → Prop} (e : Same G H) (h : (ownLL dss).φ v G H A) : Rep H (.lst (dss.map .lst)) v := by
  obtain ⟨p, ps, h1, h2, h3, h4, h5, rfl⟩ := h
  refine ⟨p, _, h1, h2, repL_of (by simp [h3]) fun k v d hv hd => ?_⟩
  rw [List.getElem?_map] at hv hd
  cases z : ps[k]? with
  | none => rw [z] at hv; cases hv
  | some a =>
    cases y : dss[k]? with
    | none => rw [y] at hd; cases hd
    | some ds =>
      rw [z] at hv
      rw [y] at hd
      cases hv
      cases hd
      obtain ⟨vs, q1, q2⟩ := h4 k a ds z y
      exact ⟨a, vs, rfl, q1, q2.mono e _ _⟩
section
variable {c : Cfg} {τ τ1 : Lc} {Φ : Tg → Lc → Bool → Prop} {te ta tb : TE} {t : TA} {K : PySem.W.Frag} {D : AE} {i : Nat} {ts : TS} {b : Bool}
theorem dv_LL {dss : List (List DD)} {l : Bool} (h : τ[i]? = some (some (.res l (ownLL dss)))) : Dv τ (.ali i) (.lst (dss.map .lst)) := .own h fun _ _ _ _ e k => ownLL_see e k
/-- an owned thing changed at a place of its own -/
theorem Ok.mutR {σ : L2.St} {G H : Hp} {F : Nat → Addr → Prop} {l : Bool} {R R' : Rsc} {p : Addr} {u' : HO} (o : Ok c τ σ G H F) (hi : τ[i]? = some (some (.res l R))) (fp : F i p) (ho : ¬ isTp u')
    (hR : ∀ v, σ[i]? = some (some v) → R.φ v G H (F i) → R'.φ v G (upd H p u') (F i)) : Go false c (τ.set i (some (.res l R'))) σ G H F G (upd H p u') F := by
  obtain ⟨u, hu, hr⟩ := o.rs i l _ hi
  have m3 := (o.own i p fp).2.1
  have hil : i < τ.length := (List.getElem?_eq_some_iff.mp hi).1
  have gt : ∀ j : Nat, j ≠ i → (τ.set i (some (.res l R')))[j]? = τ[j]? := fun j h => List.getElem?_set_ne (fun z => h z.symm)
  have gti : (τ.set i (some (.res l R')))[i]? = some (some (.res l R')) := List.getElem?_set_self hil
  refine ⟨?_, ⟨Same.refl G, fun a u z w => ?_, fun a z _ _ => z, fun a z => ?_⟩, fun j a z => .inl z⟩
  · exact {
      ex := same_own o.ex m3
      tu := o.tu.new ho
      fr := ⟨o.fr.g, fun a u z w => by
        rw [upd_ne (fun e => by
          subst e
          obtain ⟨_, _, _, _, _, y4⟩ := o.own i a fp
          rcases y4 with y4 | y4
          · rw [z] at y4; cases y4
          · exact w y4.2)]
        exact o.fr.h a u z w, o.fr.n, fun a z => by
        by_cases e : a = p
        · rw [e, upd_same]; exact (fun y => by cases y)
        · rw [upd_ne e]; exact o.fr.t a z⟩
      len := by rw [List.length_set]; exact o.len
      sl := fun j t h => by
        by_cases e : j = i
        · subst e
          rw [gti] at h
          cases h
          exact ⟨_, hu, True.intro⟩
        · rw [gt j e] at h
          exact o.sl j t h
      rs := fun j l' R h => by
        by_cases e : j = i
        · subst e
          rw [gti] at h
          cases h
          exact ⟨_, hu, hR _ hu hr⟩
        · rw [gt j e] at h
          obtain ⟨v, k1, k2⟩ := o.rs j l' R h
          exact ⟨v, k1, R.mono v _ _ _ _ _ k2 (Same.refl G) fun a ha => upd_ne fun ea => o.dj j i a e ha (by rw [ea]; exact fp)⟩
      own := fun j a z => by
        obtain ⟨y1, y2, l', R, y3, y4⟩ := o.own j a z
        refine ⟨?_, y2, ?_⟩
        · by_cases e : a = p
          · rw [e, upd_same]; exact (fun y => by cases y)
          · rw [upd_ne e]; exact y1
        · by_cases e : j = i
          · subst e
            rw [hi] at y3
            cases y3
            exact ⟨l, _, gti, y4⟩
          · exact ⟨l', R, by rw [gt j e]; exact y3, y4⟩
      dj := o.dj
      pn := fun q hq => by
        obtain ⟨k1, R, k2⟩ := o.pn q hq
        by_cases e : q.1 = i
        · rw [e, hi] at k2
          cases k2
          exact ⟨k1, _, by rw [e]; exact gti⟩
        · exact ⟨k1, R, by rw [gt _ e]; exact k2⟩ }
  · rw [upd_ne (fun e => by
      subst e
      exact w ⟨rfl, i, fp⟩)]
    exact z
  · by_cases e : a = p
    · rw [e, upd_same]; exact (fun y => by cases y)
    · rw [upd_ne e]; exact z
/-- [a, b] of two new lists -/
theorem w_lstLL (h : W c ta τ fun x τ1 b1 => ∃ ds, x = .res true (ownL ds) ∧ W c tb τ1 fun y τ2 b2 => ∃ es, y = .res true (ownL es) ∧ Φ (.res true (ownLL [ds, es])) τ2 (b1 && b2)) : W c (tLst (tCons ta (tCons tb tNil))) τ Φ := fun σ G H F o Q q =>
  h σ G H F o _ fun x G1 H1 F1 rx τ1 b1 p1 g1 s1 => by
    obtain ⟨ds, rfl, p1⟩ := p1
    refine p1 σ G1 H1 F1 g1.ok _ fun y G2 H2 F2 ry τ2 b2 p2 g2 s2 => ?_
    obtain ⟨es, rfl, k⟩ := p2
    have hne : ∀ a, H1 a ≠ none → H2 a ≠ none := g2.fr.t
    obtain ⟨_, A1, ⟨a, vs, rfl, h2, h3, rfl⟩, h4⟩ := s1
    have s1' : Rs c σ H G2 H2 F2 (.res true (ownL ds)) (.ref a) := Rs.keep (r := .res true (ownL ds)) ⟨rfl, _, ⟨a, vs, rfl, h2, h3, rfl⟩, h4⟩ g2 rfl
    obtain ⟨_, A1', ⟨a', vs', ea, h2', h3', rfl⟩, h4'⟩ := s1'
    cases ea
    obtain ⟨_, A2, ⟨e, ws, rfl, k2, k3, rfl⟩, k4⟩ := s2
    have e1 := h4 a rfl
    have e1' := h4' a rfl
    have e2 := k4 e rfl
    have hae : a ≠ e := fun z => e1.2.1 (by rw [z]; exact e2.1)
    refine ⟨(by decide : (2 : Nat) ≤ sizeLine), fun p hp => ?_⟩
    have hpa : p ≠ a := fun z => e1'.2.1 (by rw [← z]; exact hp)
    have hpe : p ≠ e := fun z => e2.2.1 (by rw [← z]; exact hp)
    have g3 := Go.grow g2.ok (Fr.new (G := G2) (o := .lst [V.ref a, V.ref e]) hp) (same_new g2.ok.ex hp) (g2.ok.tu.new fun z => z)
    have gg := (g1.trans g2).trans g3
    rw [Bool.and_true] at gg
    have ne3 : ∀ r, H2 r ≠ none → upd H2 p (.lst [V.ref a, V.ref e]) r ≠ none := g3.fr.t
    refine q _ _ _ F2 _ τ2 _ k gg ⟨rfl, _, ⟨p, [a, e], rfl, upd_same, rfl, fun j r zs hr hz => ?_, ?_, rfl⟩, fun r hr => ?_⟩
    · match j, hr, hz with
      | 0, hr, hz =>
        cases hr
        cases hz
        exact ⟨vs', by rw [upd_ne (Ne.symm hpa)]; exact h2', h3'⟩
      | 1, hr, hz =>
        cases hr
        cases hz
        exact ⟨ws, by rw [upd_ne (Ne.symm hpe)]; exact k2, k3⟩
      | j + 2, hr, hz => simp at hr
    · simp [hpa, hpe, hae]
    · simp only [List.mem_cons, List.not_mem_nil, or_false] at hr
      rcases hr with rfl | rfl | rfl
      · refine ⟨?_, (by rw [upd_same]; exact (fun z => by cases z)), ?_, fun j z => (g2.ok.own j r z).1 hp⟩
        · cases z : H r with
          | none => rfl
          | some w => exact absurd hp ((g1.trans g2).fr.t r (ne_none z))
        · cases z : G2 r with
          | none => rfl
          | some w => have := g2.ok.ex r w z; rw [hp] at this; cases this
      · exact ⟨e1.1, ne3 r e1'.2.1, e1'.2.2.1, e1'.2.2.2⟩
      · refine ⟨?_, ne3 r e2.2.1, e2.2.2.1, e2.2.2.2⟩
        cases z : H r with
        | none => rfl
        | some w => exact absurd e2.1 (g1.fr.t r (ne_none z))
theorem nodup_at {α : Type} : ∀ {xs : List α} {i j : Nat} {x : α}, xs.Nodup → xs[i]? = some x → xs[j]? = some x → i = j
  | [], _, _, _, _, h, _ => by simp at h
  | y :: ys, 0, 0, _, _, _, _ => rfl
  | y :: ys, 0, j + 1, x, n, h, k => by
    have e : y = x := by simpa using h
    subst e
    exact absurd (List.mem_of_getElem? (by simpa using k)) (List.nodup_cons.mp n).1
  | y :: ys, i + 1, 0, x, n, h, k => by
    have e : y = x := by simpa using k
    subst e
    exact absurd (List.mem_of_getElem? (by simpa using h)) (List.nodup_cons.mp n).1
  | y :: ys, i + 1, j + 1, x, n, h, k => congrArg (· + 1) (nodup_at (List.nodup_cons.mp n).2 (by simpa using h) (by simpa using k))
theorem mapref_get {ps : List Addr} {n : Int} {k : Nat} {a : Addr} (hn : n = (k : Int)) (h : ps[k]? = some a) : atI (ps.map V.ref) n = some (.ref a) := by
  rw [hn]
  exact atI_nat' (by rw [List.getElem?_map, h]; rfl)
/-- what a change of one of the lists leaves -/
theorem ownLL_set {dss : List (List DD)} {G H : Hp} {v : V} {A : Addr → Prop} {k : Nat} {es : List DD} {ws : List V} {p : Addr} {ps : List Addr} {a : Addr} (hv : v = V.ref p) (h2 : H p = some (.lst (ps.map V.ref))) (h3 : ps.length = dss.length)
    (h4 : ∀ (k : Nat) (a : Addr) (ds : List DD), ps[k]? = some a → dss[k]? = some ds → ∃ vs, H a = some (.lst vs) ∧ RepL G ds vs) (h5 : (p :: ps).Nodup) (hA : A = fun a => a ∈ p :: ps) (ha : ps[k]? = some a) (hr : RepL G es ws) :
    (ownLL (dss.set k es)).φ v G (upd H a (.lst ws)) A := by
  have hk : k < ps.length := (List.getElem?_eq_some_iff.mp ha).1
  have hpa : p ≠ a := fun z => (List.nodup_cons.mp h5).1 (by rw [z]; exact List.mem_of_getElem? ha)
  refine ⟨p, ps, hv, by rw [upd_ne hpa]; exact h2, by rw [List.length_set]; exact h3, fun j r ds hj hd => ?_, h5, hA⟩
  by_cases e : j = k
  · subst e
    rw [ha] at hj
    cases hj
    rw [List.getElem?_set_self (by omega)] at hd
    cases hd
    exact ⟨ws, upd_same, hr⟩
  · rw [List.getElem?_set_ne (Ne.symm e)] at hd
    obtain ⟨vs, q1, q2⟩ := h4 j r ds hj hd
    refine ⟨vs, ?_, q2⟩
    rw [upd_ne]
    · exact q1
    · intro z
      subst z
      obtain ⟨hj', ej⟩ := List.getElem?_eq_some_iff.mp hj
      obtain ⟨_, ek⟩ := List.getElem?_eq_some_iff.mp ha
      exact e (nodup_at (List.nodup_cons.mp h5).2 hj ha)
/-- x[k].append(number) -/
theorem ws_appLL {dss : List (List DD)} {l : Bool} {n m : Int} {k : Nat} {ds : List DD} (hi : τ[i]? = some (some (.res l (ownLL dss)))) (hn : n = (k : Int)) (hd : dss[k]? = some ds) (hz : ds.length < 100000) (h : D.nx (τ.set i (some (.res l (ownLL (dss.set k (ds ++ [.int m]))))))) :
    WS c (tDrop (tBM K "list" rAppend (tOp (rIx K) (tVar i) (tC (.int n))) (tCons (tC (.int m)) tNil))) τ D := fun σ G H F o De lk => by
  obtain ⟨u, hu, p, ps, rfl, h2, h3, h4, h5, h6⟩ := o.rs i l _ hi
  have hk : k < ps.length := by rw [h3]; exact (List.getElem?_eq_some_iff.mp hd).1
  obtain ⟨a, ha⟩ : ∃ a, ps[k]? = some a := ⟨_, List.getElem?_eq_getElem hk⟩
  obtain ⟨vs, q1, q2⟩ := h4 k a ds ha hd
  have gm := o.mutR (p := a) (u' := .lst (vs ++ [V.int m])) (R' := ownLL (dss.set k (ds ++ [.int m]))) hi (by rw [h6]; exact List.mem_cons_of_mem _ (List.mem_of_getElem? ha)) (fun z => z) (fun v hv _ => by
    rw [hu] at hv
    cases hv
    exact ownLL_set rfl h2 h3 h4 h5 h6 ha (q2.append (RepL.cons rfl rfl)))
  exact ⟨_, hu, .inl ⟨p, _, n, .ref a, rfl, rfl, SqL.of h2, mapref_get hn ha, tyV_list q1, a, vs, _, rfl, rfl, q1, by rw [q2.length]; exact sz_lt hz, lk.nx _ σ G _ F h gm.ok (Same.refl G)⟩⟩
/-- x[k].clear() -/
theorem ws_clrLL {dss : List (List DD)} {l : Bool} {n : Int} {k : Nat} {ds : List DD} (hi : τ[i]? = some (some (.res l (ownLL dss)))) (hn : n = (k : Int)) (hd : dss[k]? = some ds) (h : D.nx (τ.set i (some (.res l (ownLL (dss.set k [])))))) :
    WS c (tDrop (tBM0 K "list" rClear (tOp (rIx K) (tVar i) (tC (.int n))))) τ D := fun σ G H F o De lk => by
  obtain ⟨u, hu, p, ps, rfl, h2, h3, h4, h5, h6⟩ := o.rs i l _ hi
  have hk : k < ps.length := by rw [h3]; exact (List.getElem?_eq_some_iff.mp hd).1
  obtain ⟨a, ha⟩ : ∃ a, ps[k]? = some a := ⟨_, List.getElem?_eq_getElem hk⟩
  obtain ⟨vs, q1, q2⟩ := h4 k a ds ha hd
  have gm := o.mutR (p := a) (u' := .lst []) (R' := ownLL (dss.set k [])) hi (by rw [h6]; exact List.mem_cons_of_mem _ (List.mem_of_getElem? ha)) (fun z => z) (fun v hv _ => by
    rw [hu] at hv
    cases hv
    exact ownLL_set rfl h2 h3 h4 h5 h6 ha rfl)
  exact ⟨_, hu, .inl ⟨p, _, n, .ref a, rfl, rfl, SqL.of h2, mapref_get hn ha, tyV_list q1, a, vs, rfl, rfl, q1, lk.nx _ σ G _ F h gm.ok (Same.refl G)⟩⟩
/-- what is walked, counted -/
inductive EnQ : Tg → (DD → Tg) → List DD → Prop
  | lst {ds : List DD} : EnQ (.dat (.lst ds)) .dat ds
  | tup {ds : List DD} : EnQ (.dat (.tup ds)) .dat ds
  | tpl {ds : List DD} : EnQ (.dat (.tpl ds)) .dat ds
  | vlst {ds : List DD} : EnQ (.vol (.lst ds)) .vol ds
theorem wi_enumQ {ΦI : List Itm → Lc → Bool → Prop} (h : WA c t τ fun rs τ1 b1 => ∃ r f ds, rs = [r] ∧ EnQ r f ds ∧ ΦI (itsE f ds) τ1 b1) : WI c (iEnumA K t) τ ΦI :=
  wi_enumA (WA.imp h fun rs τ1 b1 p => by
    obtain ⟨r, f, ds, rfl, hq, k⟩ := p
    refine ⟨ds, ?_⟩
    cases hq with
    | lst => exact .inl ⟨rfl, k⟩
    | tup => exact .inr (.inl ⟨rfl, k⟩)
    | tpl => exact .inr (.inr (.inl ⟨rfl, k⟩))
    | vlst => exact .inr (.inr (.inr ⟨rfl, k⟩)))
/-- what is walked -/
inductive SqQ : Tg → (DD → Tg) → List DD → Prop
  | lst {ds : List DD} : SqQ (.dat (.lst ds)) .dat ds
  | tup {ds : List DD} : SqQ (.dat (.tup ds)) .dat ds
  | tpl {ds : List DD} : SqQ (.dat (.tpl ds)) .dat ds
  | vlst {ds : List DD} : SqQ (.vol (.lst ds)) .vol ds
  | vtup {ds : List DD} : SqQ (.vol (.tup ds)) .vol ds
  | vtpl {ds : List DD} : SqQ (.vol (.tpl ds)) .vol ds
def itsS (f : DD → Tg) (ds : List DD) : List Itm := ds.map fun d => .one (f d)
theorem itsS_get {f : DD → Tg} {ds : List DD} {i : Nat} {t : Itm} (h : (itsS f ds)[i]? = some t) : ∃ d, ds[i]? = some d ∧ t = .one (f d) := by
  unfold itsS at h
  rw [List.getElem?_map] at h
  cases z : ds[i]? with
  | none => rw [z] at h; cases h
  | some d => rw [z] at h; exact ⟨d, rfl, (Option.some.inj h).symm⟩
theorem itsS_len {f : DD → Tg} {ds : List DD} : (itsS f ds).length = ds.length := List.length_map _
theorem wi_seqQ {ΦI : List Itm → Lc → Bool → Prop} (h : W c ta τ fun r τ1 b1 => ∃ f ds, SqQ r f ds ∧ ΦI (itsS f ds) τ1 b1) : WI c (iSeq K ta) τ ΦI :=
  wi_seq (W.imp h fun r τ1 b1 p => by
    obtain ⟨f, ds, hq, k⟩ := p
    refine ⟨ds, ?_⟩
    cases hq with
    | lst => exact .inl ⟨.inl rfl, k⟩
    | tup => exact .inl ⟨.inr (.inl rfl), k⟩
    | tpl => exact .inl ⟨.inr (.inr rfl), k⟩
    | vlst => exact .inr ⟨.inl rfl, k⟩
    | vtup => exact .inr ⟨.inr (.inl rfl), k⟩
    | vtpl => exact .inr ⟨.inr (.inr rfl), k⟩)
/-- no resource that the caller waits for -/
def nr : Option Tg → Bool
  | some (.res false _) => false
  | _ => true
theorem free_of {x : Option Tg} (h : τ[i]? = some x) (n : nr x = true) : free τ i := fun R z => by
  rw [h] at z
  cases z
  cases n
theorem nx_next {I : Lc → Prop} (h : I τ) : (nextD D I).nx τ := h
theorem nx_body {Ψ : Tg → List Tg → Prop} {as : List Tg} (h : Ψ (.dat .non) (backs as τ)) : (bodyD Ψ as).nx τ := h
theorem rt_next {I : Lc → Prop} {r : Tg} (h : D.rt r τ) : (nextD D I).rt r τ := h
end
end Z
set_option Elab.async false
set_option linter.all false
set_option maxRecDepth 100000
set_option maxHeartbeats 2000000
/-! Z14: one rule for each way to read an item, to compare. -/
namespace Z
open PySem PySem.Spec PyProof.Rows L2
/-- what stands at a place -/
inductive IxQ (τ : Lc) : Tg → Int → Tg → Prop
  | lst {ds : List DD} {n : Int} {d : DD} (h : atI ds n = some d) : IxQ τ (.dat (.lst ds)) n (.dat d)
  | tup {ds : List DD} {n : Int} {d : DD} (h : atI ds n = some d) : IxQ τ (.dat (.tup ds)) n (.dat d)
  | tpl {ds : List DD} {n : Int} {d : DD} (h : atI ds n = some d) : IxQ τ (.dat (.tpl ds)) n (.dat d)
  | ali {i : Nat} {l : Bool} {ds : List DD} {n : Int} {d : DD} (k : τ[i]? = some (some (.res l (ownL ds)))) (h : atI ds n = some d) : IxQ τ (.ali i) n (.dat d)
  | new {ds : List DD} {n : Int} {d : DD} (h : atI ds n = some d) : IxQ τ (.res true (ownL ds)) n (.dat d)
  | vlst {ds : List DD} {n : Int} {d : DD} (h : atI ds n = some d) (hs : scal d = true) : IxQ τ (.vol (.lst ds)) n (.dat d)
  | vtup {ds : List DD} {n : Int} {d : DD} (h : atI ds n = some d) (hs : scal d = true) : IxQ τ (.vol (.tup ds)) n (.dat d)
  | vtpl {ds : List DD} {n : Int} {d : DD} (h : atI ds n = some d) (hs : scal d = true) : IxQ τ (.vol (.tpl ds)) n (.dat d)
  | elst {ds : List DD} {n : Int} {d : DD} (h : atI ds n = some d) (hs : scal d = false) : IxQ τ (.vol (.lst ds)) n (.vol d)
  | etup {ds : List DD} {n : Int} {d : DD} (h : atI ds n = some d) (hs : scal d = false) : IxQ τ (.vol (.tup ds)) n (.vol d)
section
variable {c : Cfg} {τ τ1 : Lc} {Φ : Tg → Lc → Bool → Prop} {te ta tb : TE} {t : TA} {K : PySem.W.Frag} {D : AE} {i : Nat} {ts : TS} {b : Bool}
theorem w_ixQ (h : W c ta τ fun x τ1 b1 => W c tb τ1 fun y τ2 b2 => stb x b2 = true ∧ ∃ n r, y = .dat (.int n) ∧ IxQ τ2 x n r ∧ Φ r τ2 (b1 && b2)) : W c (tOp (rIx K) ta tb) τ Φ := fun σ G H F o Q q =>
  h σ G H F o _ fun x G1 H1 F1 rx τ1 b1 p1 g1 s1 => p1 σ G1 H1 F1 g1.ok _ fun y G2 H2 F2 ry τ2 b2 p2 g2 s2 => by
    obtain ⟨hs, n, r, rfl, hd, k⟩ := p2
    have s1' := s1.keep g2 hs
    have e2 : y = .int n := s2
    subst e2
    have fin : ∀ (d : DD) (ds : List DD) (vs : List V) (G' : Hp), RepL G' ds vs → atI ds n = some d → scal d = true → ∃ v, atI vs n = some v ∧ Rep G2 d v := fun d ds vs G' h3 ha hh => by
      obtain ⟨v, h4, h5⟩ := atI_rep h3 ha
      exact ⟨v, h4, scal_any hh h5⟩
    cases hd with
    | lst ha =>
      obtain ⟨p, vs, rfl, h2, h3⟩ := s1'
      obtain ⟨v, h4, h5⟩ := atI_rep h3 ha
      exact .inl ⟨p, vs, n, v, rfl, rfl, SqL.of (g2.ok.ex _ _ h2), h4, q v G2 H2 F2 _ τ2 _ k (g1.trans g2) h5⟩
    | tup ha =>
      obtain ⟨p, vs, rfl, h2, h3⟩ := s1'
      obtain ⟨v, h4, h5⟩ := atI_rep h3 ha
      exact .inr (.inl ⟨p, vs, n, v, rfl, rfl, .inl (rd_mono g2.ok.ex h2), h4, q v G2 H2 F2 _ τ2 _ k (g1.trans g2) h5⟩)
    | tpl ha =>
      obtain ⟨p, vs, rfl, h2, h3⟩ := tpl_tup s1'
      obtain ⟨v, h4, h5⟩ := atI_rep h3 ha
      exact .inr (.inl ⟨p, vs, n, v, rfl, rfl, .inl (rd_mono g2.ok.ex h2), h4, q v G2 H2 F2 _ τ2 _ k (g1.trans g2) h5⟩)
    | ali hk ha =>
      obtain ⟨p, vs, rfl, h2, h3⟩ := (Dl.ali hk).lst g2.ok s1'
      obtain ⟨v, h4, h5⟩ := atI_rep h3 ha
      exact .inl ⟨p, vs, n, v, rfl, rfl, SqL.of h2, h4, q v G2 H2 F2 _ τ2 _ k (g1.trans g2) h5⟩
    | new ha =>
      obtain ⟨p, vs, rfl, h2, h3⟩ := (Dl.fre (τ := τ2)).lst g2.ok s1'
      obtain ⟨v, h4, h5⟩ := atI_rep h3 ha
      exact .inl ⟨p, vs, n, v, rfl, rfl, SqL.of h2, h4, q v G2 H2 F2 _ τ2 _ k (g1.trans g2) h5⟩
    | vlst ha hh =>
      obtain ⟨p, vs, rfl, h2, h3⟩ := Dv.rep (τ := τ2) .vol g2.ok s1'
      obtain ⟨v, h4, h5⟩ := fin _ _ vs _ h3 ha hh
      exact .inl ⟨p, vs, n, v, rfl, rfl, SqL.of h2, h4, q v G2 H2 F2 _ τ2 _ k (g1.trans g2) h5⟩
    | vtup ha hh =>
      obtain ⟨p, vs, rfl, h2, h3⟩ := Dv.rep (τ := τ2) .vol g2.ok s1'
      obtain ⟨v, h4, h5⟩ := fin _ _ vs _ h3 ha hh
      exact .inr (.inl ⟨p, vs, n, v, rfl, rfl, .inl h2, h4, q v G2 H2 F2 _ τ2 _ k (g1.trans g2) h5⟩)
    | vtpl ha hh =>
      obtain ⟨p, vs, rfl, h2, h3⟩ := tpl_tup (Dv.rep (τ := τ2) .vol g2.ok s1')
      obtain ⟨v, h4, h5⟩ := fin _ _ vs _ h3 ha hh
      exact .inr (.inl ⟨p, vs, n, v, rfl, rfl, .inl h2, h4, q v G2 H2 F2 _ τ2 _ k (g1.trans g2) h5⟩)
    | elst ha hh =>
      have s2 := s1'
      obtain ⟨Gv, hv, p, vs, rfl, h2, h3⟩ := s2
      obtain ⟨v, h4, h5⟩ := atI_rep h3 ha
      exact .inl ⟨p, vs, n, v, rfl, rfl, SqL.of (g2.ok.fr.h _ _ (hv _ _ h2).1 (hv _ _ h2).2), h4, q v G2 H2 F2 _ τ2 _ k (g1.trans g2) ⟨Gv, hv, h5⟩⟩
    | etup ha hh =>
      have s2 := s1'
      obtain ⟨Gv, hv, p, vs, rfl, h2, h3⟩ := s2
      obtain ⟨v, h4, h5⟩ := atI_rep h3 ha
      exact .inr (.inl ⟨p, vs, n, v, rfl, rfl, .inl (rd_mono (fun a u z => g2.ok.fr.h a u (hv a u z).1 (hv a u z).2) h2), h4, q v G2 H2 F2 _ τ2 _ k (g1.trans g2) ⟨Gv, hv, h5⟩⟩)
/-- what two things' comparison says -/
def EqQ (τ : Lc) (x y : Tg) (r : Bool) : Prop := ∃ d e, Dv τ x d ∧ Dv τ y e ∧ Nice 60 d ∧ Nice 60 e ∧ deqv d e = r
theorem eq_int {x y : Tg} {i j : Int} (h : Dv τ x (.int i)) (k : Dv τ y (.int j)) : EqQ τ x y (decide (i = j)) := ⟨_, _, h, k, nice_int, nice_int, deqv_int⟩
theorem eq_bl {x y : Tg} {i j : Bool} (h : Dv τ x (.bl i)) (k : Dv τ y (.bl j)) : EqQ τ x y (i == j) := ⟨_, _, h, k, nice_bl, nice_bl, deqv_bl⟩
theorem w_eqQ (h : W c ta τ fun x τ1 b1 => W c tb τ1 fun y τ2 b2 => stb x b2 = true ∧ ∃ r, EqQ τ2 x y r ∧ Φ (.dat (.bl r)) τ2 (b1 && b2)) : W c (tOp (rEqD K) ta tb) τ Φ :=
  w_eqD (W.imp h fun x τ1 b1 p => W.imp p fun y τ2 b2 p => by
    obtain ⟨h0, r, ⟨d, e, h1, h2, h3, h4, rfl⟩, k⟩ := p
    exact ⟨h0, d, e, h1, h2, h3, h4, k⟩)
theorem w_neQ (h : W c ta τ fun x τ1 b1 => W c tb τ1 fun y τ2 b2 => stb x b2 = true ∧ ∃ r, EqQ τ2 x y r ∧ Φ (.dat (.bl (!r))) τ2 (b1 && b2)) : W c (tOp (rNeD K) ta tb) τ Φ :=
  w_neD (W.imp h fun x τ1 b1 p => W.imp p fun y τ2 b2 p => by
    obtain ⟨h0, r, ⟨d, e, h1, h2, h3, h4, rfl⟩, k⟩ := p
    exact ⟨h0, d, e, h1, h2, h3, h4, k⟩)
/-! a test that is known -/
theorem wt_t {A B : Prop} (h : A) : if true = true then A else B := by rw [if_pos rfl]; exact h
theorem wt_f {A B : Prop} (h : B) : if false = true then A else B := by rw [if_neg (by decide)]; exact h
theorem wt_nt {A B : Prop} (h : B) : if (!true) = true then A else B := by rw [if_neg (by decide)]; exact h
theorem wt_nf {A B : Prop} (h : A) : if (!false) = true then A else B := by rw [if_pos (show (!false) = true from rfl)]; exact h
theorem wt_n {k : Bool} {A B : Prop} (h : if k = true then B else A) : if (!k) = true then A else B := by cases k <;> exact h
theorem ps_one {α : Type} {f : α → DD} {xs : List α} {k : Nat} {d : DD} (h : (xs.map f)[k]? = some d) : ∃ x, xs[k]? = some x ∧ d = f x := by
  rw [List.getElem?_map] at h
  cases z : xs[k]? with
  | none => rw [z] at h; cases h
  | some r => rw [z] at h; exact ⟨r, rfl, (Option.some.inj h).symm⟩
/-- a promise that is to be met: opened by hand -/
@[irreducible] def Hold (P : Prop) : Prop := P
theorem hold {P : Prop} (h : P) : Hold P := by unfold Hold; exact h
theorem unhold {P : Prop} (h : Hold P) : P := by unfold Hold at h; exact h
variable {S : Spec} {E : XK} {rs as : List Tg}
theorem cok0h (ha : Args τ1 rs as) (h : Hold (S as (fun r _ => Φ (dem r) τ1 b) X0)) : CallOk c S E τ1 rs Φ b := cok0 ha (unhold h)
theorem cok1h {j : Nat} {l : Bool} {R : Rsc} (hj : τ1[j]? = some (some (.res l R))) (ha : Args1 τ1 j rs as) (h : Hold (S (.res false R :: as) (fun r as2 => ∃ l2 R', as2[0]? = some (.res l2 R') ∧ Φ (dem r) (τ1.set j (some (.res l R'))) false) X0)) : CallOk c S E τ1 (.ali j :: rs) Φ b := cok1 hj ha (unhold h)
theorem w_makeh {C : Addr} (h : WA c t τ fun rs τ1 b1 => ∃ as, Args τ1 rs as ∧ Hold (S (.res false (ownI C [] []) :: as) (fun r as2 => r = .dat .non ∧ ∃ l2 ns xs, as2[0]? = some (.res l2 (ownI C ns xs)) ∧ Φ (.dat (.obj C ns xs)) τ1 b1) X0)) : W c (tMake C (FP S) [] E t) τ Φ :=
  w_make0 (WA.imp h fun rs τ1 b1 p => by
    obtain ⟨as, h1, h2⟩ := p
    exact ⟨as, h1, unhold h2⟩)
theorem ws_mid (I : Lc → Prop) (h : WS c ts τ (nextD D I)) (k : ∀ τ', I τ' → D.nx τ') : WS c ts τ D := WS.imp (D := nextD D I) h k (fun _ _ z => z) (fun _ z => z) fun _ z => z
section
variable {u : Tg} {d : DD} {N : Lc → Prop} {g1 g2 : TG}
theorem sl_scal {G : Hp} {x : V} (hs : scal d = true) (h : Sl c G (.vol d) x) : Sl c G (.dat d) x := by
  obtain ⟨Gv, _, h2⟩ := h
  exact scal_any hs h2
theorem wgi_twoS (p1 : Pl u) (hs : scal d = true) (h : WGI c (gTup K 2 (gCons g1 (gCons g2 gNil))) (.two u (.dat d)) τ N) : WGI c (gTup K 2 (gCons g1 (gCons g2 gNil))) (.two u (.vol d)) τ N := fun σ G H F x H' o y Q q => by
  obtain ⟨T, y, z, e1, hT, e2, s1, s2⟩ := y
  exact h σ G H F x H' o ⟨T, y, z, e1, hT, e2, s1, sl_scal hs s2⟩ Q q
end
def nres : Option (Option Tg) → Bool
  | some (some (.res _ _)) => false
  | _ => true
theorem still_of {vs : List Nat} (h : (vs.all fun i => nres τ[i]?) = true) : still τ vs := fun i hi l R z => by
  have := List.all_eq_true.mp h i hi
  rw [z] at this
  cases this
theorem frees_of {vs : List Nat} (h : (vs.all fun i => nr (τ[i]?.getD none)) = true) : ∀ i ∈ vs, free τ i := fun i hi R z => by
  have := List.all_eq_true.mp h i hi
  rw [z] at this
  cases this
theorem ws_setQ (h : W c te τ fun r τ1 b1 => ∃ l d ds0, r = .dat d ∧ τ1[i]? = some (some (.res l (ownL ds0))) ∧ W c tb τ1 fun y τ2 _ => ∃ ds n, τ2[i]? = some (some (.res l (ownL ds))) ∧ y = .dat (.int (n : Nat)) ∧ n < ds.length ∧ D.nx (τ2.set i (some (.res l (ownL (ds.set n d)))))) :
    WS c (tAsg te (gSub (tVar i) tb rSetL)) τ D := fun σ G H F o De lk =>
  h σ G H F o _ fun x G1 H1 F1 r τ1 b1 p1 g1 s1 => by
    obtain ⟨l, d, ds0, rfl, hi0, p2⟩ := p1
    obtain ⟨u, hu, p, vs, rfl, h2, h3, h4⟩ := g1.ok.rs i l _ hi0
    refine ⟨_, hu, p2 σ G1 H1 F1 g1.ok _ fun y G2 H2 F2 r2 τ2 b2 p3 g2 s2 => ?_⟩
    obtain ⟨ds, n, hi1, rfl, hn, k⟩ := p3
    obtain ⟨u1, hu1, p1, vs1, e1, k2, k3, k4⟩ := g2.ok.rs i l _ hi1
    rw [hu] at hu1
    cases hu1
    cases e1
    obtain ⟨p', vs', q1, q2, q3, gm⟩ := g2.ok.mutL hi1 (es := ds.set n d) (ws := vs1.set n x) (RepL.set (Rep.mono g2.fr.g _ _ s1) n k3)
    rw [hu] at q1
    cases q1
    exact ⟨p, vs1, (n : Nat), n, rfl, s2, k2, ixN_nat (by rw [k3.length]; exact hn), lk.nx _ σ G2 _ F2 k gm.ok (g1.fr.g.trans g2.fr.g)⟩
theorem ws_setK {m : Int} (h : W c te τ fun r τ1 b1 => ∃ l d ds, r = .dat d ∧ τ1[i]? = some (some (.res l (ownL ds))) ∧ (0 ≤ m ∧ m.toNat < ds.length) ∧ D.nx (τ1.set i (some (.res l (ownL (ds.set m.toNat d)))))) :
    WS c (tAsg te (gSub (tVar i) (tC (.int m)) rSetL)) τ D := ws_setQ (W.imp h fun r τ1 b1 p => by
  obtain ⟨l, d, ds, rfl, h1, h2, h3⟩ := p
  refine ⟨l, d, ds, rfl, h1, w_int ⟨ds, m.toNat, h1, ?_, h2.2, h3⟩⟩
  rw [Int.toNat_of_nonneg h2.1])
/-- what is open is closed when one goes back -/
theorem ws_retC {α : Type} {R : α → Rsc} (i : Nat) (h : WS c ts τ { D with rt := fun r τ' => ∃ l x, τ'[i]? = some (some (.res l (R x))) ∧ D.rt r (τ'.set i (some (.res l (exR R)))) }) : WS c ts τ D := fun σ G H F o De lk =>
  h σ G H F o De ⟨lk.nx, fun r τ' σ' G' H' F' v a o' q => by
    obtain ⟨l, x, h1, h2⟩ := a
    exact lk.rt r _ σ' G' H' F' v h2 (o'.chg (R' := exR R) h1 fun v G H A z => ⟨x, z⟩) q, lk.bk, lk.ct⟩
end
end Z
set_option Elab.async false
set_option linter.all false
set_option maxRecDepth 100000
set_option maxHeartbeats 2000000
/-! Z15: ranges downward, tuples of what is at hand, fields. -/
namespace Z
open PySem PySem.Spec PyProof.Rows L2
def itsC (lo st : Int) (n : Nat) : List Itm := (List.range n).map fun k => .one (.dat (.int (lo + (k : Nat) * st)))
theorem itsC_len {lo st : Int} {n : Nat} : (itsC lo st n).length = n := by rw [itsC, List.length_map, List.length_range]
theorem itsC_get {lo st : Int} {n i : Nat} {t : Itm} (h : (itsC lo st n)[i]? = some t) : i < n ∧ t = .one (.dat (.int (lo + (i : Nat) * st))) := by
  unfold itsC at h
  rw [List.getElem?_map] at h
  by_cases hi : i < n
  · rw [List.getElem?_range hi] at h
    exact ⟨hi, (Option.some.inj h).symm⟩
  · rw [List.getElem?_eq_none (by rw [List.length_range]; omega)] at h
    cases h
/-- what a tuple is made of -/
inductive TuQ (τ : Lc) : Tg → List DD → Prop
  | fre {ds : List DD} : TuQ τ (.res true (ownL ds)) ds
  | ali {i : Nat} {l : Bool} {ds : List DD} (h : τ[i]? = some (some (.res l (ownL ds)))) : TuQ τ (.ali i) ds
  | lst {ds : List DD} : TuQ τ (.dat (.lst ds)) ds
  | tup {ds : List DD} : TuQ τ (.dat (.tup ds)) ds
  | tpl {ds : List DD} : TuQ τ (.dat (.tpl ds)) ds
  | vlst {ds : List DD} (h : hardL ds = true) : TuQ τ (.vol (.lst ds)) ds
  | vtup {ds : List DD} (h : hardL ds = true) : TuQ τ (.vol (.tup ds)) ds
  | vtpl {ds : List DD} (h : hardL ds = true) : TuQ τ (.vol (.tpl ds)) ds
section
variable {c : Cfg} {τ τ1 : Lc} {Φ : Tg → Lc → Bool → Prop} {te ta tb : TE} {t : TA} {K : PySem.W.Frag} {D : AE} {i : Nat} {ts : TS} {b : Bool}
theorem stb1 (x : Tg) : stb x true = true := by cases x <;> rfl
theorem wk_down {lo st : Int} {n : Nat} {G1 : Hp} : Wk c (Itc lo st n) (itsC lo st n) G1 :=
  ⟨fun i G H hi _ _ _ => by rw [itsC_len] at hi; exact hi, fun G H _ _ _ => by rw [itsC_len]; exact Nat.le_refl n, fun i t G H x H' ht _ _ _ y => by
    obtain ⟨q, rfl⟩ := itsC_get ht
    exact ⟨y.1, y.2⟩⟩
theorem wi_down {ΦI : List Itm → Lc → Bool → Prop} (h : WA c t τ fun rs τ1 b1 => ∃ m n : Int, rs = [.dat (.int m), .dat (.int n), .dat (.int (-1))] ∧ -1000000 ≤ m ∧ m ≤ 1000000 ∧ -1000000 ≤ n ∧ n ≤ 1000000 ∧ ΦI (itsC m (-1) (m - n).toNat) τ1 b1) : WI c (iRng3 t) τ ΦI := fun σ G H F o R q =>
  h σ G H F o _ fun x G1 H1 F1 rx τ1 b1 p1 g1 s1 => by
    obtain ⟨m, n, rfl, l1, l2, l3, l4, k⟩ := p1
    cases s1 with
    | cons a b =>
      cases b with
      | cons a2 b2 =>
        cases b2 with
        | cons a3 b3 =>
          cases b3
          cases a
          cases a2
          cases a3
          exact ⟨m, n, -1, _, rfl, RgC.neg (by omega) (by omega) (by omega) (by omega), q _ _ G1 H1 F1 τ1 b1 k g1 wk_down⟩
theorem w_tupQ (h : W c ta τ fun x τ1 b1 => ∃ ds, TuQ τ1 x ds ∧ Φ (.dat (.tup ds)) τ1 b1) : W c (tCB (rTupN K) (tCons ta tNil)) τ Φ := fun σ G H F o Q q =>
  h σ G H F o _ fun x G1 H1 F1 rx τ1 b1 p1 g1 s1 => by
    obtain ⟨ds, hd, k⟩ := p1
    have new : ∀ (vs : List V), RepL G1 ds vs → ∀ (l : Addr) (o : Obj), H1 l = none → o.dict = none → Q (.ref l) (upd H1 l (.frz o (.tup vs))) := fun vs rr l o hl hdn => by
      have g2 := Go.grow g1.ok (Fr.both (o := .frz o (.tup vs)) g1.ok.ex hl) (same_both g1.ok.ex) g1.ok.tu.both
      have gg := g1.trans g2
      rw [Bool.and_true] at gg
      exact q _ _ _ F1 _ τ1 b1 k gg (tpl_tup ⟨l, vs, o, rfl, ⟨upd_same, hdn⟩, rr.mono g2.fr.g _ _⟩)
    have old : ∀ (p : Addr) (vs : List V), Rd G1 p (.tup vs) → RepL G1 ds vs → rTupN K [.ref p] H1 Q := fun p vs h2 h3 =>
      ⟨p, vs, rfl, .inr ⟨.inl (rd_mono g1.ok.ex h2), q _ G1 H1 F1 _ τ1 b1 k g1 ⟨p, vs, rfl, h2, h3⟩⟩⟩
    cases hd with
    | fre =>
      obtain ⟨p, vs, rfl, h2, h3⟩ := (Dl.fre (τ := τ1)).lst g1.ok s1
      exact ⟨p, vs, rfl, .inl ⟨SqL.of h2, new vs h3⟩⟩
    | ali hi =>
      obtain ⟨p, vs, rfl, h2, h3⟩ := (Dl.ali hi).lst g1.ok s1
      exact ⟨p, vs, rfl, .inl ⟨SqL.of h2, new vs h3⟩⟩
    | lst =>
      obtain ⟨p, vs, rfl, h2, h3⟩ := (Dl.dat (τ := τ1)).lst g1.ok s1
      exact ⟨p, vs, rfl, .inl ⟨SqL.of h2, new vs h3⟩⟩
    | tup =>
      obtain ⟨p, vs, rfl, h2, h3⟩ := s1
      exact old p vs h2 h3
    | tpl =>
      obtain ⟨p, vs, rfl, h2, h3⟩ := tpl_tup s1
      exact old p vs h2 h3
    | vlst hh =>
      obtain ⟨p, vs, rfl, h2, h3⟩ := Dv.rep (τ := τ1) .vol g1.ok s1
      exact ⟨p, vs, rfl, .inl ⟨SqL.of h2, new vs (hardL_any hh h3)⟩⟩
    | vtup hh =>
      obtain ⟨p, vs, rfl, h2, h3⟩ := Dv.rep (τ := τ1) .vol g1.ok s1
      exact old p vs (g1.ok.tu.rd h2) (hardL_any hh h3)
    | vtpl hh =>
      obtain ⟨p, vs, rfl, h2, h3⟩ := tpl_tup (Dv.rep (τ := τ1) .vol g1.ok s1)
      exact old p vs (g1.ok.tu.rd h2) (hardL_any hh h3)
/-- what a field holds -/
def FdQ (K : PySem.W.Frag) (f : Str) (τ : Lc) (x : Tg) (d : DD) : Prop :=
  (∃ C ns xs, x = .dat (.obj C ns xs) ∧ Cls K C ∧ NoAttr K C f ∧ lkp ns xs f = some d) ∨ ∃ i l C ns xs, x = .ali i ∧ τ[i]? = some (some (.res l (ownI C ns xs))) ∧ Cls K C ∧ NoAttr K C f ∧ lkp ns xs f = some d
theorem w_fldQ {f : Str} (h : W c ta τ fun x τ1 b1 => ∃ d, FdQ K f τ1 x d ∧ Φ (.dat d) τ1 b1) : W c (tFld K ta f) τ Φ := fun σ G H F o Q q =>
  h σ G H F o _ fun x G1 H1 F1 rx τ1 b1 p1 g1 s1 => by
    obtain ⟨d, ⟨C, ns, xs, rfl, hc, hn, hl⟩ | ⟨i, l, C, ns, xs, rfl, hi, hc, hn, hl⟩, k⟩ := p1
    · obtain ⟨a, dx, vs, rfl, h2, h3, h4⟩ := s1
      obtain ⟨v, h5, h6⟩ := lkp_rep hl h4
      exact ⟨a, C, dx, _, v, rfl, g1.ok.ex _ _ h2, hc, hn, h5, q v G1 H1 F1 _ τ1 b1 k g1 h6⟩
    · obtain ⟨u, h1, a, dx, vs, h2, h3, h7, h4, _⟩ := g1.ok.rs _ _ _ hi
      have e : u = x := by
        have q' : σ[i]? = some (some x) := s1
        rw [h1] at q'
        exact Option.some.inj (Option.some.inj q')
      subst e
      obtain ⟨v, h5, h6⟩ := lkp_rep hl h4
      exact ⟨a, C, dx, _, v, h2, h3, hc, hn, h5, q v G1 H1 F1 _ τ1 b1 k g1 h6⟩
theorem fd_own {f : Str} {l : Bool} {C : Addr} {ns : List Str} {xs : List DD} {d : DD} (hc : Cls K C) (hn : NoAttr K C f) (hi : τ[i]? = some (some (.res l (ownI C ns xs)))) (hl : lkp ns xs f = some d) : FdQ K f τ (.ali i) d := .inr ⟨i, l, C, ns, xs, rfl, hi, hc, hn, hl⟩
theorem fd_obj {f : Str} {C : Addr} {ns : List Str} {xs : List DD} {d : DD} (hc : Cls K C) (hn : NoAttr K C f) (hl : lkp ns xs f = some d) : FdQ K f τ (.dat (.obj C ns xs)) d := .inl ⟨C, ns, xs, rfl, hc, hn, hl⟩
variable {j : Nat} {u : Tg}
section
variable {t : Tg}
theorem Ok.storeX {c : Cfg} {σ : L2.St} {H0 G H : Hp} {F : Nat → Addr → Prop} {r : Tg} {v : V} (o : Ok c τ σ G H F) (hf : free τ i) (hi : i < τ.length) (hr : Stk r t) (s : Rs c σ H0 G H F r v) (t0 : ∀ a, c.H0 a ≠ none → H0 a ≠ none) :
    ∃ F', Ok c (τ.set i (some t)) (σ.set i (some v)) G H F' ∧ ∀ (j : Nat) (a : Addr), F' j a → F j a ∨ j = i := by
  have hσ : i < σ.length := by rw [o.len]; exact hi
  have gt : ∀ j : Nat, j ≠ i → (τ.set i (some t))[j]? = τ[j]? := fun j h => List.getElem?_set_ne (fun z => h z.symm)
  have gs : ∀ j : Nat, j ≠ i → (σ.set i (some v))[j]? = σ[j]? := fun j h => List.getElem?_set_ne (fun z => h z.symm)
  have gti : (τ.set i (some t))[i]? = some (some t) := by rw [List.getElem?_set_self hi]
  have gsi : (σ.set i (some v))[i]? = some (some v) := by rw [List.getElem?_set_self hσ]
  have npin : ∀ p ∈ c.P, p.1 ≠ i := fun p hp e => by
    obtain ⟨R, q⟩ := (o.pn p hp).2
    rw [e] at q
    exact hf R q
  obtain ⟨A, hA, hA2⟩ : ∃ A : Addr → Prop, (∀ l R, t = .res l R → l = true ∧ R.φ v G H A) ∧ (∀ a, A a → c.H0 a = none ∧ H a ≠ none ∧ G a = none ∧ (∀ i, ¬ F i a) ∧ ∃ R, t = .res true R) := by
    cases hr with
    | dat => exact ⟨fun _ => False, (fun _ _ z => nomatch z), fun _ z => z.elim⟩
    | vol => exact ⟨fun _ => False, (fun _ _ z => nomatch z), fun _ z => z.elim⟩
    | @res R =>
      obtain ⟨h1, A, h2, h3⟩ := s
      refine ⟨A, fun l R' z => ?_, fun a ha => ?_⟩
      · cases z
        exact ⟨rfl, h2⟩
      · obtain ⟨q1, q2, q3, q4⟩ := h3 a ha
        refine ⟨?_, q2, q3, q4, R, rfl⟩
        cases z : c.H0 a with
        | none => rfl
        | some w => exact absurd q1 (t0 a (ne_none z))
  refine ⟨fun j => if j = i then A else F j, ?_, fun j a z => ?_⟩
  rotate_left
  · have z : (if j = i then A else F j) a := z
    by_cases e : j = i
    · exact .inr e
    · rw [if_neg e] at z
      exact .inl z
  constructor
  · exact o.ex
  · exact o.tu
  · exact o.fr
  · rw [List.length_set, List.length_set, o.len]
  · intro j u h
    by_cases e : j = i
    · subst e
      rw [gti] at h
      cases h
      refine ⟨v, gsi, ?_⟩
      cases hr with
      | dat => exact s
      | vol => exact s
      | res => exact True.intro
    · rw [gt j e] at h
      obtain ⟨w, h1, h2⟩ := o.sl j u h
      exact ⟨w, by rw [gs j e]; exact h1, h2⟩
  · intro j l R h
    by_cases e : j = i
    · subst e
      rw [gti] at h
      cases h
      obtain ⟨q1, q2⟩ := hA l R rfl
      refine ⟨v, gsi, ?_⟩
      rw [if_pos rfl]
      exact q2
    · rw [gt j e] at h
      obtain ⟨w, h1, h2⟩ := o.rs j l R h
      refine ⟨w, by rw [gs j e]; exact h1, ?_⟩
      rw [if_neg e]
      exact h2
  · intro j a h
    by_cases e : j = i
    · subst e
      rw [if_pos rfl] at h
      obtain ⟨q1, q2, q3, q4, R, q5⟩ := hA2 a h
      subst q5
      exact ⟨q2, q3, true, R, gti, .inl q1⟩
    · rw [if_neg e] at h
      obtain ⟨q1, q2, l, R, q3, q4⟩ := o.own j a h
      exact ⟨q1, q2, l, R, by rw [gt j e]; exact q3, q4⟩
  · intro j k a hjk h1 h2
    by_cases e : j = i
    · subst e
      rw [if_pos rfl] at h1
      rw [if_neg (Ne.symm hjk)] at h2
      exact (hA2 a h1).2.2.2.1 k h2
    · rw [if_neg e] at h1
      by_cases e2 : k = i
      · subst e2
        rw [if_pos rfl] at h2
        exact (hA2 a h2).2.2.2.1 j h1
      · rw [if_neg e2] at h2
        exact o.dj j k a hjk h1 h2
  · intro p hp
    obtain ⟨h1, R, h2⟩ := o.pn p hp
    exact ⟨by rw [gs _ (npin p hp)]; exact h1, R, by rw [gt _ (npin p hp)]; exact h2⟩
end
/-- a resource within a set -/
def inR (R : Rsc) (B : Addr → Prop) : Rsc where
  φ := fun v G H A => R.φ v G H A ∧ ∀ a, A a → B a
  mono := fun v G H A G' H' h e k => ⟨R.mono v G H A G' H' h.1 e k, h.2⟩
theorem ws_parQ (h : W c ta τ fun x τ1 b1 => W c tb τ1 fun y τ2 b2 => stb x b2 = true ∧ ∃ u v, Stk x u ∧ Stk y v ∧ free τ2 i ∧ free τ2 j ∧ i ≠ j ∧ i < τ2.length ∧ j < τ2.length ∧ D.nx ((τ2.set i (some u)).set j (some v))) : WS c (tPar i j (tCons ta (tCons tb tNil))) τ D := fun σ G H F o De lk =>
  h σ G H F o _ fun x G1 H1 F1 r τ1 b1 p1 g1 s1 => p1 σ G1 H1 F1 g1.ok _ fun y G2 H2 F2 r2 τ2 b2 p2 g2 s2 => by
    obtain ⟨hs, u, v, hu, hv, fi, fj, hij, hi, hj, k⟩ := p2
    have t0 : ∀ a, c.H0 a ≠ none → H a ≠ none := fun a h => o.fr.t a h
    have fin : ∀ (u' : Tg) (F' : Nat → Addr → Prop), Ok c (τ2.set i (some u')) (σ.set i (some x)) G2 H2 F' → (∀ (G H : Hp) (A : Addr → Prop), ∀ R', u' = .res true R' → ∃ R, u = .res true R ∧ ∀ v, R'.φ v G H A → R.φ v G H A) → ((∀ R', u' ≠ .res true R') → u' = u) → (∀ (k : Nat) (a : Addr), F' k a → F2 k a ∨ (k = i ∧ H1 a ≠ none)) → De.nx ((σ.set i (some x)).set j (some y)) H2 := fun u' F' o' e1 e2 e3 => by
      have fij : free (τ2.set i (some u')) j := fun R z => fj R (by rw [List.getElem?_set_ne hij] at z; exact z)
      have s2' : Rs c (σ.set i (some x)) H1 G2 H2 F' r2 y := by
        cases hv with
        | dat => exact s2
        | vol => exact s2
        | res =>
          obtain ⟨q1, A, q2, q3⟩ := s2
          refine ⟨q1, A, q2, fun a ha => ?_⟩
          obtain ⟨m1, m2, m3, m4⟩ := q3 a ha
          refine ⟨m1, m2, m3, fun k z => ?_⟩
          rcases e3 k a z with z | ⟨_, z⟩
          · exact m4 k z
          · exact z m1
      obtain ⟨F3, o3, _⟩ := o'.store fij (by rw [List.length_set]; exact hj) hv s2' fun a z => g1.fr.t a (t0 a z)
      by_cases hr : ∃ R', u' = .res true R'
      · obtain ⟨R', rfl⟩ := hr
        obtain ⟨R, rfl, _⟩ := e1 G2 H2 (fun _ => False) R' rfl
        have gi : ((τ2.set i (some (.res true R'))).set j (some v))[i]? = some (some (.res true R')) := by
          rw [List.getElem?_set_ne (Ne.symm hij), List.getElem?_set_self hi]
        have o4 := o3.chg (R' := R) gi fun w G H A z => by
          obtain ⟨Rx, ex, kx⟩ := e1 G H A R' rfl
          cases ex
          exact kx w z
        have eq : ((τ2.set i (some (.res true R'))).set j (some v)).set i (some (.res true R)) = (τ2.set i (some (.res true R))).set j (some v) := by
          rw [List.set_comm _ _ hij, List.set_set, List.set_comm _ _ (Ne.symm hij)]
        rw [eq] at o4
        exact lk.nx _ _ G2 H2 F3 k o4 (g1.fr.g.trans g2.fr.g)
      · have e := e2 fun R' z => hr ⟨R', z⟩
        subst e
        exact lk.nx _ _ G2 H2 F3 k o3 (g1.fr.g.trans g2.fr.g)
    refine ⟨x, y, rfl, ?_⟩
    have s1' := s1.keep g2 hs
    cases hu with
    | dat =>
      obtain ⟨F', o', hF⟩ := g2.ok.store fi hi (.dat) s1' t0
      exact fin _ F' o' (fun _ _ _ _ z => nomatch z) (fun _ => rfl) fun k a z => .inl (hF .dat k a z)
    | vol =>
      obtain ⟨F', o', hF⟩ := g2.ok.store fi hi (.vol) s1' t0
      exact fin _ F' o' (fun _ _ _ _ z => nomatch z) (fun _ => rfl) fun k a z => .inl (hF .vol k a z)
    | @res R =>
      obtain ⟨_, A, q2, q3⟩ := s1
      have B : Rs c σ H G1 H1 F1 (.res true (inR R fun a => H1 a ≠ none)) x := ⟨rfl, A, ⟨q2, fun a ha => (q3 a ha).2.1⟩, q3⟩
      have B' := B.keep g2 rfl
      obtain ⟨F', o', hF⟩ := g2.ok.storeX (t := .res true (inR R fun a => H1 a ≠ none)) fi hi .res B' t0
      refine fin _ F' o' (fun G H A R' z => by cases z; exact ⟨R, rfl, fun v w => w.1⟩) (fun z => absurd rfl (z _)) fun kk a z => ?_
      rcases hF kk a z with z' | z'
      · exact .inl z'
      · subst z'
        obtain ⟨w, w1, w2⟩ := o'.rs kk true (inR R fun a => H1 a ≠ none) (by rw [List.getElem?_set_self hi])
        exact .inr ⟨rfl, w2.2 a z⟩
theorem w_allQ (h : W c ta τ fun x τ1 b1 => ∃ bs : List Bool, Dv τ1 x (.lst (bs.map .bl)) ∧ Φ (.dat (.bl (bs.all id))) τ1 b1) : W c (tCB (rAll K) (tCons ta tNil)) τ Φ :=
  w_callB (wa_cons (W.imp h fun x τ1 b1 p => wa_nil ⟨stb1 x, by
    obtain ⟨bs, h1, h2⟩ := p
    exact ⟨_, _, .cons h1 .nil, oa_all, by rw [Bool.and_true]; exact h2⟩⟩))
theorem w_anyQ (h : W c ta τ fun x τ1 b1 => ∃ bs : List Bool, Dv τ1 x (.lst (bs.map .bl)) ∧ Φ (.dat (.bl (bs.any id))) τ1 b1) : W c (tCB (rAny K) (tCons ta tNil)) τ Φ :=
  w_callB (wa_cons (W.imp h fun x τ1 b1 p => wa_nil ⟨stb1 x, by
    obtain ⟨bs, h1, h2⟩ := p
    exact ⟨_, _, .cons h1 .nil, oa_any, by rw [Bool.and_true]; exact h2⟩⟩))
theorem w_strQ (h : W c ta τ fun x τ1 b1 => ∃ i : Int, Dv τ1 x (.int i) ∧ i.natAbs.log2 < 1920 ∧ Φ (.dat (.str (toString i))) τ1 b1) : W c (tCB rStrI (tCons ta tNil)) τ Φ :=
  w_callB (wa_cons (W.imp h fun x τ1 b1 p => wa_nil ⟨stb1 x, by
    obtain ⟨bs, h1, h0, h2⟩ := p
    exact ⟨_, _, .cons h1 .nil, oa_str h0, by rw [Bool.and_true]; exact h2⟩⟩))
theorem w_listQ (h : W c ta τ fun x τ1 b1 => ∃ ds, TuQ τ1 x ds ∧ Φ (.res true (ownL ds)) τ1 b1) : W c (tCB (rListOf K) (tCons ta tNil)) τ Φ := fun σ G H F o Q q =>
  h σ G H F o _ fun x G1 H1 F1 rx τ1 b1 p1 g1 s1 => by
    obtain ⟨ds, hd, k⟩ := p1
    have fin : ∀ (vs : List V), RepL G1 ds vs → ∀ l, H1 l = none → Q (.ref l) (upd H1 l (.lst vs)) := fun vs rr l hl => by
      obtain ⟨a, b⟩ := new_own g1 hl rr
      exact q _ _ _ F1 _ τ1 b1 k a b
    have tt : ∀ (p : Addr) (vs : List V), Rd H1 p (.tup vs) → RepL G1 ds vs → rListOf K [.ref p] H1 Q := fun p vs h2 h3 => ⟨p, vs, rfl, .inr (.inl h2), fin vs h3⟩
    cases hd with
    | fre =>
      obtain ⟨p, vs, rfl, h2, h3⟩ := (Dl.fre (τ := τ1)).lst g1.ok s1
      exact ⟨p, vs, rfl, .inl (SqL.of h2), fin vs h3⟩
    | ali hi =>
      obtain ⟨p, vs, rfl, h2, h3⟩ := (Dl.ali hi).lst g1.ok s1
      exact ⟨p, vs, rfl, .inl (SqL.of h2), fin vs h3⟩
    | lst =>
      obtain ⟨p, vs, rfl, h2, h3⟩ := (Dl.dat (τ := τ1)).lst g1.ok s1
      exact ⟨p, vs, rfl, .inl (SqL.of h2), fin vs h3⟩
    | tup =>
      obtain ⟨p, vs, rfl, h2, h3⟩ := s1
      exact tt p vs (rd_mono g1.ok.ex h2) h3
    | tpl =>
      obtain ⟨p, vs, rfl, h2, h3⟩ := tpl_tup s1
      exact tt p vs (rd_mono g1.ok.ex h2) h3
    | vlst hh =>
      obtain ⟨p, vs, rfl, h2, h3⟩ := Dv.rep (τ := τ1) .vol g1.ok s1
      exact ⟨p, vs, rfl, .inl (SqL.of h2), fin vs (hardL_any hh h3)⟩
    | vtup hh =>
      obtain ⟨p, vs, rfl, h2, h3⟩ := Dv.rep (τ := τ1) .vol g1.ok s1
      exact tt p vs h2 (hardL_any hh h3)
    | vtpl hh =>
      obtain ⟨p, vs, rfl, h2, h3⟩ := tpl_tup (Dv.rep (τ := τ1) .vol g1.ok s1)
      exact tt p vs h2 (hardL_any hh h3)
theorem w_catQ (h : W c ta τ fun x τ1 b1 => W c tb τ1 fun y τ2 b2 => stb x b2 = true ∧ ∃ ds es, Dl τ2 x (.lst ds) ∧ Dl τ2 y (.lst es) ∧ ds.length + es.length ≤ 100000 ∧ Φ (.res true (ownL (ds ++ es))) τ2 (b1 && b2)) : W c (tOp rCat ta tb) τ Φ :=
  w_mkL2 (W.imp h fun x τ1 b1 p => W.imp p fun y τ2 b2 p => by
    obtain ⟨h0, ds, es, h1, h2, h3, h4⟩ := p
    exact ⟨h0, _, _, _, h1, h2, mk_cat h3, h4⟩)
theorem w_repQ (h : W c ta τ fun x τ1 b1 => W c tb τ1 fun y τ2 b2 => stb x b2 = true ∧ ∃ (ds : List DD) (n : Int), Dl τ2 x (.lst ds) ∧ y = .dat (.int n) ∧ (-100000 ≤ n ∧ n ≤ 100000 ∧ ds.length * n.toNat ≤ 100000) ∧ Φ (.res true (ownL (List.replicate n.toNat ds).flatten)) τ2 (b1 && b2)) : W c (tOp rRep ta tb) τ Φ :=
  w_mkL2 (W.imp h fun x τ1 b1 p => W.imp p fun y τ2 b2 p => by
    obtain ⟨h0, ds, n, h1, rfl, h3, h4⟩ := p
    exact ⟨h0, _, _, _, h1, .dat, mk_rep h3.1 h3.2.1 h3.2.2, h4⟩)
theorem w_negQ (h : W c ta τ fun x τ1 b1 => ∃ i : Int, x = .dat (.int i) ∧ Φ (.dat (.int (-i))) τ1 b1) : W c (tUn rNegI ta) τ Φ :=
  w_un (W.imp h fun x τ1 b1 p => by
    obtain ⟨i, rfl, k⟩ := p
    exact ⟨_, _, .dat, o1_neg, k⟩)
end
end Z
set_option Elab.async false
set_option linter.all false
/-! P1: the pure interpreter: data, what is one's own, and what each piece of code does. -/
namespace Z
open PySem (Str)
inductive D where
  | non
  | bl (b : Bool)
  | int (i : Int)
  | str (s : Str)
  | ty (n : String)
  | tup (xs : List D)
  | tpl (xs : List D)
  | lst (xs : List D)
  | obj (c : String) (ns : List String) (xs : List D)
  | scr (ns : List Int)
deriving Inhabited, Repr
/-- what is one's own -/
inductive Ow where
  | lst (ds : List D)
  | ins (c : String) (ns : List String) (xs : List D)
deriving Inhabited, Repr
inductive Vt where
  | dat (d : D)
  | vol (d : D)
  | tmp (d : D)
  | own (l : Bool) (o : Ow)
  | ali (i : Nat)
deriving Inhabited, Repr
abbrev Ls := List (Option Vt)
/-- outcomes -/
inductive Eo where
  | v (r : Vt) (τ : Ls) (b : Bool)
  | no
deriving Inhabited, Repr
inductive Ao where
  | v (r : List Vt) (τ : Ls) (b : Bool)
  | no
inductive To where
  | v (r : Bool) (τ : Ls) (b : Bool)
  | no
inductive Oo where
  | v (r : Option Int) (τ : Ls) (b : Bool)
  | no
inductive Jo where
  | v (r : Str) (τ : Ls) (b : Bool)
  | no
inductive So where
  | nx (τ : Ls)
  | rt (r : Vt) (τ : Ls)
  | bk (τ : Ls)
  | ct (τ : Ls)
  | no
deriving Inhabited, Repr
inductive Fo where
  | v (r : Vt) (as : List Vt)
  | no
deriving Inhabited, Repr
inductive It1 where
  | one (t : Vt)
  | two (t u : Vt)
inductive Io where
  | v (r : List It1) (τ : Ls) (b : Bool)
  | no
abbrev ME := Ls → Eo
abbrev MA := Ls → Ao
abbrev MT := Ls → To
abbrev MO := Ls → Oo
abbrev MS := Ls → So
abbrev MI := Ls → Io
abbrev MG := Vt → Ls → Option Ls
abbrev MGI := It1 → Ls → Option Ls
abbrev Sem := List Vt → Fo
/-! ### reading values -/
def scalD : D → Bool
  | .non => true
  | .bl _ => true
  | .int _ => true
  | .str _ => true
  | .ty _ => true
  | _ => false
def hardD (ds : List D) : Bool := ds.all scalD
/-- as data of the heap at hand -/
def see (τ : Ls) : Vt → Option D
  | .dat d => some d
  | .vol d => some d
  | .tmp d => some d
  | .own true (.lst ds) => some (.lst ds)
  | .own _ _ => none
  | .ali i => match τ[i]? with
    | some (some (.own _ (.lst ds))) => some (.lst ds)
    | _ => none
/-- a list whose items are persistent -/
def dlst (τ : Ls) : Vt → Option (List D)
  | .dat (.lst ds) => some ds
  | .own true (.lst ds) => some ds
  | .ali i => match τ[i]? with
    | some (some (.own _ (.lst ds))) => some ds
    | _ => none
  | _ => none
/-- items that may be taken over as persistent data -/
def its (τ : Ls) : Vt → Option (List D)
  | .dat (.lst ds) => some ds
  | .dat (.tup ds) => some ds
  | .dat (.tpl ds) => some ds
  | .own true (.lst ds) => some ds
  | .ali i => match τ[i]? with
    | some (some (.own _ (.lst ds))) => some ds
    | _ => none
  | .vol (.lst ds) => if hardD ds = true then some ds else none
  | .vol (.tup ds) => if hardD ds = true then some ds else none
  | .vol (.tpl ds) => if hardD ds = true then some ds else none
  | _ => none
def stbV : Vt → Bool → Bool
  | .tmp _, b => b
  | _, _ => true
/-! ### equality -/
mutual
def niceD : Nat → D → Bool
  | _, .non => true
  | _, .bl _ => true
  | _, .int _ => true
  | _, .str s => s.cps.all (· < 0x110000)
  | n + 1, .tup xs => niceDL n xs
  | n + 1, .tpl xs => niceDL n xs
  | n + 1, .lst xs => niceDL n xs
  | _, _ => false
def niceDL : Nat → List D → Bool
  | _, [] => true
  | n, x :: xs => niceD n x && niceDL n xs
end
mutual
def eqD : D → D → Bool
  | .non, .non => true
  | .bl a, .bl b => a == b
  | .bl a, .int j => (if a then 1 else 0) == j
  | .int i, .bl b => i == (if b then 1 else 0)
  | .int i, .int j => i == j
  | .str x, .str y => x == y
  | .lst xs, .lst ys => eqDL xs ys
  | .tup xs, .tup ys => eqDL xs ys
  | .tup xs, .tpl ys => eqDL xs ys
  | .tpl xs, .tup ys => eqDL xs ys
  | .tpl xs, .tpl ys => eqDL xs ys
  | _, _ => false
def eqDL : List D → List D → Bool
  | [], [] => true
  | x :: xs, y :: ys => eqD x y && eqDL xs ys
  | _, _ => false
end
def nice60 (d : D) : Bool := niceD 60 d
/-! ### operators on data -/
def gAdd : D → D → Option D
  | .int i, .int j => some (.int (i + j))
  | _, _ => none
def gSubI : D → D → Option D
  | .int i, .int j => some (.int (i - j))
  | _, _ => none
def gMul : D → D → Option D
  | .int i, .int j => if (-(2 ^ 64) < j ∧ j < 2 ^ 64) ∨ (-(2 ^ 64) < i ∧ i < 2 ^ 64) then some (.int (i * j)) else none
  | _, _ => none
def gMod : D → D → Option D
  | .int i, .int j => if 0 < j then some (.int (i % j)) else none
  | _, _ => none
def gDiv : D → D → Option D
  | .int i, .int j => if 0 < j ∧ j < 2 ^ 64 then some (.int (i / j)) else none
  | _, _ => none
def gPow : D → D → Option D
  | .int i, .int j => if 0 ≤ j ∧ j ≤ 1000000 ∧ i.natAbs < 2 ^ 64 then some (.int (i ^ j.toNat)) else none
  | _, _ => none
def gLt : D → D → Option D
  | .int i, .int j => some (.bl (decide (i < j)))
  | _, _ => none
def gLe : D → D → Option D
  | .int i, .int j => some (.bl (decide (i ≤ j)))
  | _, _ => none
def gGt : D → D → Option D
  | .int i, .int j => some (.bl (decide (j < i)))
  | _, _ => none
def gGe : D → D → Option D
  | .int i, .int j => some (.bl (decide (j ≤ i)))
  | _, _ => none
def gEq : D → D → Option D
  | .int i, .int j => some (.bl (decide (i = j)))
  | d, e => if nice60 d && nice60 e then some (.bl (eqD d e)) else none
def gNe : D → D → Option D
  | .int i, .int j => some (.bl (!decide (i = j)))
  | d, e => if nice60 d && nice60 e then some (.bl (!eqD d e)) else none
def gIn : D → D → Option D
  | d, .lst es => if nice60 d && nice60 (.lst es) then some (.bl (es.any fun z => eqD z d)) else none
  | _, _ => none
def gNotIn : D → D → Option D
  | d, .lst es => if nice60 d && nice60 (.lst es) then some (.bl (!es.any fun z => eqD z d)) else none
  | _, _ => none
def isNon : D → Option Bool
  | .non => some true
  | .scr _ => none
  | _ => some false
def gIs : D → D → Option D
  | d, .non => (isNon d).map .bl
  | _, _ => none
def gIsNot : D → D → Option D
  | d, .non => (isNon d).map fun k => .bl (!k)
  | _, _ => none
def gAddS : D → D → Option D
  | .str a, .str b => if a.length + b.length ≤ 100000 then some (.str (a ++ b)) else none
  | _, _ => none
def opV (g : D → D → Option D) (τ : Ls) (x y : Vt) : Option Vt :=
  match see τ x with
  | none => none
  | some d => match see τ y with
    | none => none
    | some e => match g d e with
      | none => none
      | some f => some (.dat f)
/-- the place of an item -/
def ixD (n : Nat) (i : Int) : Option Nat := if 0 ≤ i then (if i < n then some i.toNat else none) else if -(n : Int) ≤ i then some (i + n).toNat else none
def atD (xs : List D) (i : Int) : Option D := match ixD xs.length i with
  | none => none
  | some k => xs[k]?
def seenV (f : D → Vt) (d : D) : Vt := if scalD d = true then .dat d else f d
def fIx (τ : Ls) : Vt → Vt → Option Vt
  | .dat (.lst ds), .dat (.int n) => (atD ds n).map .dat
  | .dat (.tup ds), .dat (.int n) => (atD ds n).map .dat
  | .dat (.tpl ds), .dat (.int n) => (atD ds n).map .dat
  | .ali i, .dat (.int n) => match τ[i]? with
    | some (some (.own _ (.lst ds))) => (atD ds n).map .dat
    | _ => none
  | .own true (.lst ds), .dat (.int n) => (atD ds n).map .dat
  | .vol (.lst ds), .dat (.int n) => (atD ds n).map (seenV .vol)
  | .vol (.tup ds), .dat (.int n) => (atD ds n).map (seenV .vol)
  | .vol (.tpl ds), .dat (.int n) => match atD ds n with
    | none => none
    | some d => if scalD d = true then some (.dat d) else none
  | _, _ => none
def fCat (τ : Ls) (x y : Vt) : Option Vt :=
  match dlst τ x, dlst τ y with
  | some ds, some es => if ds.length + es.length ≤ 100000 then some (.own true (.lst (ds ++ es))) else none
  | _, _ => none
def fRep (τ : Ls) (x y : Vt) : Option Vt :=
  match dlst τ x, y with
  | some ds, .dat (.int n) => if -100000 ≤ n ∧ n ≤ 100000 ∧ ds.length * n.toNat ≤ 100000 then some (.own true (.lst (List.replicate n.toNat ds).flatten)) else none
  | _, _ => none
def dtup : Vt → Option (List D)
  | .dat (.tup ds) => some ds
  | .dat (.tpl ds) => some ds
  | _ => none
def fCatT (τ : Ls) (x y : Vt) : Option Vt :=
  match dtup x, dtup y with
  | some ds, some es => if ds.length + es.length ≤ 100000 then some (.dat (.tup (ds ++ es))) else none
  | _, _ => none
/-! ### expressions -/
def mVar (i : Nat) : ME := fun τ => match τ[i]? with
  | some (some (.dat d)) => .v (.dat d) τ true
  | some (some (.vol d)) => .v (.vol d) τ true
  | some (some (.own l o)) => .v (.ali i) τ true
  | _ => .no
def mC (d : D) : ME := fun τ => .v (.dat d) τ true
def mU (g : Ls → Vt → Option Vt) (a : ME) : ME := fun τ => match a τ with
  | .no => .no
  | .v x τ1 b1 => match g τ1 x with
    | none => .no
    | some r => .v r τ1 b1
def mB (g : Ls → Vt → Vt → Option Vt) (a b : ME) : ME := fun τ => match a τ with
  | .no => .no
  | .v x τ1 b1 => match b τ1 with
    | .no => .no
    | .v y τ2 b2 => if stbV x b2 = true then match g τ2 x y with
        | none => .no
        | some r => .v r τ2 (b1 && b2)
      else .no
/-- a new list in flight, frozen -/
def mFz (a : ME) : ME := fun τ => match a τ with
  | .v (.own true (.lst ds)) τ1 b1 => .v (.dat (.lst ds)) τ1 b1
  | o => o
/-- one's own list at a slot, frozen from here on -/
def mFrz (i : Nat) (a : ME) : ME := fun τ => match τ[i]? with
  | some (some (.own true (.lst ds))) => match a (τ.set i (some (.dat (.lst ds)))) with
    | .v r τ1 _ => .v r τ1 false
    | .no => .no
  | _ => a τ
def mAndV (a b : ME) : ME := fun τ => match a τ with
  | .v (.dat (.bl k)) τ1 b1 => if k = true then match b τ1 with
      | .v r τ2 b2 => .v r τ2 (b1 && b2)
      | .no => .no
    else .v (.dat (.bl false)) τ1 b1
  | _ => .no
def mOrV (a b : ME) : ME := fun τ => match a τ with
  | .v (.dat (.bl k)) τ1 b1 => if k = true then .v (.dat (.bl true)) τ1 b1 else match b τ1 with
      | .v r τ2 b2 => .v r τ2 (b1 && b2)
      | .no => .no
  | _ => .no
def mNotV (a : ME) : ME := fun τ => match a τ with
  | .v (.dat (.bl k)) τ1 b1 => .v (.dat (.bl (!k))) τ1 b1
  | _ => .no
def mIf (t : MT) (a b : ME) : ME := fun τ => match t τ with
  | .v k τ1 b1 => match (if k = true then a else b) τ1 with
    | .v r τ2 b2 => .v r τ2 (b1 && b2)
    | .no => .no
  | .no => .no
def mChain (g h : D → D → Option D) (a b c : ME) : ME := fun τ => match a τ with
  | .no => .no
  | .v x τ1 b1 => match b τ1 with
    | .no => .no
    | .v y τ2 b2 => if stbV x b2 = true then match see τ2 x, see τ2 y with
      | some d, some e => match g d e with
        | some (.bl k) => if k = true then match c τ2 with
            | .no => .no
            | .v z τ3 b3 => if stbV y b3 = true then match see τ3 y, see τ3 z with
              | some e', some f => match h e' f with
                | some r => .v (.dat r) τ3 (b1 && b2 && b3)
                | none => .no
              | _, _ => .no
              else .no
          else .v (.dat (.bl false)) τ2 (b1 && b2)
        | _ => .no
      | _, _ => .no
      else .no
/-! argument lists -/
def mNil : MA := fun τ => .v [] τ true
def mCons (a : ME) (t : MA) : MA := fun τ => match a τ with
  | .no => .no
  | .v x τ1 b1 => match t τ1 with
    | .no => .no
    | .v xs τ2 b2 => if stbV x b2 = true then .v (x :: xs) τ2 (b1 && b2) else .no
def allDat : List Vt → Option (List D)
  | [] => some []
  | .dat d :: xs => match allDat xs with
    | some ds => some (d :: ds)
    | none => none
  | _ => none
def allSee (τ : Ls) : List Vt → Option (List D)
  | [] => some []
  | x :: xs => match see τ x with
    | none => none
    | some d => match allSee τ xs with
      | some ds => some (d :: ds)
      | none => none
def mTup (t : MA) : ME := fun τ => match t τ with
  | .no => .no
  | .v xs τ1 b1 => match allDat xs with
    | some ds => if ds.length ≤ 100000 then .v (.dat (.tup ds)) τ1 b1 else .no
    | none => match allSee τ1 xs with
      | some ds => if ds.length ≤ 100000 then .v (.tmp (.tup ds)) τ1 b1 else .no
      | none => .no
def mLst (t : MA) : ME := fun τ => match t τ with
  | .no => .no
  | .v xs τ1 b1 => match allDat xs with
    | some ds => if ds.length ≤ 100000 then .v (.own true (.lst ds)) τ1 b1 else .no
    | none => match allSee τ1 xs with
      | some ds => if ds.length ≤ 100000 then .v (.tmp (.lst ds)) τ1 b1 else .no
      | none => .no
/-- a built-in of seen things -/
def mCB (g : List D → Option D) (t : MA) : ME := fun τ => match t τ with
  | .no => .no
  | .v xs τ1 b1 => match allSee τ1 xs with
    | none => .no
    | some ds => match g ds with
      | some d => .v (.dat d) τ1 b1
      | none => .no
def gLen : List D → Option D
  | [.lst ds] => some (.int ds.length)
  | [.tup ds] => some (.int ds.length)
  | [.tpl ds] => some (.int ds.length)
  | _ => none
def gLenS : List D → Option D
  | [.str z] => if z.length ≤ 100000 then some (.int z.length) else none
  | _ => none
def bls : List D → Option (List Bool)
  | [] => some []
  | .bl b :: xs => match bls xs with
    | some bs => some (b :: bs)
    | none => none
  | _ => none
def intsD : List D → Option (List Int)
  | [] => some []
  | .int b :: xs => match intsD xs with
    | some bs => some (b :: bs)
    | none => none
  | _ => none
def strsD : List D → Option (List Str)
  | [] => some []
  | .str b :: xs => match strsD xs with
    | some bs => some (b :: bs)
    | none => none
  | _ => none
def gAll : List D → Option D
  | [.lst xs] => match bls xs with
    | some bs => some (.bl (bs.all id))
    | none => none
  | _ => none
def gAny : List D → Option D
  | [.lst xs] => match bls xs with
    | some bs => some (.bl (bs.any id))
    | none => none
  | _ => none
def gSum : List D → Option D
  | [.lst xs] => match intsD xs with
    | some bs => some (.int bs.sum)
    | none => none
  | _ => none
def gStrI : List D → Option D
  | [.int i] => if -(10 ^ 500) < i ∧ i < 10 ^ 500 then some (.str (Str.ofString (toString i))) else none
  | _ => none
def gIntB : List D → Option D
  | [.int i] => some (.int i)
  | [.bl k] => some (.int (if k then 1 else 0))
  | _ => none
def gMin2 : List D → Option D
  | [.int i, .int j] => some (.int (if j < i then j else i))
  | _ => none
def gMax2 : List D → Option D
  | [.int i, .int j] => some (.int (if j > i then j else i))
  | _ => none
/-- isinstance of a built-in class -/
def isi1 : D → String → Option Bool
  | .non, n => if n = "list" ∨ n = "tuple" ∨ n = "int" ∨ n = "bool" ∨ n = "str" then some false else none
  | .bl _, n => if n = "bool" ∨ n = "int" then some true else if n = "list" ∨ n = "tuple" ∨ n = "str" then some false else none
  | .int _, n => if n = "int" then some true else if n = "list" ∨ n = "tuple" ∨ n = "bool" ∨ n = "str" then some false else none
  | .str _, n => if n = "str" then some true else if n = "list" ∨ n = "tuple" ∨ n = "bool" ∨ n = "int" then some false else none
  | .tup _, n => if n = "tuple" then some true else if n = "list" ∨ n = "str" ∨ n = "bool" ∨ n = "int" then some false else none
  | .tpl _, n => if n = "tuple" then some true else if n = "list" ∨ n = "str" ∨ n = "bool" ∨ n = "int" then some false else none
  | .lst _, n => if n = "list" then some true else if n = "tuple" ∨ n = "str" ∨ n = "bool" ∨ n = "int" then some false else none
  | _, _ => none
def gIsi : List D → Option D
  | [d, .ty n] => match isi1 d n with
    | some k => some (.bl k)
    | none => none
  | _ => none
def mIsi2 (a b : String) (e : ME) : ME := fun τ => match e τ with
  | .no => .no
  | .v x τ1 b1 => match see τ1 x with
    | none => .no
    | some d => match isi1 d a, isi1 d b with
      | some k, some k' => .v (.dat (.bl (k || k'))) τ1 b1
      | _, _ => .no
def mIsiO (c0 : String) (e : ME) : ME := fun τ => match e τ with
  | .v (.dat (.obj c ns xs)) τ1 b1 => if c = c0 then .v (.dat (.bl true)) τ1 b1 else .no
  | .v (.dat (.tup xs)) τ1 b1 => .v (.dat (.bl false)) τ1 b1
  | .v (.dat (.tpl xs)) τ1 b1 => .v (.dat (.bl false)) τ1 b1
  | _ => .no
def fList (τ : Ls) (x : Vt) : Option Vt := (its τ x).map fun ds => .own true (.lst ds)
/-- tuple(x): of a list in flight the new object is known -/
def fTup (τ : Ls) : Vt → Option Vt
  | .own true (.lst ds) => some (.dat (.tpl ds))
  | .dat (.lst ds) => some (.dat (.tpl ds))
  | .ali i => match τ[i]? with
    | some (some (.own _ (.lst ds))) => some (.dat (.tpl ds))
    | _ => none
  | .vol (.lst ds) => if hardD ds = true then some (.dat (.tpl ds)) else none
  | x => (its τ x).map fun ds => .dat (.tup ds)
def fListRg (τ : Ls) : Vt → Option Vt
  | .dat (.int n) => if 0 ≤ n ∧ n ≤ 100000 then some (.own true (.lst ((List.range n.toNat).map fun k => .int (k : Nat)))) else none
  | _ => none
def fNeg (τ : Ls) : Vt → Option Vt
  | .dat (.int n) => some (.dat (.int (-n)))
  | _ => none
def lkpD : List String → List D → String → Option D
  | n :: ns, d :: ds, f => if f = n then some d else lkpD ns ds f
  | _, _, _ => none
def fFld (c0 f : String) (τ : Ls) : Vt → Option Vt
  | .dat (.obj c ns xs) => if c = c0 then (lkpD ns xs f).map .dat else none
  | .ali i => match τ[i]? with
    | some (some (.own _ (.ins c ns xs))) => if c = c0 then (lkpD ns xs f).map .dat else none
    | _ => none
  | _ => none
/-! slices -/
def mNoPart : MO := fun τ => .v none τ true
def mPart (e : ME) : MO := fun τ => match e τ with
  | .v (.dat (.int n)) τ1 b1 => .v (some n) τ1 b1
  | _ => .no
def sIxD (n d : Nat) : Option Int → Nat
  | none => d
  | some i => if i < 0 then (i + (n : Int)).toNat else min i.toNat n
def cutP (xs : List D) (lo hi : Option Int) : List D := (xs.drop (sIxD xs.length 0 lo)).take (sIxD xs.length xs.length hi - sIxD xs.length 0 lo)
def fSl (tup : Bool) (τ : Ls) (x : Vt) (lo hi : Option Int) : Option Vt :=
  if tup = true then (dtup x).map fun ds => .dat (.tup (cutP ds lo hi))
  else match x with
    | .dat (.scr ns) => some (.own true (.lst (cutP (ns.map .int) lo hi)))
    | _ => match dlst τ x with
      | some ds => some (.own true (.lst (cutP ds lo hi)))
      | none => match see τ x with
        | some (.lst ds) => if hardD ds = true then some (.own true (.lst (cutP ds lo hi))) else none
        | _ => none
def mSl (tup : Bool) (a : ME) (l h : MO) : ME := fun τ => match a τ with
  | .no => .no
  | .v x τ1 b1 => match l τ1 with
    | .no => .no
    | .v lo τ2 b2 => match h τ2 with
      | .no => .no
      | .v hi τ3 b3 => if stbV x b2 = true ∧ stbV x b3 = true then match fSl tup τ3 x lo hi with
          | some r => .v r τ3 (b1 && b2 && b3)
          | none => .no
        else .no
/-! texts -/
def mFmt (e : ME) : ME := fun τ => match e τ with
  | .v (.dat (.int i)) τ1 b1 => if -(10 ^ 500) < i ∧ i < 10 ^ 500 then .v (.dat (.str (Str.ofString (toString i)))) τ1 b1 else .no
  | .v (.dat (.str y)) τ1 b1 => if y.length ≤ 100000 then .v (.dat (.str y)) τ1 b1 else .no
  | _ => .no
def mJs : List ME → Str → Ls → Jo
  | [], acc, τ => .v acc τ true
  | e :: es, acc, τ => match e τ with
    | .v (.dat (.str y)) τ1 b1 => if (acc ++ y).length ≤ 100000 then match mJs es (acc ++ y) τ1 with
        | .v r τ2 b2 => .v r τ2 (b1 && b2)
        | .no => .no
      else .no
    | _ => .no
def mJoined (es : List ME) : ME := fun τ => match mJs es Str.empty τ with
  | .v r τ1 b1 => .v (.dat (.str r)) τ1 b1
  | .no => .no
/-- x.count(y), x a tuple whose object is known -/
def fCount (τ : Ls) : Vt → Vt → Option Vt
  | .dat (.tpl ds), .dat d => if nice60 (.tpl ds) && nice60 d then some (.dat (.int ((ds.countP fun z => eqD z d : Nat) : Int))) else none
  | _, _ => none
/-- x.pop() -/
def mPop (i : Nat) : ME := fun τ => match τ[i]? with
  | some (some (.own l (.lst ds))) => match ds[ds.length - 1]? with
    | some d => .v (.dat d) (τ.set i (some (.own l (.lst ds.dropLast)))) false
    | none => .no
  | _ => .no
def mPopAt (i : Nat) (e : ME) : ME := fun τ => match τ[i]? with
  | some (some (.own l0 (.lst _))) => match e τ with
    | .v (.dat (.int n)) τ1 _ => if 0 ≤ n ∧ n < 100000 then match τ1[i]? with
        | some (some (.own l (.lst ds))) => if l = l0 then match ds[n.toNat]? with
            | some d => .v (.dat d) (τ1.set i (some (.own l (.lst (ds.eraseIdx n.toNat))))) false
            | none => .no
          else .no
        | _ => .no
      else .no
    | _ => .no
  | _ => .no
/-! ### calls -/
def demV : Vt → Vt
  | .vol d => if scalD d = true then .dat d else .tmp d
  | .tmp d => if scalD d = true then .dat d else .tmp d
  | t => t
def argV (τ : Ls) : Vt → Option Vt
  | .dat d => some (.dat d)
  | x => match see τ x with
    | none => none
    | some d => if scalD d = true then some (.dat d) else some (.vol d)
def argsV (τ : Ls) : List Vt → Option (List Vt)
  | [] => some []
  | x :: xs => match argV τ x with
    | none => none
    | some a => match argsV τ xs with
      | none => none
      | some as => some (a :: as)
def neAli (j : Nat) : Vt → Bool
  | .ali i => i != j
  | .tmp d => scalD d
  | _ => true
def plainV : Vt → Bool
  | .dat _ => true
  | .vol _ => true
  | .own l _ => !l
  | _ => false
def callF (ow : Bool) (S : Sem) (τ : Ls) (rs : List Vt) (b : Bool) : Eo :=
  if ow = true then match rs with
    | .ali j :: rest => match τ[j]? with
      | some (some (.own l o)) => if rest.all (neAli j) = true then match argsV τ rest with
          | some as => match S (.own false o :: as) with
            | .v r (.own _ o' :: _) => .v (demV r) (τ.set j (some (.own l o'))) false
            | _ => .no
          | none => .no
        else .no
      | _ => .no
    | _ => .no
  else match argsV τ rs with
    | some as => match S as with
      | .v r _ => .v (demV r) τ b
      | .no => .no
    | none => .no
def mCall (ow : Bool) (S : Sem) (t : MA) : ME := fun τ => match t τ with
  | .no => .no
  | .v rs τ1 b1 => callF ow S τ1 rs b1
def isInst (c0 m : String) (τ : Ls) : Vt → Bool
  | .dat (.obj c ns xs) => c == c0 && !ns.contains m
  | .ali i => match τ[i]? with
    | some (some (.own _ (.ins c ns xs))) => c == c0 && !ns.contains m
    | _ => false
  | _ => false
def mMeth (c0 m : String) (ow : Bool) (S : Sem) (a : ME) (t : MA) : ME := fun τ => match a τ with
  | .no => .no
  | .v x τ0 b0 => if isInst c0 m τ0 x = true then match t τ0 with
      | .no => .no
      | .v rs τ1 b1 => if stbV x b1 = true then callF ow S τ1 (x :: rs) (b0 && b1) else .no
    else .no
def mMake (c0 : String) (S : Sem) (t : MA) : ME := fun τ => match t τ with
  | .no => .no
  | .v rs τ1 b1 => match argsV τ1 rs with
    | none => .no
    | some as => match S (.own false (.ins c0 [] []) :: as) with
      | .v (.dat .non) (.own _ (.ins c ns xs) :: _) => if c = c0 then .v (.dat (.obj c ns xs)) τ1 b1 else .no
      | _ => .no
def untpl : D → D
  | .tpl xs => .tup xs
  | d => d
def eqKind (c0 : String) : D → Bool
  | .obj c' _ _ => c' == c0
  | .tup _ => true
  | .tpl _ => true
  | _ => false
/-- own ==, !=, len, repr -/
def mOwnEq (neg : Bool) (c0 : String) (S : Sem) (a b : ME) : ME := fun τ => match a τ with
  | .v (.dat (.obj c ns xs)) τ1 b1 => match b τ1 with
    | .v (.dat e) τ2 b2 => if c = c0 ∧ eqKind c0 e = true then
        match S [.dat (.obj c ns xs), .dat (untpl e)] with
          | .v (.dat (.bl k)) _ => .v (.dat (.bl (if neg = true then !k else k))) τ2 (b1 && b2)
          | _ => .no
      else .no
    | _ => .no
  | _ => .no
def mOwnLen (c0 : String) (S : Sem) (a : ME) : ME := fun τ => match a τ with
  | .v (.dat (.obj c ns xs)) τ1 b1 => if c = c0 then match S [.dat (.obj c ns xs)] with
      | .v (.dat (.int k)) _ => if 0 ≤ k ∧ k ≤ 1000000 then .v (.dat (.int k)) τ1 b1 else .no
      | _ => .no
    else .no
  | _ => .no
def mOwnRepr (c0 : String) (S : Sem) (a : ME) : ME := fun τ => match a τ with
  | .v (.dat (.obj c ns xs)) τ1 b1 => if c = c0 then match S [.dat (.obj c ns xs)] with
      | .v (.dat (.str k)) _ => .v (.dat (.str k)) τ1 b1
      | _ => .no
    else .no
  | _ => .no
/-! ### tests -/
def mB' (e : ME) : MT := fun τ => match e τ with
  | .v (.dat (.bl k)) τ1 b1 => .v k τ1 b1
  | _ => .no
def mYes : MT := fun τ => .v true τ true
def mAnd (a b : MT) : MT := fun τ => match a τ with
  | .no => .no
  | .v k τ1 b1 => if k = true then match b τ1 with
      | .v k2 τ2 b2 => .v k2 τ2 (b1 && b2)
      | .no => .no
    else .v false τ1 b1
def mOr (a b : MT) : MT := fun τ => match a τ with
  | .no => .no
  | .v k τ1 b1 => if k = true then .v true τ1 b1 else match b τ1 with
      | .v k2 τ2 b2 => .v k2 τ2 (b1 && b2)
      | .no => .no
def mNot (a : MT) : MT := fun τ => match a τ with
  | .no => .no
  | .v k τ1 b1 => .v (!k) τ1 b1
/-! ### what is walked -/
def rngD (lo : Int) (n : Nat) : List It1 := (List.range n).map fun k => .one (.dat (.int (lo + (k : Nat))))
def dwnD (lo : Int) (n : Nat) : List It1 := (List.range n).map fun k => .one (.dat (.int (lo + (k : Nat) * (-1))))
def mRng1 (t : MA) : MI := fun τ => match t τ with
  | .v [.dat (.int n)] τ1 b1 => if -1000000 ≤ n ∧ n ≤ 1000000 then .v (rngD 0 n.toNat) τ1 b1 else .no
  | _ => .no
def mRng2 (t : MA) : MI := fun τ => match t τ with
  | .v [.dat (.int m), .dat (.int n)] τ1 b1 => if -1000000 ≤ m ∧ m ≤ 1000000 ∧ -1000000 ≤ n ∧ n ≤ 1000000 then .v (rngD m (n - m).toNat) τ1 b1 else .no
  | _ => .no
def mRng3 (t : MA) : MI := fun τ => match t τ with
  | .v [.dat (.int m), .dat (.int n), .dat (.int k)] τ1 b1 => if k = -1 ∧ -1000000 ≤ m ∧ m ≤ 1000000 ∧ -1000000 ≤ n ∧ n ≤ 1000000 then .v (dwnD m (m - n).toNat) τ1 b1 else .no
  | _ => .no
/-- its items, and how they are held -/
def srcV : Vt → Option (List Vt)
  | .dat (.lst ds) => some (ds.map .dat)
  | .dat (.tup ds) => some (ds.map .dat)
  | .dat (.tpl ds) => some (ds.map .dat)
  | .vol (.lst ds) => some (ds.map .vol)
  | .vol (.tup ds) => some (ds.map .vol)
  | .vol (.tpl ds) => some (ds.map .vol)
  | _ => none
def isLst : Vt → Bool
  | .dat (.lst _) => true
  | .vol (.lst _) => true
  | _ => false
def mSeqI (e : ME) : MI := fun τ => match e τ with
  | .no => .no
  | .v x τ1 b1 => match srcV x with
    | some ts => .v (ts.map .one) τ1 b1
    | none => .no
def enumD : Nat → List Vt → List It1
  | _, [] => []
  | k, x :: xs => .two (.dat (.int (k : Nat))) x :: enumD (k + 1) xs
def enOk : Vt → Bool
  | .dat _ => true
  | .vol (.lst _) => true
  | _ => false
def mEnum (t : MA) : MI := fun τ => match t τ with
  | .v [x] τ1 b1 => if enOk x = true then match srcV x with
      | some ts => .v (enumD 0 ts) τ1 b1
      | none => .no
    else .no
  | _ => .no
def mZip (t : MA) : MI := fun τ => match t τ with
  | .v [x, y] τ1 b1 => if isLst x = isLst y then match srcV x, srcV y with
      | some ts, some us => .v (List.zipWith .two ts us) τ1 b1
      | _, _ => .no
    else .no
  | _ => .no
/-! ### targets -/
def nrV : Option Vt → Bool
  | some (.own false _) => false
  | _ => true
def stkV : Vt → Option Vt
  | .dat d => some (.dat d)
  | .vol d => some (seenV .vol d)
  | .own true o => some (.own true o)
  | _ => none
def stName (i : Nat) : MG := fun x τ => match stkV x with
  | some t => match τ[i]? with
    | some u => if nrV u = true then some (τ.set i (some t)) else none
    | none => none
  | none => none
def plV : Vt → Bool
  | .dat _ => true
  | .vol _ => true
  | _ => false
/-- a name, or two names -/
def sgName (i : Nat) : MGI
  | .one t, τ => if plV t = true then stName i t τ else none
  | _, _ => none
def stTup2 (g h : MG) : MG := fun x τ => match x with
  | .dat (.tup [d, e]) => match g (.dat d) τ with
    | some τ1 => h (.dat e) τ1
    | none => none
  | .dat (.tpl [d, e]) => match g (.dat d) τ with
    | some τ1 => h (.dat e) τ1
    | none => none
  | _ => none
def sgTup2 (g h : MG) : MGI
  | .one t, τ => stTup2 g h t τ
  | .two t u, τ => if plV t && plV u then match g t τ with
      | some τ1 => h u τ1
      | none => none
    else none
/-! ### statements -/
def mRet (e : ME) : MS := fun τ => match e τ with
  | .no => .no
  | .v r τ1 _ => match r with
    | .own false _ => .no
    | .ali i => match τ1[i]? with
      | some (some (.own true o)) => .rt (.own true o) τ1
      | _ => .no
    | _ => .rt r τ1
def mRetN : MS := fun τ => .rt (.dat .non) τ
def mNext : MS := fun τ => .nx τ
def mBrk : MS := fun τ => .bk τ
def mCont : MS := fun τ => .ct τ
def mNever : MS := fun _ => .no
def mSeq (a b : MS) : MS := fun τ => match a τ with
  | .nx τ1 => b τ1
  | o => o
def mIfS (t : MT) (a b : MS) : MS := fun τ => match t τ with
  | .v k τ1 _ => (if k = true then a else b) τ1
  | .no => .no
def mDrop (e : ME) : MS := fun τ => match e τ with
  | .v _ τ1 _ => .nx τ1
  | .no => .no
def mAsg (e : ME) (g : MG) : MS := fun τ => match e τ with
  | .no => .no
  | .v x τ1 _ => match g x τ1 with
    | some τ2 => .nx τ2
    | none => .no
def mPar (i j : Nat) (a b : ME) : MS := fun τ => match a τ with
  | .no => .no
  | .v x τ1 b1 => match b τ1 with
    | .no => .no
    | .v y τ2 b2 => if stbV x b2 = true ∧ i ≠ j then match stkV x, stkV y with
        | some t, some u => match τ2[i]?, τ2[j]? with
          | some p, some q => if nrV p && nrV q then .nx ((τ2.set i (some t)).set j (some u)) else .no
          | _, _ => .no
        | _, _ => .no
      else .no
def mAug (f : Int → Int → Int) (i : Nat) (e : ME) : MS := fun τ => match τ[i]? with
  | some (some (.dat (.int a))) => match e τ with
    | .v (.dat (.int b)) τ2 _ => match τ2[i]? with
      | some u => if nrV u = true then .nx (τ2.set i (some (.dat (.int (f a b))))) else .no
      | none => .no
    | _ => .no
  | _ => .no
def mAugI (f : Int → Int → Int) (i n : Nat) (e : ME) : MS := fun τ => match τ[i]? with
  | some (some (.own l0 (.lst ds0))) => match ds0[n]? with
    | some (.int a) => match e τ with
      | .v (.dat (.int b)) τ2 _ => match τ2[i]? with
        | some (some (.own l (.lst ds))) => if l = l0 ∧ n < ds.length then .nx (τ2.set i (some (.own l (.lst (ds.set n (.int (f a b))))))) else .no
        | _ => .no
      | _ => .no
    | _ => .no
  | _ => .no
def mSetI (i : Nat) (e b : ME) : MS := fun τ => match e τ with
  | .v (.dat d) τ1 _ => match τ1[i]? with
    | some (some (.own l0 (.lst _))) => match b τ1 with
      | .v (.dat (.int n)) τ2 _ => match τ2[i]? with
        | some (some (.own l (.lst ds))) => if l = l0 ∧ 0 ≤ n ∧ n.toNat < ds.length then .nx (τ2.set i (some (.own l (.lst (ds.set n.toNat d))))) else .no
        | _ => .no
      | _ => .no
    | _ => .no
  | _ => .no
def mApp (i : Nat) (e : ME) : MS := fun τ => match τ[i]? with
  | some (some (.own l0 (.lst _))) => match e τ with
    | .v (.dat d) τ1 _ => match τ1[i]? with
      | some (some (.own l (.lst ds))) => if l = l0 ∧ ds.length < 100000 then .nx (τ1.set i (some (.own l (.lst (ds ++ [d]))))) else .no
      | _ => .no
    | _ => .no
  | _ => .no
def putNP (f : String) : List String → List String
  | [] => [f]
  | g :: r => if g = f then g :: r else g :: putNP f r
def putXP (f : String) (d : D) : List String → List D → List D
  | g :: r, x :: xs => if g = f then d :: xs else x :: putXP f d r xs
  | _, _ => [d]
def mFldS (c0 f : String) (i : Nat) (e : ME) : MS := fun τ => match e τ with
  | .v (.dat d) τ1 _ => match τ1[i]? with
    | some (some (.own l (.ins c ns xs))) => if c = c0 ∧ ns.length < 900 then .nx (τ1.set i (some (.own l (.ins c (putNP f ns) (putXP f d ns xs))))) else .no
    | _ => .no
  | _ => .no
/-- loops -/
def runF (g : MGI) (s : MS) : List It1 → Ls → So
  | [], τ => .nx τ
  | x :: xs, τ => match g x τ with
    | none => .no
    | some τ1 => match s τ1 with
      | .nx τ2 => runF g s xs τ2
      | .ct τ2 => runF g s xs τ2
      | .bk τ2 => .nx τ2
      | .rt r τ2 => .rt r τ2
      | .no => .no
def mFor (i : MI) (g : MGI) (s : MS) : MS := fun τ => match i τ with
  | .v xs τ1 _ => runF g s xs τ1
  | .no => .no
def runW (t : MT) (s : MS) : Nat → Ls → So
  | 0, _ => .no
  | n + 1, τ => match t τ with
    | .no => .no
    | .v k τ1 _ => if k = true then match s τ1 with
        | .nx τ2 => runW t s n τ2
        | .ct τ2 => runW t s n τ2
        | .bk τ2 => .nx τ2
        | .rt r τ2 => .rt r τ2
        | .no => .no
      else .nx τ1
def mWhile (n : Nat) (t : MT) (s : MS) : MS := runW t s n
/-- comprehensions -/
def wipeP (τ : Ls) : List Nat → Ls
  | [] => τ
  | v :: vs => (wipeP τ vs).set v none
def unwipeP (τ τ' : Ls) : List Nat → Ls
  | [] => τ'
  | v :: vs => (unwipeP τ τ' vs).set v (τ[v]?.getD none)
def nresV : Option (Option Vt) → Bool
  | some (some (.own _ _)) => false
  | _ => true
def stillP (τ : Ls) (vs : List Nat) : Bool := vs.all fun i => nresV τ[i]?
def freesP (τ : Ls) (vs : List Nat) : Bool := vs.all fun i => nrV (τ[i]?.getD none)
inductive Lo where
  | v (ds : List D) (τ : Ls)
  | no
def runC (vs : List Nat) (g : MGI) (t : MT) (e : ME) : List It1 → Ls → Lo
  | [], τ => .v [] τ
  | x :: xs, τ => match g x τ with
    | none => .no
    | some τ3 => match t τ3 with
      | .no => .no
      | .v k τ4 _ => if k = true then match e τ4 with
          | .v (.dat d) τ5 _ => if freesP τ5 vs = true then match runC vs g t e xs (wipeP τ5 vs) with
              | .v ds τ6 => .v (d :: ds) τ6
              | .no => .no
            else .no
          | _ => .no
        else if freesP τ4 vs = true then runC vs g t e xs (wipeP τ4 vs) else .no
def mLc (i : MI) (g : MGI) (t : MT) (e : ME) (vs : List Nat) : ME := fun τ => match i τ with
  | .no => .no
  | .v xs τ1 _ => if stillP τ1 vs = true ∧ xs.length ≤ 100000 then match runC vs g t e xs (wipeP τ1 vs) with
      | .v ds τ2 => if (vs.all fun i => match τ2[i]? with | some (some _) => false | _ => true) = true then .v (.own true (.lst ds)) (unwipeP τ1 τ2 vs) false else .no
      | .no => .no
    else .no
/-! ### a list of lists and tuples, handed in and changed behind -/
/-- by draws of two: a new list of what the tuple holds, or the tuple -/
def drawH (P : Sem) : List D → Ow → Option (List D × Ow)
  | [], o => some ([], o)
  | .tup xs :: ds, o => if xs.length ≤ 1000 then match P [.own false o, .dat (.int 2)] with
    | .v (.dat (.int r)) (.own _ o' :: _) => match drawH P ds o' with
      | some (ys, o2) => some ((if r = 0 then .lst xs else .tup xs) :: ys, o2)
      | none => none
    | _ => none
    else none
  | _, _ => none
def mHand (c0 : String) (P I : Sem) : MS
  | a0 :: some (.own l o) :: some (.dat d0) :: some (.dat (.tup [.int wn, .tpl ps])) :: x4 :: x5 :: x6 :: rest =>
    if nresV (some x4) && nresV (some x5) && nresV (some x6) && decide (ps.length ≤ 1000) then match drawH P ps o with
      | some (ys, o') => match I [.own false (.ins c0 [] []), .dat (.int wn), .vol (.lst ys)] with
        | .v (.dat .non) (.own _ (.ins c ns xs) :: _) => if c = c0 then .nx (a0 :: some (.own l o') :: some (.dat d0) :: some (.dat (.tup [.int wn, .tpl ps])) :: none :: some (.dat (.obj c ns xs)) :: none :: rest) else .no
        | _ => .no
      | none => .no
    else .no
  | _ => .no
/-! ### bodies -/
def backsV : List Vt → Ls → List Vt
  | [], _ => []
  | .own _ _ :: as, t :: τ => t.getD (.dat .non) :: backsV as τ
  | a :: as, _ :: τ => a :: backsV as τ
  | a :: as, [] => .dat .non :: backsV as []
/-- a def of k parameters and n names -/
def body (k n : Nat) (s : MS) : Sem := fun as => if as.length = k ∧ as.all plainV = true then
    match s (as.map some ++ List.replicate (n - as.length) none) with
      | .nx τ => .v (.dat .non) (backsV as τ)
      | .rt r τ => .v r (backsV as τ)
      | _ => .no
  else .no
end Z
set_option Elab.async false
set_option linter.all false
set_option maxRecDepth 100000
set_option maxHeartbeats 0
namespace Z
open PySem (Str)
def m__law_bag : MS := (mSeq (mAsg (mC (.int 53)) (stName 1))
    (mSeq (mFor (mSeqI (mFz (mSl false (mVar 0) mNoPart (mPart (mC (.int 63)))))) (sgName 2)
    (mAsg (mB (opV gMod) (mB (opV gAdd) (mB (opV gAdd) (mB (opV gMul) (mVar 1) (mC (.int 69069))) (mVar 2)) (mC (.int 11))) (mC (.int 2147483629))) (stName 1)))
    (mRet (mFrz 1 (mLst (mCons (mFz (mU fList (mSl false (mVar 0) mNoPart (mPart (mC (.int 63)))))) (mCons (mC (.int 0)) (mCons (mC (.int 0)) (mCons (mVar 1) (mCons (mC (.int 0)) mNil))))))))))
def sem__law_bag : Sem := body 1 3 m__law_bag
def m__law_pull : MS := (mSeq (mAugI (fun i j => i + j) 0 4 (mC (.int 1)))
    (mSeq (mIfS (mB' (mB (opV gGt) (mB fIx (mVar 0) (mC (.int 2))) (mC (.int 0))))
    (mSeq (mAsg (mB fIx (mVar 0) (mC (.int 2))) (stName 2))
    (mSeq (mSetI 0 (mFz (mB (opV gDiv) (mVar 2) (mVar 1))) (mC (.int 2)))
    (mRet (mB (opV gMod) (mVar 2) (mVar 1)))))
    mNext)
    (mSeq (mAsg (mB fIx (mVar 0) (mC (.int 3))) (stName 3))
    (mSeq (mIfS (mB' (mB (opV gLt) (mB fIx (mVar 0) (mC (.int 1))) (mCB gLen (mCons (mB fIx (mVar 0) (mC (.int 0))) mNil))))
    (mSeq (mAsg (mB fIx (mB fIx (mVar 0) (mC (.int 0))) (mB fIx (mVar 0) (mC (.int 1)))) (stName 3))
    (mAugI (fun i j => i + j) 0 1 (mC (.int 1))))
    mNext)
    (mSeq (mIfS (mB' (mB (opV gGe) (mVar 3) (mB (opV gPow) (mC (.int 10)) (mC (.int 18)))))
    (mSeq (mSetI 0 (mFz (mB (opV gDiv) (mVar 3) (mVar 1))) (mC (.int 2)))
    (mRet (mB (opV gMod) (mVar 3) (mVar 1))))
    mNext)
    (mSeq (mAsg (mB (opV gMod) (mB (opV gAdd) (mB (opV gAdd) (mB (opV gAdd) (mB (opV gMul) (mVar 3) (mC (.int 48271))) (mB (opV gMul) (mB fIx (mVar 0) (mC (.int 3))) (mC (.int 40503)))) (mB (opV gMul) (mB fIx (mVar 0) (mC (.int 4))) (mC (.int 69621)))) (mC (.int 9176))) (mC (.int 2147483629))) (stName 4))
    (mSeq (mAsg (mB (opV gMod) (mB (opV gAdd) (mB (opV gAdd) (mB (opV gMul) (mVar 4) (mB (opV gAdd) (mB (opV gMod) (mVar 4) (mC (.int 65521))) (mC (.int 13)))) (mB (opV gMul) (mB fIx (mVar 0) (mC (.int 4))) (mC (.int 40692)))) (mB (opV gMod) (mB fIx (mVar 0) (mC (.int 3))) (mC (.int 104729)))) (mC (.int 998244353))) (stName 5))
    (mSeq (mSetI 0 (mFz (mB (opV gMod) (mB (opV gAdd) (mB (opV gMul) (mB fIx (mVar 0) (mC (.int 3))) (mC (.int 16807))) (mVar 5)) (mC (.int 2147483563)))) (mC (.int 3)))
    (mRet (mB (opV gMod) (mB (opV gDiv) (mVar 5) (mC (.int 7))) (mVar 1)))))))))))
def sem__law_pull : Sem := body 2 6 m__law_pull
def m__law_mixed : MS := (mSeq (mPar 2 3 (mU fList (mVar 1)) (mLst mNil))
    (mSeq (mFor (mRng1 (mCons (mFz (mCB gLen (mCons (mVar 1) mNil))) mNil)) (sgName 4)
    (mApp 3 (mFz (mPopAt 2 (mCall true sem__law_pull (mCons (mVar 0) (mCons (mFz (mCB gLen (mCons (mVar 2) mNil))) mNil)))))))
    (mRet (mVar 3))))
def sem__law_mixed : Sem := body 2 5 m__law_mixed
def m__law_web : MS := (mSeq (mAsg (mB (opV gAdd) (mC (.int 1)) (mCall true sem__law_pull (mCons (mVar 0) (mCons (mVar 1) mNil)))) (stName 3))
    (mSeq (mAsg (mLc (mRng1 (mCons (mVar 3) mNil)) (sgName 6) mYes (mTup (mCons (mVar 6) (mCons (mFz (mCall true sem__law_pull (mCons (mVar 0) (mCons (mVar 3) mNil)))) mNil))) [6]) (stName 4))
    (mSeq (mFor (mRng1 (mCons (mFz (mCall true sem__law_pull (mCons (mVar 0) (mCons (mFz (mB (opV gAdd) (mVar 2) (mC (.int 1)))) mNil)))) mNil)) (sgName 5)
    (mApp 4 (mTup (mCons (mFz (mCall true sem__law_pull (mCons (mVar 0) (mCons (mVar 3) mNil)))) (mCons (mFz (mCall true sem__law_pull (mCons (mVar 0) (mCons (mVar 3) mNil)))) mNil)))))
    (mRet (mFrz 4 (mFrz 3 (mTup (mCons (mVar 3) (mCons (mFz (mU fTup (mCall true sem__law_mixed (mCons (mVar 0) (mCons (mVar 4) mNil))))) mNil)))))))))
def sem__law_web : Sem := body 3 7 m__law_web
def m_is_within : MS := (mRet (mAndV (mCB gIsi (mCons (mVar 0) (mCons (mC (.ty "int")) mNil))) (mAndV (mNotV (mCB gIsi (mCons (mVar 0) (mCons (mC (.ty "bool")) mNil)))) (mChain gLe gLe (mVar 1) (mVar 0) (mVar 2)))))
def sem_is_within : Sem := body 3 3 m_is_within
def m_is_listed : MS := (mRet (mIsi2 "list" "tuple" (mVar 0)))
def sem_is_listed : Sem := body 1 1 m_is_listed
def m_is_pair : MS := (mRet (mAndV (mCall false sem_is_listed (mCons (mVar 0) mNil)) (mAndV (mB (opV gEq) (mCB gLen (mCons (mVar 0) mNil)) (mC (.int 2))) (mCB gAll (mCons (mLc (mSeqI (mVar 0)) (sgName 2) mYes (mFz (mCall false sem_is_within (mCons (mVar 2) (mCons (mC (.int 0)) (mCons (mFz (mB (opV gSubI) (mVar 1) (mC (.int 1)))) mNil))))) [2]) mNil)))))
def sem_is_pair : Sem := body 2 3 m_is_pair
def m_Web___init__ : MS := (mSeq (mIfS (mNot (mB' (mCall false sem_is_within (mCons (mVar 1) (mCons (mC (.int 1)) (mCons (mC (.int 100)) mNil))))))
    mNever
    mNext)
    (mSeq (mFor (mEnum (mCons (mVar 2) mNil)) (sgTup2 (stName 3) (stName 4))
    (mIfS (mOr (mB' (mB (opV gEq) (mVar 3) (mC (.int 400)))) (mNot (mB' (mCall false sem_is_pair (mCons (mVar 4) (mCons (mVar 1) mNil))))))
    mNever
    mNext))
    (mSeq (mFldS "Web" "size" 0 (mVar 1))
    (mSeq (mFldS "Web" "pairs" 0 (mFz (mU fTup (mLc (mSeqI (mVar 2)) (sgName 4) mYes (mFz (mU fTup (mVar 4))) [4]))))
    (mSeq (mFldS "Web" "leaving" 0 (mFz (mLc (mRng1 (mCons (mVar 1) mNil)) (sgName 5) mYes (mFz (mLc (mEnum (mCons (mU (fFld "Web" "pairs") (mVar 0)) mNil)) (sgTup2 (stName 3) (stName 4)) (mB' (mB (opV gEq) (mB fIx (mVar 4) (mC (.int 0))) (mVar 5))) (mVar 3) [3, 4])) [5])))
    (mSeq (mFldS "Web" "coming" 0 (mFz (mLc (mRng1 (mCons (mVar 1) mNil)) (sgName 5) mYes (mFz (mLc (mEnum (mCons (mU (fFld "Web" "pairs") (mVar 0)) mNil)) (sgTup2 (stName 3) (stName 4)) (mB' (mB (opV gEq) (mB fIx (mVar 4) (mC (.int 1))) (mVar 5))) (mVar 3) [3, 4])) [5])))
    (mIfS (mB' (mB (opV gIn) (mLst mNil) (mU (fFld "Web" "leaving") (mVar 0))))
    mNever
    mNext)))))))
def sem_Web___init__ : Sem := body 3 6 m_Web___init__
def m_Web_arrows : MS := (mRet (mU fList (mU (fFld "Web" "pairs") (mVar 0))))
def sem_Web_arrows : Sem := body 1 1 m_Web_arrows
def m__law_same (n : Sem) : MS := (mSeq (mIfS (mB' (mIsi2 "list" "tuple" (mVar 1)))
    (mSeq (mIfS (mOr (mB' (mB (opV gNe) (mCB gIsi (mCons (mVar 0) (mCons (mC (.ty "list")) mNil))) (mCB gIsi (mCons (mVar 1) (mCons (mC (.ty "list")) mNil))))) (mB' (mB (opV gNe) (mCB gIsi (mCons (mVar 0) (mCons (mC (.ty "tuple")) mNil))) (mCB gIsi (mCons (mVar 1) (mCons (mC (.ty "tuple")) mNil))))))
    (mRet (mC (.bl false)))
    mNext)
    (mRet (mAndV (mB (opV gEq) (mCB gLen (mCons (mVar 0) mNil)) (mCB gLen (mCons (mVar 1) mNil))) (mCB gAll (mCons (mLc (mZip (mCons (mVar 0) (mCons (mVar 1) mNil))) (sgTup2 (stName 2) (stName 3)) mYes (mFz (mCall false n (mCons (mVar 2) (mCons (mVar 3) mNil)))) [2, 3]) mNil)))))
    mNext)
    (mSeq (mIfS (mOr (mB' (mB (opV gIs) (mVar 1) (mC .non))) (mB' (mB (opV gIs) (mVar 0) (mC .non))))
    (mRet (mAndV (mB (opV gIs) (mVar 0) (mC .non)) (mB (opV gIs) (mVar 1) (mC .non))))
    mNext)
    (mSeq (mIfS (mOr (mB' (mB (opV gNe) (mCB gIsi (mCons (mVar 0) (mCons (mC (.ty "bool")) mNil))) (mCB gIsi (mCons (mVar 1) (mCons (mC (.ty "bool")) mNil))))) (mB' (mB (opV gNe) (mCB gIsi (mCons (mVar 0) (mCons (mC (.ty "int")) mNil))) (mCB gIsi (mCons (mVar 1) (mCons (mC (.ty "int")) mNil))))))
    (mRet (mC (.bl false)))
    mNext)
    (mRet (mAndV (mB (opV gEq) (mCB gIsi (mCons (mVar 0) (mCons (mC (.ty "str")) mNil))) (mCB gIsi (mCons (mVar 1) (mCons (mC (.ty "str")) mNil)))) (mB (opV gEq) (mVar 0) (mVar 1)))))))
def sem__law_same : Nat → Sem
  | 0 => fun _ => .no
  | n + 1 => body 2 4 (m__law_same (sem__law_same n))
def m_Web___len__ : MS := (mRet (mCB gLen (mCons (mU (fFld "Web" "pairs") (mVar 0)) mNil)))
def sem_Web___len__ : Sem := body 1 1 m_Web___len__
def m_Web_rooms : MS := (mRet (mU (fFld "Web" "size") (mVar 0)))
def sem_Web_rooms : Sem := body 1 1 m_Web_rooms
def m_Web_need_room : MS := (mIfS (mNot (mB' (mCall false sem_is_within (mCons (mVar 1) (mCons (mC (.int 0)) (mCons (mFz (mB (opV gSubI) (mU (fFld "Web" "size") (mVar 0)) (mC (.int 1)))) mNil))))))
    mNever
    mNext)
def sem_Web_need_room : Sem := body 2 2 m_Web_need_room
def m_Web_ins : MS := (mSeq (mDrop (mMeth "Web" "need_room" false sem_Web_need_room (mVar 0) (mCons (mVar 1) mNil)))
    (mRet (mU fList (mB fIx (mU (fFld "Web" "coming") (mVar 0)) (mVar 1)))))
def sem_Web_ins : Sem := body 2 2 m_Web_ins
def m_Web_outs : MS := (mSeq (mDrop (mMeth "Web" "need_room" false sem_Web_need_room (mVar 0) (mCons (mVar 1) mNil)))
    (mRet (mU fList (mB fIx (mU (fFld "Web" "leaving") (mVar 0)) (mVar 1)))))
def sem_Web_outs : Sem := body 2 2 m_Web_outs
def m__law_ins : MS := (mRet (mLc (mEnum (mCons (mFz (mB fIx (mVar 0) (mC (.int 1)))) mNil)) (sgTup2 (stName 2) (stName 3)) (mB' (mB (opV gEq) (mB fIx (mVar 3) (mC (.int 1))) (mVar 1))) (mVar 2) [2, 3]))
def sem__law_ins : Sem := body 2 4 m__law_ins
def m__law_outs : MS := (mRet (mLc (mEnum (mCons (mFz (mB fIx (mVar 0) (mC (.int 1)))) mNil)) (sgTup2 (stName 2) (stName 3)) (mB' (mB (opV gEq) (mB fIx (mVar 3) (mC (.int 0))) (mVar 1))) (mVar 2) [2, 3]))
def sem__law_outs : Sem := body 2 4 m__law_outs
def m_Web_leading : MS := (mSeq (mDrop (mMeth "Web" "need_room" false sem_Web_need_room (mVar 0) (mCons (mVar 1) mNil)))
    (mSeq (mDrop (mMeth "Web" "need_room" false sem_Web_need_room (mVar 0) (mCons (mVar 2) mNil)))
    (mRet (mB fCount (mU (fFld "Web" "pairs") (mVar 0)) (mTup (mCons (mVar 1) (mCons (mVar 2) mNil)))))))
def sem_Web_leading : Sem := body 3 3 m_Web_leading
def m__law_count : MS := (mRet (mB fCount (mB fIx (mVar 0) (mC (.int 1))) (mTup (mCons (mVar 1) (mCons (mVar 2) mNil)))))
def sem__law_count : Sem := body 3 3 m__law_count
def m_Web_has_arrow : MS := (mRet (mCall false sem_is_within (mCons (mVar 1) (mCons (mC (.int 0)) (mCons (mFz (mB (opV gSubI) (mCB gLen (mCons (mU (fFld "Web" "pairs") (mVar 0)) mNil)) (mC (.int 1)))) mNil)))))
def sem_Web_has_arrow : Sem := body 2 2 m_Web_has_arrow
def m_Web_end : MS := (mSeq (mIfS (mNot (mB' (mMeth "Web" "has_arrow" false sem_Web_has_arrow (mVar 0) (mCons (mVar 1) mNil))))
    mNever
    mNext)
    (mRet (mB fIx (mB fIx (mU (fFld "Web" "pairs") (mVar 0)) (mVar 1)) (mC (.int 1)))))
def sem_Web_end : Sem := body 2 2 m_Web_end
def m_Web_begin : MS := (mSeq (mIfS (mNot (mB' (mMeth "Web" "has_arrow" false sem_Web_has_arrow (mVar 0) (mCons (mVar 1) mNil))))
    mNever
    mNext)
    (mRet (mB fIx (mB fIx (mU (fFld "Web" "pairs") (mVar 0)) (mVar 1)) (mC (.int 0)))))
def sem_Web_begin : Sem := body 2 2 m_Web_begin
def m__law_naming : MS := (mRet (mTup (mCons (mFz (mCall true sem__law_mixed (mCons (mVar 0) (mCons (mFz (mU fListRg (mB fIx (mVar 1) (mC (.int 0))))) mNil)))) (mCons (mFz (mCall true sem__law_mixed (mCons (mVar 0) (mCons (mFz (mU fListRg (mCB gLen (mCons (mB fIx (mVar 1) (mC (.int 1))) mNil)))) mNil)))) mNil))))
def sem__law_naming : Sem := body 2 2 m__law_naming
def m__law_named : MS := (mSeq (mAsg (mB fRep (mLst (mCons (mTup (mCons (mC (.int 0)) (mCons (mC (.int 0)) mNil))) mNil)) (mCB gLen (mCons (mB fIx (mVar 0) (mC (.int 1))) mNil))) (stName 3))
    (mSeq (mFor (mEnum (mCons (mFz (mB fIx (mVar 0) (mC (.int 1)))) mNil)) (sgTup2 (stName 4) (stName 5))
    (mSetI 3 (mTup (mCons (mFz (mB fIx (mVar 1) (mB fIx (mVar 5) (mC (.int 0))))) (mCons (mFz (mB fIx (mVar 1) (mB fIx (mVar 5) (mC (.int 1))))) mNil))) (mB fIx (mVar 2) (mVar 4))))
    (mRet (mFrz 3 (mTup (mCons (mFz (mB fIx (mVar 0) (mC (.int 0)))) (mCons (mFz (mU fTup (mVar 3))) mNil)))))))
def sem__law_named : Sem := body 3 6 m__law_named
def m_Web___eq__ : MS := (mRet (mAndV (mIsiO "Web" (mVar 1)) (mAndV (mB (opV gEq) (mU (fFld "Web" "size") (mVar 0)) (mU (fFld "Web" "size") (mVar 1))) (mB (opV gEq) (mU (fFld "Web" "pairs") (mVar 0)) (mU (fFld "Web" "pairs") (mVar 1))))))
def sem_Web___eq__ : Sem := body 2 2 m_Web___eq__
def m__law_made : MS := (mRet (mMake "Web" sem_Web___init__ (mCons (mFz (mB fIx (mVar 0) (mC (.int 0)))) (mCons (mFz (mU fList (mB fIx (mVar 0) (mC (.int 1))))) mNil))))
def sem__law_made : Sem := body 1 1 m__law_made
def m_Web___repr__ : MS := (mRet (mJoined [(mC (.str "Web(")), (mFmt (mU (fFld "Web" "size") (mVar 0))), (mC (.str " rooms, ")), (mFmt (mCB gLen (mCons (mU (fFld "Web" "pairs") (mVar 0)) mNil))), (mC (.str " arrows)"))]))
def sem_Web___repr__ : Sem := body 1 1 m_Web___repr__
def m_law : MS := (mSeq (mAsg (mCall false sem__law_bag (mCons (mVar 0) mNil)) (stName 1))
    (mSeq (mFor (mRng1 (mCons (mC (.int 4)) mNil)) (sgName 2)
    (mSeq (mAsg (mCall true sem__law_web (mCons (mVar 1) (mCons (mC (.int 6)) (mCons (mC (.int 8)) mNil)))) (stName 3))
    (mSeq (mHand "Web" sem__law_pull sem_Web___init__)
    (mSeq (mFor (mRng1 (mCons (mC (.int 2)) mNil)) (sgName 7)
    (mSeq (mAsg (mMeth "Web" "arrows" false sem_Web_arrows (mVar 5) mNil) (stName 8))
    (mSeq (mIfS (mNot (mB' (mCall false (sem__law_same 6) (mCons (mFz (mLst (mCons (mFz (mMeth "Web" "rooms" false sem_Web_rooms (mVar 5) mNil)) (mCons (mVar 8) (mCons (mFz (mOwnLen "Web" sem_Web___len__ (mVar 5))) mNil))))) (mCons (mFz (mLst (mCons (mFz (mB fIx (mVar 3) (mC (.int 0)))) (mCons (mFz (mU fList (mB fIx (mVar 3) (mC (.int 1))))) (mCons (mFz (mCB gLen (mCons (mB fIx (mVar 3) (mC (.int 1))) mNil))) mNil))))) mNil)))))
    (mRet (mC (.bl false)))
    mNext)
    (mSeq (mDrop (mPop 8))
    (mFor (mRng1 (mCons (mFz (mB fIx (mVar 3) (mC (.int 0)))) mNil)) (sgName 9)
    (mSeq (mPar 10 11 (mMeth "Web" "outs" false sem_Web_outs (mVar 5) (mCons (mVar 9) mNil)) (mMeth "Web" "ins" false sem_Web_ins (mVar 5) (mCons (mVar 9) mNil)))
    (mSeq (mIfS (mNot (mB' (mCall false (sem__law_same 6) (mCons (mFz (mLst (mCons (mVar 10) (mCons (mVar 11) mNil)))) (mCons (mFz (mLst (mCons (mFz (mCall false sem__law_outs (mCons (mVar 3) (mCons (mVar 9) mNil)))) (mCons (mFz (mCall false sem__law_ins (mCons (mVar 3) (mCons (mVar 9) mNil)))) mNil)))) mNil)))))
    (mRet (mC (.bl false)))
    mNext)
    (mSeq (mApp 10 (mC (.int 0)))
    (mSeq (mApp 11 (mC (.int 0)))
    (mSeq (mAsg (mLc (mRng1 (mCons (mFz (mB fIx (mVar 3) (mC (.int 0)))) mNil)) (sgName 17) mYes (mFz (mMeth "Web" "leading" false sem_Web_leading (mVar 5) (mCons (mVar 9) (mCons (mVar 17) mNil)))) [17]) (stName 12))
    (mIfS (mNot (mB' (mCall false (sem__law_same 6) (mCons (mVar 12) (mCons (mFz (mLc (mRng1 (mCons (mFz (mB fIx (mVar 3) (mC (.int 0)))) mNil)) (sgName 17) mYes (mFz (mCall false sem__law_count (mCons (mVar 3) (mCons (mVar 9) (mCons (mVar 17) mNil))))) [17])) mNil)))))
    (mRet (mC (.bl false)))
    mNext)))))))))))
    (mSeq (mFor (mEnum (mCons (mFz (mB fIx (mVar 3) (mC (.int 1)))) mNil)) (sgTup2 (stName 13) (stName 6))
    (mIfS (mNot (mB' (mCall false (sem__law_same 6) (mCons (mTup (mCons (mFz (mMeth "Web" "begin" false sem_Web_begin (mVar 5) (mCons (mVar 13) mNil))) (mCons (mFz (mMeth "Web" "end" false sem_Web_end (mVar 5) (mCons (mVar 13) mNil))) mNil))) (mCons (mVar 6) mNil)))))
    (mRet (mC (.bl false)))
    mNext))
    (mSeq (mAsg (mCall true sem__law_naming (mCons (mVar 1) (mCons (mVar 3) mNil))) (stTup2 (stName 14) (stName 15)))
    (mSeq (mAsg (mCall false sem__law_named (mCons (mVar 3) (mCons (mVar 14) (mCons (mVar 15) mNil)))) (stName 16))
    (mSeq (mIfS (mOr (mB' (mB (opV gNe) (mOwnEq false "Web" sem_Web___eq__ (mVar 5) (mCall false sem__law_made (mCons (mVar 16) mNil))) (mB (opV gEq) (mVar 3) (mVar 16)))) (mOr (mB' (mOwnEq true "Web" sem_Web___eq__ (mVar 5) (mCall false sem__law_made (mCons (mVar 3) mNil)))) (mB' (mOwnEq false "Web" sem_Web___eq__ (mVar 5) (mB fIx (mVar 3) (mC (.int 1)))))))
    (mRet (mC (.bl false)))
    mNext)
    (mSeq (mIfS (mB' (mOwnEq false "Web" sem_Web___eq__ (mVar 5) (mMake "Web" sem_Web___init__ (mCons (mFz (mB (opV gAdd) (mB fIx (mVar 3) (mC (.int 0))) (mC (.int 1)))) (mCons (mFz (mB fCat (mU fList (mB fIx (mVar 3) (mC (.int 1)))) (mLst (mCons (mTup (mCons (mFz (mB fIx (mVar 3) (mC (.int 0)))) (mCons (mC (.int 0)) mNil))) mNil)))) mNil)))))
    (mRet (mC (.bl false)))
    mNext)
    (mIfS (mB' (mB (opV gNe) (mOwnRepr "Web" sem_Web___repr__ (mVar 5)) (mB (opV gAddS) (mB (opV gAddS) (mB (opV gAddS) (mB (opV gAddS) (mC (.str "Web(")) (mCB gStrI (mCons (mB fIx (mVar 3) (mC (.int 0))) mNil))) (mC (.str " rooms, "))) (mCB gStrI (mCons (mCB gLen (mCons (mB fIx (mVar 3) (mC (.int 1))) mNil)) mNil))) (mC (.str " arrows)")))))
    (mRet (mC (.bl false)))
    mNext))))))))))
    (mRet (mC (.bl true)))))
def sem_law : Sem := body 1 18 m_law
namespace Q
def fzV : Vt → Vt
  | .own true (.lst ds) => .dat (.lst ds)
  | x => x
def tupV (τ : Ls) (xs : List Vt) : Option Vt := match allDat xs with
  | some ds => if ds.length ≤ 100000 then some (.dat (.tup ds)) else none
  | none => match allSee τ xs with
    | some ds => if ds.length ≤ 100000 then some (.tmp (.tup ds)) else none
    | none => none
def lstV (τ : Ls) (xs : List Vt) : Option Vt := match allDat xs with
  | some ds => if ds.length ≤ 100000 then some (.own true (.lst ds)) else none
  | none => match allSee τ xs with
    | some ds => if ds.length ≤ 100000 then some (.tmp (.lst ds)) else none
    | none => none
def isO (c0 : String) : Vt → Option Bool
  | .dat (.obj c _ _) => if c = c0 then some true else none
  | .dat (.tup _) => some false
  | .dat (.tpl _) => some false
  | _ => none
def ownB : List Vt → Option Ow
  | .own _ o :: _ => some o
  | _ => none
def newB (c0 : String) (r : Vt) (bs : List Vt) : Option D := match r, bs with
  | .dat .non, .own _ (.ins c ns xs) :: _ => if c = c0 then some (.obj c ns xs) else none
  | _, _ => none
def isC (c0 : String) : D → Bool
  | .obj c _ _ => c == c0
  | _ => false
theorem isC_obj {c0 : String} {d : D} (h : isC c0 d = true) : ∃ ns xs, d = .obj c0 ns xs := by
  cases d with
  | obj c ns xs => exact ⟨ns, xs, by rw [eq_of_beq h]⟩
  | _ => cases h
def cleanP (σ : Ls) (vs : List Nat) : Bool := vs.all fun i => match σ[i]? with | some (some _) => false | _ => true
theorem rng_at {n k : Nat} {lo : Int} {x : It1} (h : (rngD lo n)[k]? = some x) : k < n ∧ x = .one (.dat (.int (lo + (k : Nat)))) := by
  unfold rngD at h
  rw [List.getElem?_map] at h
  by_cases hk : k < n
  · rw [List.getElem?_range hk] at h
    cases h
    exact ⟨hk, rfl⟩
  · rw [List.getElem?_eq_none (by simpa using hk)] at h
    cases h
theorem rng_len {n : Nat} {lo : Int} : (rngD lo n).length = n := by simp [rngD]
def enF {α : Type} (p : Nat → α → Bool) (F : Nat → α → D) : Nat → List α → List D
  | _, [] => []
  | k, x :: xs => if p k x = true then F k x :: enF p F (k + 1) xs else enF p F (k + 1) xs
end Q
namespace RR
open Q
/-! Q1: what a run of the pure interpreter comes to, step by step. -/
def WE (o : Eo) (Q : Vt → Ls → Bool → Prop) : Prop := match o with
  | .v r τ b => Q r τ b
  | .no => False
def WA (o : Ao) (Q : List Vt → Ls → Bool → Prop) : Prop := match o with
  | .v r τ b => Q r τ b
  | .no => False
def WT (o : To) (Q : Bool → Ls → Bool → Prop) : Prop := match o with
  | .v r τ b => Q r τ b
  | .no => False
def WO (o : Oo) (Q : Option Int → Ls → Bool → Prop) : Prop := match o with
  | .v r τ b => Q r τ b
  | .no => False
def WJ (o : Jo) (Q : Str → Ls → Bool → Prop) : Prop := match o with
  | .v r τ b => Q r τ b
  | .no => False
def WI (o : Io) (Q : List It1 → Ls → Bool → Prop) : Prop := match o with
  | .v r τ b => Q r τ b
  | .no => False
def WS (o : So) (N : Ls → Prop) (R : Vt → Ls → Prop) (B C : Ls → Prop) : Prop := match o with
  | .nx τ => N τ
  | .rt r τ => R r τ
  | .bk τ => B τ
  | .ct τ => C τ
  | .no => False
def WL (o : Lo) (Q : List D → Ls → Prop) : Prop := match o with
  | .v ds τ => Q ds τ
  | .no => False
def WF (o : Fo) (Q : Vt → List Vt → Prop) : Prop := match o with
  | .v r as => Q r as
  | .no => False
def WM (o : Option α) (Q : α → Prop) : Prop := match o with
  | some x => Q x
  | none => False
theorem WM_some {x : α} {Q : α → Prop} (h : Q x) : WM (some x) Q := h
theorem WM_eq {o : Option α} {x : α} {Q : α → Prop} (e : o = some x) (h : Q x) : WM o Q := by subst e; exact h
theorem WF_eq {o : Fo} {r : Vt} {as : List Vt} (h : WF o fun r' as' => r' = r ∧ as' = as) : o = .v r as := by
  cases o with
  | v x y => obtain ⟨rfl, rfl⟩ := h; rfl
  | no => exact h.elim
theorem WF_mono {o : Fo} {P Q : Vt → List Vt → Prop} (h : WF o P) (k : ∀ r as, P r as → Q r as) : WF o Q := by
  cases o with
  | v x y => exact k _ _ h
  | no => exact h
theorem WF_of {o : Fo} {r : Vt} {as : List Vt} {Q : Vt → List Vt → Prop} (e : o = .v r as) (h : Q r as) : WF o Q := by subst e; exact h
theorem WF_get {o : Fo} {P : Vt → List Vt → Prop} (h : WF o P) : ∃ r as, o = .v r as ∧ P r as := by
  cases o with
  | v x y => exact ⟨_, _, rfl, h⟩
  | no => exact h.elim
theorem WE_get {o : Eo} {P : Vt → Ls → Bool → Prop} (h : WE o P) : ∃ r τ b, o = .v r τ b ∧ P r τ b := by
  cases o with
  | v x y => exact ⟨_, _, _, rfl, h⟩
  | no => exact h.elim
theorem WE_eq {o : Eo} {r : Vt} {τ : Ls} {b : Bool} (h : WE o fun r' τ' b' => r' = r ∧ τ' = τ ∧ b' = b) : o = .v r τ b := by
  cases o with
  | v x y => obtain ⟨rfl, rfl, rfl⟩ := h; rfl
  | no => exact h.elim
theorem WE_of {o : Eo} {r : Vt} {τ : Ls} {b : Bool} {Q : Vt → Ls → Bool → Prop} (e : o = .v r τ b) (h : Q r τ b) : WE o Q := by subst e; exact h
theorem WE_mono {o : Eo} {P Q : Vt → Ls → Bool → Prop} (h : WE o P) (k : ∀ r τ b, P r τ b → Q r τ b) : WE o Q := by
  cases o with
  | v x y => exact k _ _ _ h
  | no => exact h
theorem WL_of {o : Lo} {ds : List D} {τ : Ls} {Q : List D → Ls → Prop} (e : o = .v ds τ) (h : Q ds τ) : WL o Q := by subst e; exact h
theorem WL_mono {o : Lo} {P Q : List D → Ls → Prop} (h : WL o P) (k : ∀ r τ, P r τ → Q r τ) : WL o Q := by
  cases o with
  | v x y => exact k _ _ h
  | no => exact h
theorem ws_nx {τ : Ls} {N : Ls → Prop} {R : Vt → Ls → Prop} {B C : Ls → Prop} (k : N τ) : WS (.nx τ) N R B C := k
theorem WS_mono {o : So} {N N' : Ls → Prop} {R R' : Vt → Ls → Prop} {B B' C C' : Ls → Prop} (h : WS o N R B C) (n : ∀ τ, N τ → N' τ) (r : ∀ x τ, R x τ → R' x τ) (b : ∀ τ, B τ → B' τ) (c : ∀ τ, C τ → C' τ) : WS o N' R' B' C' := by
  cases o with
  | nx => exact n _ h
  | rt => exact r _ _ h
  | bk => exact b _ h
  | ct => exact c _ h
  | no => exact h
section
variable {τ : Ls} {Q : Vt → Ls → Bool → Prop} {a b c e : ME} {t : MA} {i j : Nat}
theorem e_var {Q : Vt → Ls → Bool → Prop} {x : Vt} (h : τ[i]? = some (some x)) (k : ∀ o l, x = .own l o → Q (.ali i) τ true) (hd : ∀ d, x = .dat d → Q (.dat d) τ true) (hv : ∀ d, x = .vol d → Q (.vol d) τ true) (n1 : ∀ d, x ≠ .tmp d) (n2 : ∀ d, x ≠ .ali d) : WE (mVar i τ) Q := by
  unfold mVar
  rw [h]
  cases x with
  | dat d => exact hd _ rfl
  | vol d => exact hv _ rfl
  | own l o => exact k _ _ rfl
  | tmp d => exact absurd rfl (n1 d)
  | ali d => exact absurd rfl (n2 d)
theorem e_varD {d : D} (h : τ[i]? = some (some (.dat d))) (k : Q (.dat d) τ true) : WE (mVar i τ) Q := by
  unfold mVar; rw [h]; exact k
theorem e_varV {d : D} (h : τ[i]? = some (some (.vol d))) (k : Q (.vol d) τ true) : WE (mVar i τ) Q := by
  unfold mVar; rw [h]; exact k
theorem e_varO {l : Bool} {o : Ow} (h : τ[i]? = some (some (.own l o))) (k : Q (.ali i) τ true) : WE (mVar i τ) Q := by
  unfold mVar; rw [h]; exact k
theorem e_C {d : D} (k : Q (.dat d) τ true) : WE (mC d τ) Q := k
theorem e_U {g : Ls → Vt → Option Vt} (k : WE (a τ) fun x τ1 b1 => WM (g τ1 x) fun r => Q r τ1 b1) : WE (mU g a τ) Q := by
  unfold mU
  cases e : a τ with
  | no => rw [e] at k; exact k
  | v x τ1 b1 =>
    rw [e] at k
    dsimp only [WE] at k ⊢
    cases h : g τ1 x with
    | none => rw [h] at k; exact k
    | some r => rw [h] at k; exact k
theorem e_B {g : Ls → Vt → Vt → Option Vt} (k : WE (a τ) fun x τ1 b1 => WE (b τ1) fun y τ2 b2 => stbV x b2 = true ∧ WM (g τ2 x y) fun r => Q r τ2 (b1 && b2)) : WE (mB g a b τ) Q := by
  unfold mB
  cases e : a τ with
  | no => rw [e] at k; exact k
  | v x τ1 b1 =>
    rw [e] at k
    dsimp only [WE] at k ⊢
    cases f : b τ1 with
    | no => rw [f] at k; exact k
    | v y τ2 b2 =>
      rw [f] at k
      dsimp only at k ⊢
      obtain ⟨h1, k⟩ := k
      rw [if_pos h1]
      cases h : g τ2 x y with
      | none => rw [h] at k; exact k
      | some r => rw [h] at k; exact k
theorem e_Fz (k : WE (a τ) fun x τ1 b1 => Q (fzV x) τ1 b1) : WE (mFz a τ) Q := by
  unfold mFz
  cases e : a τ with
  | no => rw [e] at k; exact k
  | v x τ1 b1 =>
    rw [e] at k
    dsimp only [WE] at k ⊢
    cases x with
    | own l o =>
      cases l with
      | false => exact k
      | true => cases o with
        | lst ds => exact k
        | ins => exact k
    | dat => exact k
    | vol => exact k
    | tmp => exact k
    | ali => exact k
theorem e_Frz {ds : List D} (h : τ[i]? = some (some (.own true (.lst ds)))) (k : WE (a (τ.set i (some (.dat (.lst ds))))) fun x τ1 _ => Q x τ1 false) : WE (mFrz i a τ) Q := by
  unfold mFrz
  rw [h]
  dsimp only
  cases e : a (τ.set i (some (.dat (.lst ds)))) with
  | no => rw [e] at k; exact k
  | v x τ1 b1 => rw [e] at k; exact k
theorem e_FrzD {d : D} (h : τ[i]? = some (some (.dat d))) (k : WE (a τ) Q) : WE (mFrz i a τ) Q := by
  unfold mFrz
  rw [h]
  exact k
theorem e_andV (k : WE (a τ) fun x τ1 b1 => ∃ p, x = .dat (.bl p) ∧ (p = true → WE (b τ1) fun r τ2 b2 => Q r τ2 (b1 && b2)) ∧ (p = false → Q (.dat (.bl false)) τ1 b1)) : WE (mAndV a b τ) Q := by
  unfold mAndV
  cases e : a τ with
  | no => rw [e] at k; exact k
  | v x τ1 b1 =>
    rw [e] at k
    obtain ⟨p, rfl, k1, k2⟩ := k
    dsimp only
    cases p with
    | true =>
      rw [if_pos rfl]
      have k1 := k1 rfl
      cases f : b τ1 with
      | no => rw [f] at k1; exact k1
      | v y τ2 b2 => rw [f] at k1; exact k1
    | false => exact k2 rfl
theorem e_orV (k : WE (a τ) fun x τ1 b1 => ∃ p, x = .dat (.bl p) ∧ (p = true → Q (.dat (.bl true)) τ1 b1) ∧ (p = false → WE (b τ1) fun r τ2 b2 => Q r τ2 (b1 && b2))) : WE (mOrV a b τ) Q := by
  unfold mOrV
  cases e : a τ with
  | no => rw [e] at k; exact k
  | v x τ1 b1 =>
    rw [e] at k
    obtain ⟨p, rfl, k1, k2⟩ := k
    dsimp only
    cases p with
    | true => exact k1 rfl
    | false =>
      rw [if_neg (by simp)]
      have k1 := k2 rfl
      cases f : b τ1 with
      | no => rw [f] at k1; exact k1
      | v y τ2 b2 => rw [f] at k1; exact k1
theorem e_notV (k : WE (a τ) fun x τ1 b1 => ∃ p, x = .dat (.bl p) ∧ Q (.dat (.bl (!p))) τ1 b1) : WE (mNotV a τ) Q := by
  unfold mNotV
  cases e : a τ with
  | no => rw [e] at k; exact k
  | v x τ1 b1 =>
    rw [e] at k
    obtain ⟨p, rfl, k1⟩ := k
    exact k1
theorem e_if {p : MT} (k : WT (p τ) fun k τ1 b1 => (k = true → WE (a τ1) fun r τ2 b2 => Q r τ2 (b1 && b2)) ∧ (k = false → WE (b τ1) fun r τ2 b2 => Q r τ2 (b1 && b2))) : WE (mIf p a b τ) Q := by
  unfold mIf
  cases e : p τ with
  | no => rw [e] at k; exact k
  | v x τ1 b1 =>
    rw [e] at k
    obtain ⟨k1, k2⟩ := k
    dsimp only
    cases x with
    | true =>
      have k1 := k1 rfl
      rw [if_pos rfl]
      cases f : a τ1 with
      | no => rw [f] at k1; exact k1
      | v y τ2 b2 => rw [f] at k1; exact k1
    | false =>
      have k1 := k2 rfl
      rw [if_neg (by simp)]
      cases f : b τ1 with
      | no => rw [f] at k1; exact k1
      | v y τ2 b2 => rw [f] at k1; exact k1
theorem e_chain {g h : D → D → Option D} (k : WE (a τ) fun x τ1 b1 => WE (b τ1) fun y τ2 b2 => stbV x b2 = true ∧ WM (see τ2 x) fun d => WM (see τ2 y) fun e => ∃ p, g d e = some (.bl p) ∧
    (p = true → WE (c τ2) fun z τ3 b3 => stbV y b3 = true ∧ WM (see τ3 y) fun e' => WM (see τ3 z) fun f => WM (h e' f) fun r => Q (.dat r) τ3 (b1 && b2 && b3)) ∧ (p = false → Q (.dat (.bl false)) τ2 (b1 && b2))) : WE (mChain g h a b c τ) Q := by
  unfold mChain
  cases e : a τ with
  | no => rw [e] at k; exact k
  | v x τ1 b1 =>
    rw [e] at k
    dsimp only [WE] at k ⊢
    cases f : b τ1 with
    | no => rw [f] at k; exact k
    | v y τ2 b2 =>
      rw [f] at k
      dsimp only at k ⊢
      obtain ⟨h1, k⟩ := k
      rw [if_pos h1]
      cases h2 : see τ2 x with
      | none => rw [h2] at k; exact k
      | some d =>
        rw [h2] at k
        dsimp only [WM] at k ⊢
        cases h3 : see τ2 y with
        | none => rw [h3] at k; exact k
        | some d' =>
          rw [h3] at k
          obtain ⟨p, h4, k1, k2⟩ := k
          dsimp only
          rw [h4]
          dsimp only
          cases p with
          | false => exact k2 rfl
          | true =>
            rw [if_pos rfl]
            have k := k1 rfl
            cases h5 : c τ2 with
            | no => rw [h5] at k; exact k
            | v z τ3 b3 =>
              rw [h5] at k
              obtain ⟨h6, k⟩ := k
              dsimp only
              rw [if_pos h6]
              cases h7 : see τ3 y with
              | none => rw [h7] at k; exact k
              | some e' =>
                rw [h7] at k
                dsimp only [WM] at k ⊢
                cases h8 : see τ3 z with
                | none => rw [h8] at k; exact k
                | some f' =>
                  rw [h8] at k
                  dsimp only at k ⊢
                  cases h9 : h e' f' with
                  | none => rw [h9] at k; exact k
                  | some r => rw [h9] at k; exact k
theorem a_nil {Q : List Vt → Ls → Bool → Prop} (k : Q [] τ true) : WA (mNil τ) Q := k
theorem a_cons {Q : List Vt → Ls → Bool → Prop} (k : WE (a τ) fun x τ1 b1 => WA (t τ1) fun xs τ2 b2 => stbV x b2 = true ∧ Q (x :: xs) τ2 (b1 && b2)) : WA (mCons a t τ) Q := by
  unfold mCons
  cases e : a τ with
  | no => rw [e] at k; exact k
  | v x τ1 b1 =>
    rw [e] at k
    dsimp only [WE] at k ⊢
    cases f : t τ1 with
    | no => rw [f] at k; exact k
    | v y τ2 b2 =>
      rw [f] at k
      obtain ⟨h1, k⟩ := k
      dsimp only
      rw [if_pos h1]
      exact k
theorem e_tup (k : WA (t τ) fun xs τ1 b1 => WM (tupV τ1 xs) fun r => Q r τ1 b1) : WE (mTup t τ) Q := by
  unfold mTup
  cases f : t τ with
  | no => rw [f] at k; exact k
  | v y τ2 b2 =>
    rw [f] at k
    dsimp only [WA, tupV] at k ⊢
    cases h : allDat y with
    | some ds =>
      rw [h] at k
      dsimp only at k ⊢
      split <;> rename_i hl
      · rw [if_pos hl] at k; exact k
      · rw [if_neg hl] at k; exact k
    | none =>
      rw [h] at k
      dsimp only at k ⊢
      cases h' : allSee τ2 y with
      | none => rw [h'] at k; exact k
      | some ds =>
        rw [h'] at k
        dsimp only at k ⊢
        split <;> rename_i hl
        · rw [if_pos hl] at k; exact k
        · rw [if_neg hl] at k; exact k
theorem e_lst (k : WA (t τ) fun xs τ1 b1 => WM (lstV τ1 xs) fun r => Q r τ1 b1) : WE (mLst t τ) Q := by
  unfold mLst
  cases f : t τ with
  | no => rw [f] at k; exact k
  | v y τ2 b2 =>
    rw [f] at k
    dsimp only [WA, lstV] at k ⊢
    cases h : allDat y with
    | some ds =>
      rw [h] at k
      dsimp only at k ⊢
      split <;> rename_i hl
      · rw [if_pos hl] at k; exact k
      · rw [if_neg hl] at k; exact k
    | none =>
      rw [h] at k
      dsimp only at k ⊢
      cases h' : allSee τ2 y with
      | none => rw [h'] at k; exact k
      | some ds =>
        rw [h'] at k
        dsimp only at k ⊢
        split <;> rename_i hl
        · rw [if_pos hl] at k; exact k
        · rw [if_neg hl] at k; exact k
theorem e_cb {g : List D → Option D} (k : WA (t τ) fun xs τ1 b1 => WM (allSee τ1 xs) fun ds => WM (g ds) fun d => Q (.dat d) τ1 b1) : WE (mCB g t τ) Q := by
  unfold mCB
  cases f : t τ with
  | no => rw [f] at k; exact k
  | v y τ2 b2 =>
    rw [f] at k
    dsimp only [WA] at k ⊢
    cases h1 : allSee τ2 y with
    | none => rw [h1] at k; exact k
    | some ds =>
      rw [h1] at k
      dsimp only [WM] at k ⊢
      cases h2 : g ds with
      | none => rw [h2] at k; exact k
      | some d => rw [h2] at k; exact k
theorem e_isi2 {m n : String} (k : WE (a τ) fun x τ1 b1 => WM (see τ1 x) fun d => WM (isi1 d m) fun p => WM (isi1 d n) fun q => Q (.dat (.bl (p || q))) τ1 b1) : WE (mIsi2 m n a τ) Q := by
  unfold mIsi2
  cases f : a τ with
  | no => rw [f] at k; exact k
  | v y τ2 b2 =>
    rw [f] at k
    dsimp only [WE] at k ⊢
    cases h1 : see τ2 y with
    | none => rw [h1] at k; exact k
    | some ds =>
      rw [h1] at k
      dsimp only [WM] at k ⊢
      cases h2 : isi1 ds m with
      | none => rw [h2] at k; exact k
      | some d =>
        rw [h2] at k
        dsimp only at k ⊢
        cases h3 : isi1 ds n with
        | none => rw [h3] at k; exact k
        | some d' => rw [h3] at k; exact k
theorem e_isiO {n : String} (k : WE (a τ) fun x τ1 b1 => ∃ p, isO n x = some p ∧ Q (.dat (.bl p)) τ1 b1) : WE (mIsiO n a τ) Q := by
  unfold mIsiO
  cases f : a τ with
  | no => rw [f] at k; exact k
  | v y τ2 b2 =>
    rw [f] at k
    obtain ⟨p, h, k⟩ := k
    unfold isO at h
    split at h
    · split at h <;> cases h
      dsimp only
      rw [if_pos (by assumption)]
      exact k
    · cases h; exact k
    · cases h; exact k
    · cases h
theorem o_none {Q : Option Int → Ls → Bool → Prop} (k : Q none τ true) : WO (mNoPart τ) Q := k
theorem o_part {Q : Option Int → Ls → Bool → Prop} (k : WE (a τ) fun x τ1 b1 => ∃ n, x = .dat (.int n) ∧ Q (some n) τ1 b1) : WO (mPart a τ) Q := by
  unfold mPart
  cases f : a τ with
  | no => rw [f] at k; exact k
  | v y τ2 b2 =>
    rw [f] at k
    obtain ⟨p, rfl, k⟩ := k
    exact k
theorem e_sl {tup : Bool} {l h : MO} (k : WE (a τ) fun x τ1 b1 => WO (l τ1) fun lo τ2 b2 => WO (h τ2) fun hi τ3 b3 => stbV x b2 = true ∧ stbV x b3 = true ∧ WM (fSl tup τ3 x lo hi) fun r => Q r τ3 (b1 && b2 && b3)) : WE (mSl tup a l h τ) Q := by
  unfold mSl
  cases e : a τ with
  | no => rw [e] at k; exact k
  | v x τ1 b1 =>
    rw [e] at k
    dsimp only [WE] at k ⊢
    cases f : l τ1 with
    | no => rw [f] at k; exact k
    | v y τ2 b2 =>
      rw [f] at k
      dsimp only [WO] at k ⊢
      cases g : h τ2 with
      | no => rw [g] at k; exact k
      | v z τ3 b3 =>
        rw [g] at k
        obtain ⟨h1, h2, k⟩ := k
        dsimp only
        rw [if_pos ⟨h1, h2⟩]
        cases hh : fSl tup τ3 x y z with
        | none => rw [hh] at k; exact k
        | some r => rw [hh] at k; exact k
theorem e_fmt (k : WE (a τ) fun x τ1 b1 => (∃ i : Int, x = .dat (.int i) ∧ (-(10 ^ 500) < i ∧ i < 10 ^ 500) ∧ Q (.dat (.str (Str.ofString (toString i)))) τ1 b1)) : WE (mFmt a τ) Q := by
  unfold mFmt
  cases e : a τ with
  | no => rw [e] at k; exact k
  | v x τ1 b1 =>
    rw [e] at k
    obtain ⟨i, rfl, h, k⟩ := k
    dsimp only
    rw [if_pos h]
    exact k
theorem j_nil {Q : Str → Ls → Bool → Prop} {acc : Str} (k : Q acc τ true) : WJ (mJs [] acc τ) Q := k
theorem j_cons {Q : Str → Ls → Bool → Prop} {acc : Str} {es : List ME} (k : WE (a τ) fun x τ1 b1 => ∃ y, x = .dat (.str y) ∧ (acc ++ y).length ≤ 100000 ∧ WJ (mJs es (acc ++ y) τ1) fun r τ2 b2 => Q r τ2 (b1 && b2)) : WJ (mJs (a :: es) acc τ) Q := by
  unfold mJs
  cases e : a τ with
  | no => rw [e] at k; exact k
  | v x τ1 b1 =>
    rw [e] at k
    obtain ⟨y, rfl, h, k⟩ := k
    dsimp only
    rw [if_pos h]
    cases f : mJs es (acc ++ y) τ1 with
    | no => rw [f] at k; exact k
    | v z τ2 b2 => rw [f] at k; exact k
theorem e_joined {es : List ME} (k : WJ (mJs es Str.empty τ) fun r τ1 b1 => Q (.dat (.str r)) τ1 b1) : WE (mJoined es τ) Q := by
  unfold mJoined
  cases f : mJs es Str.empty τ with
  | no => rw [f] at k; exact k
  | v z τ2 b2 => rw [f] at k; exact k
theorem e_pop {l : Bool} {ds : List D} {d : D} (h : τ[i]? = some (some (.own l (.lst ds)))) (hd : ds[ds.length - 1]? = some d) (k : Q (.dat d) (τ.set i (some (.own l (.lst ds.dropLast)))) false) : WE (mPop i τ) Q := by
  unfold mPop
  rw [h]
  dsimp only
  rw [hd]
  exact k
theorem e_popAt {l : Bool} {ds0 : List D} (h : τ[i]? = some (some (.own l (.lst ds0)))) (k : WE (a τ) fun x τ1 _ => ∃ n ds d, x = .dat (.int n) ∧ (0 ≤ n ∧ n < 100000) ∧ τ1[i]? = some (some (.own l (.lst ds))) ∧ ds[n.toNat]? = some d ∧ Q (.dat d) (τ1.set i (some (.own l (.lst (ds.eraseIdx n.toNat))))) false) : WE (mPopAt i a τ) Q := by
  unfold mPopAt
  rw [h]
  dsimp only
  cases e : a τ with
  | no => rw [e] at k; exact k
  | v x τ1 b1 =>
    rw [e] at k
    obtain ⟨n, ds, d, rfl, h1, h2, h3, k⟩ := k
    dsimp only
    rw [if_pos h1, h2]
    dsimp only
    rw [if_pos rfl, h3]
    exact k
/-! calls -/
theorem c_dat {S : Sem} {rs as : List Vt} {b : Bool} (h : argsV τ rs = some as) (k : WF (S as) fun r _ => Q (demV r) τ b) : WE (callF false S τ rs b) Q := by
  unfold callF
  rw [if_neg (by simp), h]
  dsimp only
  cases e : S as with
  | no => rw [e] at k; exact k
  | v r as' => rw [e] at k; exact k
theorem c_own {S : Sem} {rest as : List Vt} {b l : Bool} {o : Ow} (h0 : τ[j]? = some (some (.own l o))) (h1 : rest.all (neAli j) = true) (h : argsV τ rest = some as) (k : WF (S (.own false o :: as)) fun r bs => ∃ o', ownB bs = some o' ∧ Q (demV r) (τ.set j (some (.own l o'))) false) : WE (callF true S τ (.ali j :: rest) b) Q := by
  unfold callF
  rw [if_pos rfl]
  dsimp only
  rw [h0]
  dsimp only
  rw [if_pos h1, h]
  dsimp only
  cases e : S (.own false o :: as) with
  | no => rw [e] at k; exact k
  | v r as' =>
    rw [e] at k
    obtain ⟨o', e', k⟩ := k
    cases as' with
    | nil => cases e'
    | cons x xs =>
      cases x with
      | own l' o'' => cases e'; exact k
      | _ => cases e'
theorem e_call {ow : Bool} {S : Sem} (k : WA (t τ) fun rs τ1 b1 => WE (callF ow S τ1 rs b1) Q) : WE (mCall ow S t τ) Q := by
  unfold mCall
  cases e : t τ with
  | no => rw [e] at k; exact k
  | v r τ1 b1 => rw [e] at k; exact k
theorem e_meth {c0 m : String} {ow : Bool} {S : Sem} (k : WE (a τ) fun x τ0 b0 => isInst c0 m τ0 x = true ∧ WA (t τ0) fun rs τ1 b1 => stbV x b1 = true ∧ WE (callF ow S τ1 (x :: rs) (b0 && b1)) Q) : WE (mMeth c0 m ow S a t τ) Q := by
  unfold mMeth
  cases e : a τ with
  | no => rw [e] at k; exact k
  | v x τ0 b0 =>
    rw [e] at k
    obtain ⟨h, k⟩ := k
    dsimp only
    rw [if_pos h]
    cases f : t τ0 with
    | no => rw [f] at k; exact k
    | v r τ1 b1 =>
      rw [f] at k
      obtain ⟨h', k⟩ := k
      dsimp only
      rw [if_pos h']
      exact k
theorem e_make {c0 : String} {S : Sem} (k : WA (t τ) fun rs τ1 b1 => ∃ as, argsV τ1 rs = some as ∧ WF (S (.own false (.ins c0 [] []) :: as)) fun r bs => ∃ d, newB c0 r bs = some d ∧ Q (.dat d) τ1 b1) : WE (mMake c0 S t τ) Q := by
  unfold mMake
  cases e : t τ with
  | no => rw [e] at k; exact k
  | v rs τ1 b1 =>
    rw [e] at k
    obtain ⟨as, h, k⟩ := k
    dsimp only
    rw [h]
    dsimp only
    cases f : S (.own false (.ins c0 [] []) :: as) with
    | no => rw [f] at k; exact k
    | v r bs =>
      rw [f] at k
      obtain ⟨d, h', k⟩ := k
      unfold newB at h'
      split at h'
      · split at h' <;> cases h'
        dsimp only
        rw [if_pos (by assumption)]
        exact k
      · cases h'
theorem e_ownEq {c0 : String} {neg : Bool} {S : Sem} (k : WE (a τ) fun x τ1 b1 => ∃ d0, x = .dat d0 ∧ isC c0 d0 = true ∧ WE (b τ1) fun y τ2 b2 => ∃ d, y = .dat d ∧ eqKind c0 d = true ∧ WF (S [.dat d0, .dat (untpl d)]) fun r _ => ∃ p, r = .dat (.bl p) ∧ Q (.dat (.bl (if neg = true then !p else p))) τ2 (b1 && b2)) : WE (mOwnEq neg c0 S a b τ) Q := by
  unfold mOwnEq
  cases e : a τ with
  | no => rw [e] at k; exact k
  | v x τ1 b1 =>
    rw [e] at k
    obtain ⟨d0, rfl, hc, k⟩ := k
    obtain ⟨ns, xs, rfl⟩ := isC_obj hc
    dsimp only
    cases f : b τ1 with
    | no => rw [f] at k; exact k
    | v y τ2 b2 =>
      rw [f] at k
      obtain ⟨d, rfl, h, k⟩ := k
      dsimp only
      rw [if_pos ⟨rfl, h⟩]
      cases g : S [.dat (.obj c0 ns xs), .dat (untpl d)] with
      | no => rw [g] at k; exact k
      | v r bs =>
        rw [g] at k
        obtain ⟨p, rfl, k⟩ := k
        exact k
theorem e_ownLen {c0 : String} {S : Sem} (k : WE (a τ) fun x τ1 b1 => ∃ d0, x = .dat d0 ∧ isC c0 d0 = true ∧ WF (S [.dat d0]) fun r _ => ∃ p, r = .dat (.int p) ∧ (0 ≤ p ∧ p ≤ 1000000) ∧ Q (.dat (.int p)) τ1 b1) : WE (mOwnLen c0 S a τ) Q := by
  unfold mOwnLen
  cases e : a τ with
  | no => rw [e] at k; exact k
  | v x τ1 b1 =>
    rw [e] at k
    obtain ⟨d0, rfl, hc, k⟩ := k
    obtain ⟨ns, xs, rfl⟩ := isC_obj hc
    dsimp only
    rw [if_pos rfl]
    cases g : S [.dat (.obj c0 ns xs)] with
    | no => rw [g] at k; exact k
    | v r bs =>
      rw [g] at k
      obtain ⟨p, rfl, h, k⟩ := k
      dsimp only
      rw [if_pos h]
      exact k
theorem e_ownRepr {c0 : String} {S : Sem} (k : WE (a τ) fun x τ1 b1 => ∃ d0, x = .dat d0 ∧ isC c0 d0 = true ∧ WF (S [.dat d0]) fun r _ => ∃ p, r = .dat (.str p) ∧ Q (.dat (.str p)) τ1 b1) : WE (mOwnRepr c0 S a τ) Q := by
  unfold mOwnRepr
  cases e : a τ with
  | no => rw [e] at k; exact k
  | v x τ1 b1 =>
    rw [e] at k
    obtain ⟨d0, rfl, hc, k⟩ := k
    obtain ⟨ns, xs, rfl⟩ := isC_obj hc
    dsimp only
    rw [if_pos rfl]
    cases g : S [.dat (.obj c0 ns xs)] with
    | no => rw [g] at k; exact k
    | v r bs =>
      rw [g] at k
      obtain ⟨p, rfl, k⟩ := k
      exact k
end
section
variable {τ : Ls} {Q : Bool → Ls → Bool → Prop} {p q : MT} {a : ME}
theorem t_B (k : WE (a τ) fun x τ1 b1 => ∃ p, x = .dat (.bl p) ∧ Q p τ1 b1) : WT (mB' a τ) Q := by
  unfold mB'
  cases e : a τ with
  | no => rw [e] at k; exact k
  | v x τ1 b1 =>
    rw [e] at k
    obtain ⟨p, rfl, k1⟩ := k
    exact k1
theorem t_yes (k : Q true τ true) : WT (mYes τ) Q := k
theorem t_and (k : WT (p τ) fun x τ1 b1 => (x = true → WT (q τ1) fun r τ2 b2 => Q r τ2 (b1 && b2)) ∧ (x = false → Q false τ1 b1)) : WT (mAnd p q τ) Q := by
  unfold mAnd
  cases e : p τ with
  | no => rw [e] at k; exact k
  | v x τ1 b1 =>
    rw [e] at k
    obtain ⟨k1, k2⟩ := k
    dsimp only
    cases x with
    | true =>
      have k := k1 rfl
      rw [if_pos rfl]
      cases f : q τ1 with
      | no => rw [f] at k; exact k
      | v y τ2 b2 => rw [f] at k; exact k
    | false => exact k2 rfl
theorem t_or (k : WT (p τ) fun x τ1 b1 => (x = true → Q true τ1 b1) ∧ (x = false → WT (q τ1) fun r τ2 b2 => Q r τ2 (b1 && b2))) : WT (mOr p q τ) Q := by
  unfold mOr
  cases e : p τ with
  | no => rw [e] at k; exact k
  | v x τ1 b1 =>
    rw [e] at k
    obtain ⟨k1, k2⟩ := k
    dsimp only
    cases x with
    | false =>
      have k := k2 rfl
      rw [if_neg (by simp)]
      cases f : q τ1 with
      | no => rw [f] at k; exact k
      | v y τ2 b2 => rw [f] at k; exact k
    | true => exact k1 rfl
theorem t_not (k : WT (p τ) fun x τ1 b1 => Q (!x) τ1 b1) : WT (mNot p τ) Q := by
  unfold mNot
  cases e : p τ with
  | no => rw [e] at k; exact k
  | v x τ1 b1 => rw [e] at k; exact k
end
section
variable {τ : Ls} {Q : List It1 → Ls → Bool → Prop} {a : ME} {t : MA}
theorem i_rng1 (k : WA (t τ) fun xs τ1 b1 => ∃ n, xs = [.dat (.int n)] ∧ (-1000000 ≤ n ∧ n ≤ 1000000) ∧ Q (rngD 0 n.toNat) τ1 b1) : WI (mRng1 t τ) Q := by
  unfold mRng1
  cases e : t τ with
  | no => rw [e] at k; exact k
  | v x τ1 b1 =>
    rw [e] at k
    obtain ⟨n, rfl, h, k⟩ := k
    dsimp only
    rw [if_pos h]
    exact k
theorem i_rng2 (k : WA (t τ) fun xs τ1 b1 => ∃ m n, xs = [.dat (.int m), .dat (.int n)] ∧ (-1000000 ≤ m ∧ m ≤ 1000000 ∧ -1000000 ≤ n ∧ n ≤ 1000000) ∧ Q (rngD m (n - m).toNat) τ1 b1) : WI (mRng2 t τ) Q := by
  unfold mRng2
  cases e : t τ with
  | no => rw [e] at k; exact k
  | v x τ1 b1 =>
    rw [e] at k
    obtain ⟨m, n, rfl, h, k⟩ := k
    dsimp only
    rw [if_pos h]
    exact k
theorem i_rng3 (k : WA (t τ) fun xs τ1 b1 => ∃ m n, xs = [.dat (.int m), .dat (.int n), .dat (.int (-1))] ∧ (-1000000 ≤ m ∧ m ≤ 1000000 ∧ -1000000 ≤ n ∧ n ≤ 1000000) ∧ Q (dwnD m (m - n).toNat) τ1 b1) : WI (mRng3 t τ) Q := by
  unfold mRng3
  cases e : t τ with
  | no => rw [e] at k; exact k
  | v x τ1 b1 =>
    rw [e] at k
    obtain ⟨m, n, rfl, h, k⟩ := k
    dsimp only
    rw [if_pos ⟨rfl, h⟩]
    exact k
theorem i_seq (k : WE (a τ) fun x τ1 b1 => WM (srcV x) fun ts => Q (ts.map .one) τ1 b1) : WI (mSeqI a τ) Q := by
  unfold mSeqI
  cases e : a τ with
  | no => rw [e] at k; exact k
  | v x τ1 b1 =>
    rw [e] at k
    dsimp only [WE] at k ⊢
    cases f : srcV x with
    | none => rw [f] at k; exact k
    | some ts => rw [f] at k; exact k
theorem i_enum (k : WA (t τ) fun xs τ1 b1 => ∃ x, xs = [x] ∧ enOk x = true ∧ WM (srcV x) fun ts => Q (enumD 0 ts) τ1 b1) : WI (mEnum t τ) Q := by
  unfold mEnum
  cases e : t τ with
  | no => rw [e] at k; exact k
  | v x τ1 b1 =>
    rw [e] at k
    obtain ⟨x, rfl, h, k⟩ := k
    dsimp only
    rw [if_pos h]
    cases f : srcV x with
    | none => rw [f] at k; exact k
    | some ts => rw [f] at k; exact k
theorem i_zip (k : WA (t τ) fun xs τ1 b1 => ∃ x y, xs = [x, y] ∧ isLst x = isLst y ∧ WM (srcV x) fun ts => WM (srcV y) fun us => Q (List.zipWith .two ts us) τ1 b1) : WI (mZip t τ) Q := by
  unfold mZip
  cases e : t τ with
  | no => rw [e] at k; exact k
  | v x τ1 b1 =>
    rw [e] at k
    obtain ⟨x, y, rfl, h, k⟩ := k
    dsimp only
    rw [if_pos h]
    cases f : srcV x with
    | none => rw [f] at k; exact k
    | some ts =>
      rw [f] at k
      dsimp only [WM] at k ⊢
      cases g : srcV y with
      | none => rw [g] at k; exact k
      | some us => rw [g] at k; exact k
end
section
variable {τ : Ls} {N : Ls → Prop} {R : Vt → Ls → Prop} {B C : Ls → Prop} {a e : ME} {s s' : MS} {t : MT} {g : MG} {i j : Nat}
theorem s_ret {e : ME} (k : WE (e τ) fun r τ1 _ => match r with
    | .own false _ => False
    | .ali i => ∃ o, τ1[i]? = some (some (.own true o)) ∧ R (.own true o) τ1
    | r => R r τ1) : WS (mRet e τ) N R B C := by
  unfold mRet
  cases f : e τ with
  | no => rw [f] at k; exact k
  | v r τ1 b1 =>
    rw [f] at k
    dsimp only [WE] at k ⊢
    cases r with
    | dat d => exact k
    | vol d => exact k
    | tmp d => exact k
    | own l o => cases l with
      | false => exact k.elim
      | true => exact k
    | ali i =>
      obtain ⟨o, h, k⟩ := k
      dsimp only
      rw [h]
      exact k
theorem s_retN (k : R (.dat .non) τ) : WS (mRetN τ) N R B C := k
theorem s_next (k : N τ) : WS (mNext τ) N R B C := k
theorem s_brk (k : B τ) : WS (mBrk τ) N R B C := k
theorem s_cont (k : C τ) : WS (mCont τ) N R B C := k
theorem s_seq (k : WS (s τ) (fun τ1 => WS (s' τ1) N R B C) R B C) : WS (mSeq s s' τ) N R B C := by
  unfold mSeq
  cases f : s τ with
  | nx τ1 => rw [f] at k; exact k
  | rt => rw [f] at k; exact k
  | bk => rw [f] at k; exact k
  | ct => rw [f] at k; exact k
  | no => rw [f] at k; exact k
theorem s_if (k : WT (t τ) fun x τ1 _ => (x = true → WS (s τ1) N R B C) ∧ (x = false → WS (s' τ1) N R B C)) : WS (mIfS t s s' τ) N R B C := by
  unfold mIfS
  cases f : t τ with
  | no => rw [f] at k; exact k
  | v x τ1 b1 =>
    rw [f] at k
    obtain ⟨k1, k2⟩ := k
    dsimp only
    cases x with
    | true => rw [if_pos rfl]; exact k1 rfl
    | false => rw [if_neg (by simp)]; exact k2 rfl
theorem s_drop (k : WE (e τ) fun _ τ1 _ => N τ1) : WS (mDrop e τ) N R B C := by
  unfold mDrop
  cases f : e τ with
  | no => rw [f] at k; exact k
  | v r τ1 b1 => rw [f] at k; exact k
theorem s_asg (k : WE (e τ) fun x τ1 _ => WM (g x τ1) N) : WS (mAsg e g τ) N R B C := by
  unfold mAsg
  cases f : e τ with
  | no => rw [f] at k; exact k
  | v r τ1 b1 =>
    rw [f] at k
    dsimp only [WE] at k ⊢
    cases h : g r τ1 with
    | none => rw [h] at k; exact k
    | some τ2 => rw [h] at k; exact k
theorem s_par {i j : Nat} (k : WE (a τ) fun x τ1 b1 => WE (e τ1) fun y τ2 b2 => stbV x b2 = true ∧ i ≠ j ∧ ∃ t u p q, stkV x = some t ∧ stkV y = some u ∧ τ2[i]? = some p ∧ τ2[j]? = some q ∧ nrV p = true ∧ nrV q = true ∧ N ((τ2.set i (some t)).set j (some u))) : WS (mPar i j a e τ) N R B C := by
  unfold mPar
  cases f : a τ with
  | no => rw [f] at k; exact k
  | v x τ1 b1 =>
    rw [f] at k
    dsimp only [WE] at k ⊢
    cases g : e τ1 with
    | no => rw [g] at k; exact k
    | v y τ2 b2 =>
      rw [g] at k
      obtain ⟨h1, h2, t, u, p, q, h3, h4, h5, h6, h7, h8, k⟩ := k
      dsimp only
      rw [if_pos ⟨h1, h2⟩, h3, h4]
      dsimp only
      rw [h5, h6]
      dsimp only
      rw [h7, h8]
      exact k
theorem s_aug {f : Int → Int → Int} {x : Int} (h : τ[i]? = some (some (.dat (.int x)))) (k : WE (e τ) fun y τ2 _ => ∃ b u, y = .dat (.int b) ∧ τ2[i]? = some u ∧ nrV u = true ∧ N (τ2.set i (some (.dat (.int (f x b)))))) : WS (mAug f i e τ) N R B C := by
  unfold mAug
  rw [h]
  dsimp only
  cases g : e τ with
  | no => rw [g] at k; exact k
  | v y τ2 b2 =>
    rw [g] at k
    obtain ⟨b, u, rfl, h1, h2, k⟩ := k
    dsimp only
    rw [h1]
    dsimp only
    rw [if_pos h2]
    exact k
theorem s_augI {f : Int → Int → Int} {n : Nat} {l : Bool} {ds0 : List D} {x : Int} (h : τ[i]? = some (some (.own l (.lst ds0)))) (h' : ds0[n]? = some (.int x)) (k : WE (e τ) fun y τ2 _ => ∃ b ds, y = .dat (.int b) ∧ τ2[i]? = some (some (.own l (.lst ds))) ∧ n < ds.length ∧ N (τ2.set i (some (.own l (.lst (ds.set n (.int (f x b)))))))) : WS (mAugI f i n e τ) N R B C := by
  unfold mAugI
  rw [h]
  dsimp only
  rw [h']
  dsimp only
  cases g : e τ with
  | no => rw [g] at k; exact k
  | v y τ2 b2 =>
    rw [g] at k
    obtain ⟨b, ds, rfl, h1, h2, k⟩ := k
    dsimp only
    rw [h1]
    dsimp only
    rw [if_pos ⟨rfl, h2⟩]
    exact k
theorem s_setI {a : ME} (k : WE (e τ) fun x τ1 _ => ∃ d l ds0, x = .dat d ∧ τ1[i]? = some (some (.own l (.lst ds0))) ∧ WE (a τ1) fun y τ2 _ => ∃ n ds, y = .dat (.int n) ∧ τ2[i]? = some (some (.own l (.lst ds))) ∧ 0 ≤ n ∧ n.toNat < ds.length ∧ N (τ2.set i (some (.own l (.lst (ds.set n.toNat d)))))) : WS (mSetI i e a τ) N R B C := by
  unfold mSetI
  cases f : e τ with
  | no => rw [f] at k; exact k
  | v x τ1 b1 =>
    rw [f] at k
    obtain ⟨d, l, ds0, rfl, h, k⟩ := k
    dsimp only
    rw [h]
    dsimp only
    cases g : a τ1 with
    | no => rw [g] at k; exact k
    | v y τ2 b2 =>
      rw [g] at k
      obtain ⟨n, ds, rfl, h1, h2, h3, k⟩ := k
      dsimp only
      rw [h1]
      dsimp only
      rw [if_pos ⟨rfl, h2, h3⟩]
      exact k
theorem s_app {l : Bool} {ds0 : List D} (h : τ[i]? = some (some (.own l (.lst ds0)))) (k : WE (e τ) fun x τ1 _ => ∃ d ds, x = .dat d ∧ τ1[i]? = some (some (.own l (.lst ds))) ∧ ds.length < 100000 ∧ N (τ1.set i (some (.own l (.lst (ds ++ [d])))))) : WS (mApp i e τ) N R B C := by
  unfold mApp
  rw [h]
  dsimp only
  cases f : e τ with
  | no => rw [f] at k; exact k
  | v x τ1 b1 =>
    rw [f] at k
    obtain ⟨d, ds, rfl, h1, h2, k⟩ := k
    dsimp only
    rw [h1]
    dsimp only
    rw [if_pos ⟨rfl, h2⟩]
    exact k
theorem s_fld {c0 f : String} (k : WE (e τ) fun x τ1 _ => ∃ d l ns xs, x = .dat d ∧ τ1[i]? = some (some (.own l (.ins c0 ns xs))) ∧ ns.length < 900 ∧ N (τ1.set i (some (.own l (.ins c0 (putNP f ns) (putXP f d ns xs)))))) : WS (mFldS c0 f i e τ) N R B C := by
  unfold mFldS
  cases g : e τ with
  | no => rw [g] at k; exact k
  | v x τ1 b1 =>
    rw [g] at k
    obtain ⟨d, l, ns, xs, rfl, h1, h2, k⟩ := k
    dsimp only
    rw [h1]
    dsimp only
    rw [if_pos ⟨rfl, h2⟩]
    exact k
/-! loops -/
theorem s_for {it : MI} {g : MGI} (k : WI (it τ) fun xs τ1 _ => WS (runF g s xs τ1) N R B C) : WS (mFor it g s τ) N R B C := by
  unfold mFor
  cases f : it τ with
  | no => rw [f] at k; exact k
  | v x τ1 b1 => rw [f] at k; exact k
theorem r_for {g : MGI} (I : Nat → Ls → Prop) {xs : List It1} (h0 : I 0 τ) (st : ∀ k x σ, xs[k]? = some x → I k σ → WM (g x σ) fun σ1 => WS (s σ1) (I (k + 1)) R N (I (k + 1))) (hn : ∀ σ, I xs.length σ → N σ) : WS (runF g s xs τ) N R B C := by
  have key : ∀ (ys : List It1) (k : Nat) (σ : Ls), (∀ j x, ys[j]? = some x → xs[k + j]? = some x) → k + ys.length = xs.length → I k σ → WS (runF g s ys σ) N R B C := by
    intro ys
    induction ys with
    | nil =>
      intro k σ h1 h2 h3
      have e : k = xs.length := by simpa using h2
      subst e
      exact hn _ h3
    | cons y ys ih =>
      intro k σ h1 h2 h3
      have z := st k y σ (by simpa using h1 0 y rfl) h3
      unfold runF
      cases hg : g y σ with
      | none => rw [hg] at z; exact z
      | some σ1 =>
        rw [hg] at z
        dsimp only [WM] at z ⊢
        have nx : ∀ σ2, I (k + 1) σ2 → WS (runF g s ys σ2) N R B C := fun σ2 hh => ih (k + 1) σ2 (fun j x hx => by
          have := h1 (j + 1) x (by simpa using hx)
          rwa [show k + (j + 1) = k + 1 + j by omega] at this) (by simp only [List.length_cons] at h2; omega) hh
        cases hs : s σ1 with
        | nx σ2 => rw [hs] at z; exact nx _ z
        | ct σ2 => rw [hs] at z; exact nx _ z
        | bk σ2 => rw [hs] at z; exact z
        | rt r σ2 => rw [hs] at z; exact z
        | no => rw [hs] at z; exact z
  exact key xs 0 τ (fun j x h => by simpa using h) (by simp) h0
theorem f_nil {g : MGI} (k : N τ) : WS (runF g s [] τ) N R B C := k
theorem f_cons {g : MGI} {x : It1} {xs : List It1} (k : WM (g x τ) fun σ1 => WS (s σ1) (fun σ2 => WS (runF g s xs σ2) N R B C) R N (fun σ2 => WS (runF g s xs σ2) N R B C)) : WS (runF g s (x :: xs) τ) N R B C := by
  unfold runF
  cases hg : g x τ with
  | none => rw [hg] at k; exact k
  | some σ1 =>
    rw [hg] at k
    dsimp only [WM] at k ⊢
    cases hs : s σ1 with
    | nx σ2 => rw [hs] at k; exact k
    | ct σ2 => rw [hs] at k; exact k
    | bk σ2 => rw [hs] at k; exact k
    | rt r σ2 => rw [hs] at k; exact k
    | no => rw [hs] at k; exact k
theorem s_while {n : Nat} (I : Nat → Ls → Prop) {m : Nat} (h0 : I m τ) (hm : m < n) (st : ∀ k σ, I k σ → WT (t σ) fun x σ1 _ => (x = true → 0 < k ∧ WS (s σ1) (I (k - 1)) R N (I (k - 1))) ∧ (x = false → N σ1)) : WS (mWhile n t s τ) N R B C := by
  unfold mWhile
  induction n generalizing m τ with
  | zero => omega
  | succ n ih =>
    have z := st m τ h0
    unfold runW
    cases e : t τ with
    | no => rw [e] at z; exact z
    | v x σ1 b =>
      rw [e] at z
      obtain ⟨z1, z2⟩ := z
      dsimp only
      cases x with
      | false => exact z2 rfl
      | true =>
        rw [if_pos rfl]
        obtain ⟨z0, z1⟩ := z1 rfl
        cases hs : s σ1 with
        | nx σ2 => rw [hs] at z1; exact ih z1 (by omega)
        | ct σ2 => rw [hs] at z1; exact ih z1 (by omega)
        | bk σ2 => rw [hs] at z1; exact z1
        | rt r σ2 => rw [hs] at z1; exact z1
        | no => rw [hs] at z1; exact z1
end
section
variable {τ : Ls} {Q : Vt → Ls → Bool → Prop} {it : MI} {g : MGI} {t : MT} {e : ME} {vs : List Nat}
theorem e_lc (k : WI (it τ) fun xs τ1 _ => stillP τ1 vs = true ∧ xs.length ≤ 100000 ∧ WL (runC vs g t e xs (wipeP τ1 vs)) fun ds τ2 => cleanP τ2 vs = true ∧ Q (.own true (.lst ds)) (unwipeP τ1 τ2 vs) false) : WE (mLc it g t e vs τ) Q := by
  unfold mLc
  cases f : it τ with
  | no => rw [f] at k; exact k
  | v xs τ1 b1 =>
    rw [f] at k
    obtain ⟨h1, h2, k⟩ := k
    dsimp only
    rw [if_pos ⟨h1, h2⟩]
    cases h : runC vs g t e xs (wipeP τ1 vs) with
    | no => rw [h] at k; exact k
    | v ds τ2 =>
      rw [h] at k
      obtain ⟨h3, k⟩ := k
      dsimp only
      rw [if_pos (by exact h3)]
      exact k
/-- a comprehension whose parts change nothing -/
theorem r_lc (F : It1 → Option D) {xs : List It1} {Q : List D → Ls → Prop} (hw : wipeP τ vs = τ)
    (st : ∀ (k : Nat) (x : It1), xs[k]? = some x → WM (g x τ) fun σ1 => WT (t σ1) fun b σ2 _ => (b = true → WE (e σ2) fun r σ3 _ => ∃ d, r = .dat d ∧ F x = some d ∧ freesP σ3 vs = true ∧ wipeP σ3 vs = τ) ∧ (b = false → F x = none ∧ freesP σ2 vs = true ∧ wipeP σ2 vs = τ)) (hq : Q (xs.filterMap F) τ) : WL (runC vs g t e xs τ) Q := by
  have key : ∀ ys : List It1, (∀ (j : Nat) (x : It1), ys[j]? = some x → ∃ k : Nat, xs[k]? = some x) → runC vs g t e ys τ = .v (ys.filterMap F) τ := by
    intro ys
    induction ys with
    | nil => intro _; rfl
    | cons y ys ih =>
      intro h
      have ih := ih fun j x hx => h (j + 1) x (by simpa using hx)
      obtain ⟨k, hk⟩ := h 0 y rfl
      have z := st k y hk
      unfold runC
      cases hg : g y τ with
      | none => rw [hg] at z; exact z.elim
      | some σ1 =>
        rw [hg] at z
        dsimp only [WM] at z ⊢
        cases ht : t σ1 with
        | no => rw [ht] at z; exact z.elim
        | v b σ2 b2 =>
          rw [ht] at z
          obtain ⟨z1, z2⟩ := z
          dsimp only
          cases b with
          | true =>
            rw [if_pos rfl]
            have z1 := z1 rfl
            cases he : e σ2 with
            | no => rw [he] at z1; exact z1.elim
            | v r σ3 b3 =>
              rw [he] at z1
              obtain ⟨d, rfl, h1, h2, h3⟩ := z1
              dsimp only
              rw [if_pos h2, h3, ih]
              dsimp only
              rw [List.filterMap_cons_some h1]
          | false =>
            obtain ⟨h1, h2, h3⟩ := z2 rfl
            rw [if_neg (by simp), if_pos h2, h3, ih, List.filterMap_cons_none h1]
  rw [key xs fun j x h => ⟨j, h⟩]
  exact hq
theorem l_nil {Q : List D → Ls → Prop} (k : Q [] τ) : WL (runC vs g t e [] τ) Q := k
theorem l_cons {Q : List D → Ls → Prop} {x : It1} {xs : List It1} (k : WM (g x τ) fun σ1 => WT (t σ1) fun b σ2 _ => (b = true → WE (e σ2) fun r σ3 _ => ∃ d, r = .dat d ∧ freesP σ3 vs = true ∧ WL (runC vs g t e xs (wipeP σ3 vs)) fun ds σ => Q (d :: ds) σ) ∧ (b = false → freesP σ2 vs = true ∧ WL (runC vs g t e xs (wipeP σ2 vs)) Q)) : WL (runC vs g t e (x :: xs) τ) Q := by
  unfold runC
  cases hg : g x τ with
  | none => rw [hg] at k; exact k
  | some σ1 =>
    rw [hg] at k
    dsimp only [WM] at k ⊢
    cases ht : t σ1 with
    | no => rw [ht] at k; exact k
    | v b σ2 b2 =>
      rw [ht] at k
      obtain ⟨z1, z2⟩ := k
      dsimp only
      cases b with
      | true =>
        rw [if_pos rfl]
        have z1 := z1 rfl
        cases he : e σ2 with
        | no => rw [he] at z1; exact z1
        | v r σ3 b3 =>
          rw [he] at z1
          obtain ⟨d, rfl, h2, h3⟩ := z1
          dsimp only
          rw [if_pos h2]
          cases hr : runC vs g t e xs (wipeP σ3 vs) with
          | no => rw [hr] at h3; exact h3
          | v es σ' => rw [hr] at h3; exact h3
      | false =>
        obtain ⟨h2, h3⟩ := z2 rfl
        rw [if_neg (by simp), if_pos h2]
        exact h3
/-- a comprehension with an invariant -/
theorem r_lcI (I : Nat → List D → Ls → Prop) {xs : List It1} {Q : List D → Ls → Prop} (h0 : I 0 [] τ)
    (st : ∀ (k : Nat) (x : It1) (σ : Ls) (ds : List D), xs[k]? = some x → I k ds σ → WM (g x σ) fun σ1 => WT (t σ1) fun b σ2 _ => (b = true → WE (e σ2) fun r σ3 _ => ∃ d, r = .dat d ∧ freesP σ3 vs = true ∧ I (k + 1) (ds ++ [d]) (wipeP σ3 vs)) ∧ (b = false → freesP σ2 vs = true ∧ I (k + 1) ds (wipeP σ2 vs))) (hq : ∀ ds σ, I xs.length ds σ → Q ds σ) : WL (runC vs g t e xs τ) Q := by
  have key : ∀ (ys : List It1) (k : Nat) (σ : Ls) (ds : List D), (∀ (j : Nat) (x : It1), ys[j]? = some x → xs[k + j]? = some x) → k + ys.length = xs.length → I k ds σ → WL (runC vs g t e ys σ) fun es σ' => I xs.length (ds ++ es) σ' := by
    intro ys
    induction ys with
    | nil =>
      intro k σ ds _ hl h
      show I xs.length (ds ++ []) σ
      have e : k = xs.length := by simpa using hl
      subst e
      simpa using h
    | cons y ys ih =>
      intro k σ ds h hl hI
      have z := st k y σ ds (by simpa using h 0 y rfl) hI
      have hm : ∀ (j : Nat) (x : It1), ys[j]? = some x → xs[k + 1 + j]? = some x := fun j x hx => by
        have := h (j + 1) x (by simpa using hx)
        rwa [show k + (j + 1) = k + 1 + j by omega] at this
      have hl' : k + 1 + ys.length = xs.length := by simp only [List.length_cons] at hl; omega
      unfold runC
      cases hg : g y σ with
      | none => rw [hg] at z; exact z.elim
      | some σ1 =>
        rw [hg] at z
        dsimp only [WM] at z ⊢
        cases ht : t σ1 with
        | no => rw [ht] at z; exact z.elim
        | v b σ2 b2 =>
          rw [ht] at z
          obtain ⟨z1, z2⟩ := z
          dsimp only
          cases b with
          | true =>
            rw [if_pos rfl]
            have z1 := z1 rfl
            cases he : e σ2 with
            | no => rw [he] at z1; exact z1.elim
            | v r σ3 b3 =>
              rw [he] at z1
              obtain ⟨d, rfl, h2, h3⟩ := z1
              dsimp only
              rw [if_pos h2]
              have w := ih _ _ _ hm hl' h3
              cases hr : runC vs g t e ys (wipeP σ3 vs) with
              | no => rw [hr] at w; exact w
              | v es σ' =>
                rw [hr] at w
                show I xs.length (ds ++ d :: es) σ'
                simpa [WL] using w
          | false =>
            obtain ⟨h2, h3⟩ := z2 rfl
            rw [if_neg (by simp), if_pos h2]
            exact ih _ _ _ hm hl' h3
  have w := key xs 0 τ [] (fun _ _ h => by simpa using h) (by simp) h0
  exact WL_mono w fun r σ h => hq _ _ (by simpa using h)
end
theorem r_lcM {α : Type} {vs : List Nat} {g : MGI} {t : MT} {e : ME} {τ : Ls} {xs : List α} {h : α → It1} (F : α → D) {Q : List D → Ls → Prop} (hw : wipeP τ vs = τ)
    (st : ∀ x ∈ xs, WM (g (h x) τ) fun σ1 => WT (t σ1) fun b σ2 _ => b = true ∧ WE (e σ2) fun r σ3 _ => r = .dat (F x) ∧ freesP σ3 vs = true ∧ wipeP σ3 vs = τ) (hq : Q (xs.map F) τ) : WL (runC vs g t e (xs.map h) τ) Q := by
  have key : ∀ ys : List α, (∀ y ∈ ys, y ∈ xs) → runC vs g t e (ys.map h) τ = .v (ys.map F) τ := by
    intro ys
    induction ys with
    | nil => intro _; rfl
    | cons y ys ih =>
      intro hy
      have ih := ih fun z hz => hy z (List.mem_cons_of_mem _ hz)
      have z := st y (hy y (List.mem_cons_self ..))
      rw [List.map_cons, List.map_cons]
      unfold runC
      cases hg : g (h y) τ with
      | none => rw [hg] at z; exact z.elim
      | some σ1 =>
        rw [hg] at z
        dsimp only [WM] at z ⊢
        cases ht : t σ1 with
        | no => rw [ht] at z; exact z.elim
        | v b σ2 b2 =>
          rw [ht] at z
          obtain ⟨rfl, z1⟩ := z
          dsimp only
          rw [if_pos rfl]
          cases he : e σ2 with
          | no => rw [he] at z1; exact z1.elim
          | v r σ3 b3 =>
            rw [he] at z1
            obtain ⟨rfl, h2, h3⟩ := z1
            dsimp only
            rw [if_pos h2, h3, ih]
  rw [key xs fun _ h => h]
  exact hq
theorem r_lcF {α : Type} {vs : List Nat} {g : MGI} {t : MT} {e : ME} {τ : Ls} {xs : List α} {h : α → It1} (p : α → Bool) (F : α → D) {Q : List D → Ls → Prop} (hw : wipeP τ vs = τ)
    (st : ∀ x ∈ xs, WM (g (h x) τ) fun σ1 => WT (t σ1) fun b σ2 _ => b = p x ∧ (p x = true → WE (e σ2) fun r σ3 _ => r = .dat (F x) ∧ freesP σ3 vs = true ∧ wipeP σ3 vs = τ) ∧ (p x = false → freesP σ2 vs = true ∧ wipeP σ2 vs = τ)) (hq : Q ((xs.filter p).map F) τ) : WL (runC vs g t e (xs.map h) τ) Q := by
  have key : ∀ ys : List α, (∀ y ∈ ys, y ∈ xs) → runC vs g t e (ys.map h) τ = .v ((ys.filter p).map F) τ := by
    intro ys
    induction ys with
    | nil => intro _; rfl
    | cons y ys ih =>
      intro hy
      have ih := ih fun z hz => hy z (List.mem_cons_of_mem _ hz)
      have z := st y (hy y (List.mem_cons_self ..))
      rw [List.map_cons]
      unfold runC
      cases hg : g (h y) τ with
      | none => rw [hg] at z; exact z.elim
      | some σ1 =>
        rw [hg] at z
        dsimp only [WM] at z ⊢
        cases ht : t σ1 with
        | no => rw [ht] at z; exact z.elim
        | v b σ2 b2 =>
          rw [ht] at z
          obtain ⟨rfl, z1, z2⟩ := z
          dsimp only
          cases hp : p y with
          | true =>
            rw [if_pos rfl]
            have z1 := z1 hp
            cases he : e σ2 with
            | no => rw [he] at z1; exact z1.elim
            | v r σ3 b3 =>
              rw [he] at z1
              obtain ⟨rfl, h2, h3⟩ := z1
              dsimp only
              rw [if_pos h2, h3, ih, List.filter_cons_of_pos hp]
              rfl
          | false =>
            obtain ⟨h2, h3⟩ := z2 hp
            rw [if_neg (by simp), if_pos h2, h3, ih, List.filter_cons_of_neg (by simp [hp])]
  rw [key xs fun _ h => h]
  exact hq
theorem r_lcE {α : Type} {vs : List Nat} {g : MGI} {t : MT} {e : ME} {τ : Ls} {xs : List α} {f : α → Vt} (p : Nat → α → Bool) (F : Nat → α → D) {Q : List D → Ls → Prop} (hw : wipeP τ vs = τ)
    (st : ∀ (k : Nat) (x : α), xs[k]? = some x → WM (g (.two (.dat (.int (k : Int))) (f x)) τ) fun σ1 => WT (t σ1) fun b σ2 _ => b = p k x ∧ (p k x = true → WE (e σ2) fun r σ3 _ => r = .dat (F k x) ∧ freesP σ3 vs = true ∧ wipeP σ3 vs = τ) ∧ (p k x = false → freesP σ2 vs = true ∧ wipeP σ2 vs = τ)) (hq : Q (enF p F 0 xs) τ) : WL (runC vs g t e (enumD 0 (xs.map f)) τ) Q := by
  have key : ∀ (ys : List α) (j : Nat), (∀ (i : Nat) (x : α), ys[i]? = some x → xs[j + i]? = some x) → runC vs g t e (enumD j (ys.map f)) τ = .v (enF p F j ys) τ := by
    intro ys
    induction ys with
    | nil => intro _ _; rfl
    | cons y ys ih =>
      intro j hy
      have ih := ih (j + 1) fun i x hx => by
        have := hy (i + 1) x (by simpa using hx)
        rwa [show j + (i + 1) = j + 1 + i by omega] at this
      have z := st j y (by simpa using hy 0 y rfl)
      rw [List.map_cons]
      unfold enumD runC enF
      cases hg : g (.two (.dat (.int (j : Int))) (f y)) τ with
      | none => rw [hg] at z; exact z.elim
      | some σ1 =>
        rw [hg] at z
        dsimp only [WM] at z ⊢
        cases ht : t σ1 with
        | no => rw [ht] at z; exact z.elim
        | v b σ2 b2 =>
          rw [ht] at z
          obtain ⟨rfl, z1, z2⟩ := z
          dsimp only
          cases hp : p j y with
          | true =>
            rw [if_pos rfl]
            have z1 := z1 hp
            cases he : e σ2 with
            | no => rw [he] at z1; exact z1.elim
            | v r σ3 b3 =>
              rw [he] at z1
              obtain ⟨rfl, h2, h3⟩ := z1
              dsimp only
              rw [if_pos h2, h3, ih, if_pos rfl]
          | false =>
            obtain ⟨h2, h3⟩ := z2 hp
            rw [if_neg (by simp), if_pos h2, h3, ih, if_neg (by simp)]
  rw [key xs 0 fun i x h => by rwa [Nat.zero_add]]
  exact hq
section
variable {τ : Ls} {i : Nat}
theorem g_name {x t : Vt} {u : Option Vt} {N : Ls → Prop} (h1 : stkV x = some t) (h2 : τ[i]? = some u) (h3 : nrV u = true) (k : N (τ.set i (some t))) : WM (stName i x τ) N := by
  unfold stName
  rw [h1, h2]
  dsimp only
  rw [if_pos h3]
  exact k
theorem gi_name {x : Vt} {N : Ls → Prop} (h : plV x = true) (k : WM (stName i x τ) N) : WM (sgName i (.one x) τ) N := by
  unfold sgName
  dsimp only
  rw [if_pos h]
  exact k
theorem g_tup2 {g h : MG} {d e : D} {N : Ls → Prop} (k : WM (g (.dat d) τ) fun τ1 => WM (h (.dat e) τ1) N) : WM (stTup2 g h (.dat (.tup [d, e])) τ) N := by
  unfold stTup2
  dsimp only
  cases f : g (.dat d) τ with
  | none => rw [f] at k; exact k
  | some τ1 => rw [f] at k; exact k
theorem g_tpl2 {g h : MG} {d e : D} {N : Ls → Prop} (k : WM (g (.dat d) τ) fun τ1 => WM (h (.dat e) τ1) N) : WM (stTup2 g h (.dat (.tpl [d, e])) τ) N := by
  unfold stTup2
  dsimp only
  cases f : g (.dat d) τ with
  | none => rw [f] at k; exact k
  | some τ1 => rw [f] at k; exact k
theorem gi_tup2 {g h : MG} {t : Vt} {N : Ls → Prop} (k : WM (stTup2 g h t τ) N) : WM (sgTup2 g h (.one t) τ) N := k
theorem gi_two {g h : MG} {x y : Vt} {N : Ls → Prop} (h1 : plV x = true) (h2 : plV y = true) (k : WM (g x τ) fun τ1 => WM (h y τ1) N) : WM (sgTup2 g h (.two x y) τ) N := by
  unfold sgTup2
  dsimp only
  rw [h1, h2]
  cases f : g x τ with
  | none => rw [f] at k; exact k
  | some τ1 => rw [f] at k; exact k
theorem f_body {k n : Nat} {s : MS} {as : List Vt} {Q : Vt → List Vt → Prop} (h1 : as.length = k) (h2 : as.all plainV = true) (w : WS (s (as.map some ++ List.replicate (n - as.length) none)) (fun τ => Q (.dat .non) (backsV as τ)) (fun r τ => Q r (backsV as τ)) (fun _ => False) (fun _ => False)) : WF (body k n s as) Q := by
  unfold body
  rw [if_pos ⟨h1, h2⟩]
  cases f : s (as.map some ++ List.replicate (n - as.length) none) with
  | nx τ => rw [f] at w; exact w
  | rt r τ => rw [f] at w; exact w
  | bk τ => rw [f] at w; exact w
  | ct τ => rw [f] at w; exact w
  | no => rw [f] at w; exact w
end
end RR
namespace Q
@[irreducible] def WE (o : Eo) (Q : Vt → Ls → Bool → Prop) : Prop := RR.WE o Q
@[irreducible] def WA (o : Ao) (Q : List Vt → Ls → Bool → Prop) : Prop := RR.WA o Q
@[irreducible] def WT (o : To) (Q : Bool → Ls → Bool → Prop) : Prop := RR.WT o Q
@[irreducible] def WO (o : Oo) (Q : Option Int → Ls → Bool → Prop) : Prop := RR.WO o Q
@[irreducible] def WJ (o : Jo) (Q : Str → Ls → Bool → Prop) : Prop := RR.WJ o Q
@[irreducible] def WI (o : Io) (Q : List It1 → Ls → Bool → Prop) : Prop := RR.WI o Q
@[irreducible] def WS (o : So) (N : Ls → Prop) (R : Vt → Ls → Prop) (B C : Ls → Prop) : Prop := RR.WS o N R B C
@[irreducible] def WL (o : Lo) (Q : List D → Ls → Prop) : Prop := RR.WL o Q
@[irreducible] def WF (o : Fo) (Q : Vt → List Vt → Prop) : Prop := RR.WF o Q
@[irreducible] def WM (o : Option α) (Q : α → Prop) : Prop := RR.WM o Q
theorem WM_some {x : α} {Q : α → Prop} (h : Q x) : WM (some x) Q := by with_unfolding_all exact RR.WM_some h
theorem WM_eq {o : Option α} {x : α} {Q : α → Prop} (e : o = some x) (h : Q x) : WM o Q := by with_unfolding_all exact RR.WM_eq e h
theorem WF_eq {o : Fo} {r : Vt} {as : List Vt} (h : WF o fun r' as' => r' = r ∧ as' = as) : o = .v r as := by with_unfolding_all exact RR.WF_eq h
theorem WF_mono {o : Fo} {P Q : Vt → List Vt → Prop} (h : WF o P) (k : ∀ r as, P r as → Q r as) : WF o Q := by with_unfolding_all exact RR.WF_mono h k
theorem WF_of {o : Fo} {r : Vt} {as : List Vt} {Q : Vt → List Vt → Prop} (e : o = .v r as) (h : Q r as) : WF o Q := by with_unfolding_all exact RR.WF_of e h
theorem WF_get {o : Fo} {P : Vt → List Vt → Prop} (h : WF o P) : ∃ r as, o = .v r as ∧ P r as := by with_unfolding_all exact RR.WF_get h
theorem WE_get {o : Eo} {P : Vt → Ls → Bool → Prop} (h : WE o P) : ∃ r τ b, o = .v r τ b ∧ P r τ b := by with_unfolding_all exact RR.WE_get h
theorem WE_eq {o : Eo} {r : Vt} {τ : Ls} {b : Bool} (h : WE o fun r' τ' b' => r' = r ∧ τ' = τ ∧ b' = b) : o = .v r τ b := by with_unfolding_all exact RR.WE_eq h
theorem WE_of {o : Eo} {r : Vt} {τ : Ls} {b : Bool} {Q : Vt → Ls → Bool → Prop} (e : o = .v r τ b) (h : Q r τ b) : WE o Q := by with_unfolding_all exact RR.WE_of e h
theorem WE_mono {o : Eo} {P Q : Vt → Ls → Bool → Prop} (h : WE o P) (k : ∀ r τ b, P r τ b → Q r τ b) : WE o Q := by with_unfolding_all exact RR.WE_mono h k
theorem WL_of {o : Lo} {ds : List D} {τ : Ls} {Q : List D → Ls → Prop} (e : o = .v ds τ) (h : Q ds τ) : WL o Q := by with_unfolding_all exact RR.WL_of e h
theorem WL_mono {o : Lo} {P Q : List D → Ls → Prop} (h : WL o P) (k : ∀ r τ, P r τ → Q r τ) : WL o Q := by with_unfolding_all exact RR.WL_mono h k
theorem ws_nx {τ : Ls} {N : Ls → Prop} {R : Vt → Ls → Prop} {B C : Ls → Prop} (k : N τ) : WS (.nx τ) N R B C := by with_unfolding_all exact RR.ws_nx k
theorem WS_mono {o : So} {N N' : Ls → Prop} {R R' : Vt → Ls → Prop} {B B' C C' : Ls → Prop} (h : WS o N R B C) (n : ∀ τ, N τ → N' τ) (r : ∀ x τ, R x τ → R' x τ) (b : ∀ τ, B τ → B' τ) (c : ∀ τ, C τ → C' τ) : WS o N' R' B' C' := by with_unfolding_all exact RR.WS_mono h n r b c
section
variable {τ : Ls} {Q : Vt → Ls → Bool → Prop} {a b c e : ME} {t : MA} {i j : Nat}
theorem e_var {Q : Vt → Ls → Bool → Prop} {x : Vt} (h : τ[i]? = some (some x)) (k : ∀ o l, x = .own l o → Q (.ali i) τ true) (hd : ∀ d, x = .dat d → Q (.dat d) τ true) (hv : ∀ d, x = .vol d → Q (.vol d) τ true) (n1 : ∀ d, x ≠ .tmp d) (n2 : ∀ d, x ≠ .ali d) : WE (mVar i τ) Q := by with_unfolding_all exact RR.e_var h k hd hv n1 n2
theorem e_varD {d : D} (h : τ[i]? = some (some (.dat d))) (k : Q (.dat d) τ true) : WE (mVar i τ) Q := by with_unfolding_all exact RR.e_varD h k
theorem e_varV {d : D} (h : τ[i]? = some (some (.vol d))) (k : Q (.vol d) τ true) : WE (mVar i τ) Q := by with_unfolding_all exact RR.e_varV h k
theorem e_varO {l : Bool} {o : Ow} (h : τ[i]? = some (some (.own l o))) (k : Q (.ali i) τ true) : WE (mVar i τ) Q := by with_unfolding_all exact RR.e_varO h k
theorem e_C {d : D} (k : Q (.dat d) τ true) : WE (mC d τ) Q := by with_unfolding_all exact RR.e_C k
theorem e_U {g : Ls → Vt → Option Vt} (k : WE (a τ) fun x τ1 b1 => WM (g τ1 x) fun r => Q r τ1 b1) : WE (mU g a τ) Q := by with_unfolding_all exact RR.e_U k
theorem e_B {g : Ls → Vt → Vt → Option Vt} (k : WE (a τ) fun x τ1 b1 => WE (b τ1) fun y τ2 b2 => stbV x b2 = true ∧ WM (g τ2 x y) fun r => Q r τ2 (b1 && b2)) : WE (mB g a b τ) Q := by with_unfolding_all exact RR.e_B k
theorem e_Fz (k : WE (a τ) fun x τ1 b1 => Q (fzV x) τ1 b1) : WE (mFz a τ) Q := by with_unfolding_all exact RR.e_Fz k
theorem e_Frz {ds : List D} (h : τ[i]? = some (some (.own true (.lst ds)))) (k : WE (a (τ.set i (some (.dat (.lst ds))))) fun x τ1 _ => Q x τ1 false) : WE (mFrz i a τ) Q := by with_unfolding_all exact RR.e_Frz h k
theorem e_FrzD {d : D} (h : τ[i]? = some (some (.dat d))) (k : WE (a τ) Q) : WE (mFrz i a τ) Q := by with_unfolding_all exact RR.e_FrzD h k
theorem e_andV (k : WE (a τ) fun x τ1 b1 => ∃ p, x = .dat (.bl p) ∧ (p = true → WE (b τ1) fun r τ2 b2 => Q r τ2 (b1 && b2)) ∧ (p = false → Q (.dat (.bl false)) τ1 b1)) : WE (mAndV a b τ) Q := by with_unfolding_all exact RR.e_andV k
theorem e_orV (k : WE (a τ) fun x τ1 b1 => ∃ p, x = .dat (.bl p) ∧ (p = true → Q (.dat (.bl true)) τ1 b1) ∧ (p = false → WE (b τ1) fun r τ2 b2 => Q r τ2 (b1 && b2))) : WE (mOrV a b τ) Q := by with_unfolding_all exact RR.e_orV k
theorem e_notV (k : WE (a τ) fun x τ1 b1 => ∃ p, x = .dat (.bl p) ∧ Q (.dat (.bl (!p))) τ1 b1) : WE (mNotV a τ) Q := by with_unfolding_all exact RR.e_notV k
theorem e_if {p : MT} (k : WT (p τ) fun k τ1 b1 => (k = true → WE (a τ1) fun r τ2 b2 => Q r τ2 (b1 && b2)) ∧ (k = false → WE (b τ1) fun r τ2 b2 => Q r τ2 (b1 && b2))) : WE (mIf p a b τ) Q := by with_unfolding_all exact RR.e_if k
theorem e_chain {g h : D → D → Option D} (k : WE (a τ) fun x τ1 b1 => WE (b τ1) fun y τ2 b2 => stbV x b2 = true ∧ WM (see τ2 x) fun d => WM (see τ2 y) fun e => ∃ p, g d e = some (.bl p) ∧
    (p = true → WE (c τ2) fun z τ3 b3 => stbV y b3 = true ∧ WM (see τ3 y) fun e' => WM (see τ3 z) fun f => WM (h e' f) fun r => Q (.dat r) τ3 (b1 && b2 && b3)) ∧ (p = false → Q (.dat (.bl false)) τ2 (b1 && b2))) : WE (mChain g h a b c τ) Q := by with_unfolding_all exact RR.e_chain k
theorem a_nil {Q : List Vt → Ls → Bool → Prop} (k : Q [] τ true) : WA (mNil τ) Q := by with_unfolding_all exact RR.a_nil k
theorem a_cons {Q : List Vt → Ls → Bool → Prop} (k : WE (a τ) fun x τ1 b1 => WA (t τ1) fun xs τ2 b2 => stbV x b2 = true ∧ Q (x :: xs) τ2 (b1 && b2)) : WA (mCons a t τ) Q := by with_unfolding_all exact RR.a_cons k
theorem e_tup (k : WA (t τ) fun xs τ1 b1 => WM (tupV τ1 xs) fun r => Q r τ1 b1) : WE (mTup t τ) Q := by with_unfolding_all exact RR.e_tup k
theorem e_lst (k : WA (t τ) fun xs τ1 b1 => WM (lstV τ1 xs) fun r => Q r τ1 b1) : WE (mLst t τ) Q := by with_unfolding_all exact RR.e_lst k
theorem e_cb {g : List D → Option D} (k : WA (t τ) fun xs τ1 b1 => WM (allSee τ1 xs) fun ds => WM (g ds) fun d => Q (.dat d) τ1 b1) : WE (mCB g t τ) Q := by with_unfolding_all exact RR.e_cb k
theorem e_isi2 {m n : String} (k : WE (a τ) fun x τ1 b1 => WM (see τ1 x) fun d => WM (isi1 d m) fun p => WM (isi1 d n) fun q => Q (.dat (.bl (p || q))) τ1 b1) : WE (mIsi2 m n a τ) Q := by with_unfolding_all exact RR.e_isi2 k
theorem e_isiO {n : String} (k : WE (a τ) fun x τ1 b1 => ∃ p, isO n x = some p ∧ Q (.dat (.bl p)) τ1 b1) : WE (mIsiO n a τ) Q := by with_unfolding_all exact RR.e_isiO k
theorem o_none {Q : Option Int → Ls → Bool → Prop} (k : Q none τ true) : WO (mNoPart τ) Q := by with_unfolding_all exact RR.o_none k
theorem o_part {Q : Option Int → Ls → Bool → Prop} (k : WE (a τ) fun x τ1 b1 => ∃ n, x = .dat (.int n) ∧ Q (some n) τ1 b1) : WO (mPart a τ) Q := by with_unfolding_all exact RR.o_part k
theorem e_sl {tup : Bool} {l h : MO} (k : WE (a τ) fun x τ1 b1 => WO (l τ1) fun lo τ2 b2 => WO (h τ2) fun hi τ3 b3 => stbV x b2 = true ∧ stbV x b3 = true ∧ WM (fSl tup τ3 x lo hi) fun r => Q r τ3 (b1 && b2 && b3)) : WE (mSl tup a l h τ) Q := by with_unfolding_all exact RR.e_sl k
theorem e_fmt (k : WE (a τ) fun x τ1 b1 => (∃ i : Int, x = .dat (.int i) ∧ (-(10 ^ 500) < i ∧ i < 10 ^ 500) ∧ Q (.dat (.str (Str.ofString (toString i)))) τ1 b1)) : WE (mFmt a τ) Q := by with_unfolding_all exact RR.e_fmt k
theorem j_nil {Q : Str → Ls → Bool → Prop} {acc : Str} (k : Q acc τ true) : WJ (mJs [] acc τ) Q := by with_unfolding_all exact RR.j_nil k
theorem j_cons {Q : Str → Ls → Bool → Prop} {acc : Str} {es : List ME} (k : WE (a τ) fun x τ1 b1 => ∃ y, x = .dat (.str y) ∧ (acc ++ y).length ≤ 100000 ∧ WJ (mJs es (acc ++ y) τ1) fun r τ2 b2 => Q r τ2 (b1 && b2)) : WJ (mJs (a :: es) acc τ) Q := by with_unfolding_all exact RR.j_cons k
theorem e_joined {es : List ME} (k : WJ (mJs es Str.empty τ) fun r τ1 b1 => Q (.dat (.str r)) τ1 b1) : WE (mJoined es τ) Q := by with_unfolding_all exact RR.e_joined k
theorem e_pop {l : Bool} {ds : List D} {d : D} (h : τ[i]? = some (some (.own l (.lst ds)))) (hd : ds[ds.length - 1]? = some d) (k : Q (.dat d) (τ.set i (some (.own l (.lst ds.dropLast)))) false) : WE (mPop i τ) Q := by with_unfolding_all exact RR.e_pop h hd k
theorem e_popAt {l : Bool} {ds0 : List D} (h : τ[i]? = some (some (.own l (.lst ds0)))) (k : WE (a τ) fun x τ1 _ => ∃ n ds d, x = .dat (.int n) ∧ (0 ≤ n ∧ n < 100000) ∧ τ1[i]? = some (some (.own l (.lst ds))) ∧ ds[n.toNat]? = some d ∧ Q (.dat d) (τ1.set i (some (.own l (.lst (ds.eraseIdx n.toNat))))) false) : WE (mPopAt i a τ) Q := by with_unfolding_all exact RR.e_popAt h k
theorem c_dat {S : Sem} {rs as : List Vt} {b : Bool} (h : argsV τ rs = some as) (k : WF (S as) fun r _ => Q (demV r) τ b) : WE (callF false S τ rs b) Q := by with_unfolding_all exact RR.c_dat h k
theorem c_own {S : Sem} {rest as : List Vt} {b l : Bool} {o : Ow} (h0 : τ[j]? = some (some (.own l o))) (h1 : rest.all (neAli j) = true) (h : argsV τ rest = some as) (k : WF (S (.own false o :: as)) fun r bs => ∃ o', ownB bs = some o' ∧ Q (demV r) (τ.set j (some (.own l o'))) false) : WE (callF true S τ (.ali j :: rest) b) Q := by with_unfolding_all exact RR.c_own h0 h1 h k
theorem e_call {ow : Bool} {S : Sem} (k : WA (t τ) fun rs τ1 b1 => WE (callF ow S τ1 rs b1) Q) : WE (mCall ow S t τ) Q := by with_unfolding_all exact RR.e_call k
theorem e_meth {c0 m : String} {ow : Bool} {S : Sem} (k : WE (a τ) fun x τ0 b0 => isInst c0 m τ0 x = true ∧ WA (t τ0) fun rs τ1 b1 => stbV x b1 = true ∧ WE (callF ow S τ1 (x :: rs) (b0 && b1)) Q) : WE (mMeth c0 m ow S a t τ) Q := by with_unfolding_all exact RR.e_meth k
theorem e_make {c0 : String} {S : Sem} (k : WA (t τ) fun rs τ1 b1 => ∃ as, argsV τ1 rs = some as ∧ WF (S (.own false (.ins c0 [] []) :: as)) fun r bs => ∃ d, newB c0 r bs = some d ∧ Q (.dat d) τ1 b1) : WE (mMake c0 S t τ) Q := by with_unfolding_all exact RR.e_make k
theorem e_ownEq {c0 : String} {neg : Bool} {S : Sem} (k : WE (a τ) fun x τ1 b1 => ∃ d0, x = .dat d0 ∧ isC c0 d0 = true ∧ WE (b τ1) fun y τ2 b2 => ∃ d, y = .dat d ∧ eqKind c0 d = true ∧ WF (S [.dat d0, .dat (untpl d)]) fun r _ => ∃ p, r = .dat (.bl p) ∧ Q (.dat (.bl (if neg = true then !p else p))) τ2 (b1 && b2)) : WE (mOwnEq neg c0 S a b τ) Q := by with_unfolding_all exact RR.e_ownEq k
theorem e_ownLen {c0 : String} {S : Sem} (k : WE (a τ) fun x τ1 b1 => ∃ d0, x = .dat d0 ∧ isC c0 d0 = true ∧ WF (S [.dat d0]) fun r _ => ∃ p, r = .dat (.int p) ∧ (0 ≤ p ∧ p ≤ 1000000) ∧ Q (.dat (.int p)) τ1 b1) : WE (mOwnLen c0 S a τ) Q := by with_unfolding_all exact RR.e_ownLen k
theorem e_ownRepr {c0 : String} {S : Sem} (k : WE (a τ) fun x τ1 b1 => ∃ d0, x = .dat d0 ∧ isC c0 d0 = true ∧ WF (S [.dat d0]) fun r _ => ∃ p, r = .dat (.str p) ∧ Q (.dat (.str p)) τ1 b1) : WE (mOwnRepr c0 S a τ) Q := by with_unfolding_all exact RR.e_ownRepr k
end
section
variable {τ : Ls} {Q : Bool → Ls → Bool → Prop} {p q : MT} {a : ME}
theorem t_B (k : WE (a τ) fun x τ1 b1 => ∃ p, x = .dat (.bl p) ∧ Q p τ1 b1) : WT (mB' a τ) Q := by with_unfolding_all exact RR.t_B k
theorem t_yes (k : Q true τ true) : WT (mYes τ) Q := by with_unfolding_all exact RR.t_yes k
theorem t_and (k : WT (p τ) fun x τ1 b1 => (x = true → WT (q τ1) fun r τ2 b2 => Q r τ2 (b1 && b2)) ∧ (x = false → Q false τ1 b1)) : WT (mAnd p q τ) Q := by with_unfolding_all exact RR.t_and k
theorem t_or (k : WT (p τ) fun x τ1 b1 => (x = true → Q true τ1 b1) ∧ (x = false → WT (q τ1) fun r τ2 b2 => Q r τ2 (b1 && b2))) : WT (mOr p q τ) Q := by with_unfolding_all exact RR.t_or k
theorem t_not (k : WT (p τ) fun x τ1 b1 => Q (!x) τ1 b1) : WT (mNot p τ) Q := by with_unfolding_all exact RR.t_not k
end
section
variable {τ : Ls} {Q : List It1 → Ls → Bool → Prop} {a : ME} {t : MA}
theorem i_rng1 (k : WA (t τ) fun xs τ1 b1 => ∃ n, xs = [.dat (.int n)] ∧ (-1000000 ≤ n ∧ n ≤ 1000000) ∧ Q (rngD 0 n.toNat) τ1 b1) : WI (mRng1 t τ) Q := by with_unfolding_all exact RR.i_rng1 k
theorem i_rng2 (k : WA (t τ) fun xs τ1 b1 => ∃ m n, xs = [.dat (.int m), .dat (.int n)] ∧ (-1000000 ≤ m ∧ m ≤ 1000000 ∧ -1000000 ≤ n ∧ n ≤ 1000000) ∧ Q (rngD m (n - m).toNat) τ1 b1) : WI (mRng2 t τ) Q := by with_unfolding_all exact RR.i_rng2 k
theorem i_rng3 (k : WA (t τ) fun xs τ1 b1 => ∃ m n, xs = [.dat (.int m), .dat (.int n), .dat (.int (-1))] ∧ (-1000000 ≤ m ∧ m ≤ 1000000 ∧ -1000000 ≤ n ∧ n ≤ 1000000) ∧ Q (dwnD m (m - n).toNat) τ1 b1) : WI (mRng3 t τ) Q := by with_unfolding_all exact RR.i_rng3 k
theorem i_seq (k : WE (a τ) fun x τ1 b1 => WM (srcV x) fun ts => Q (ts.map .one) τ1 b1) : WI (mSeqI a τ) Q := by with_unfolding_all exact RR.i_seq k
theorem i_enum (k : WA (t τ) fun xs τ1 b1 => ∃ x, xs = [x] ∧ enOk x = true ∧ WM (srcV x) fun ts => Q (enumD 0 ts) τ1 b1) : WI (mEnum t τ) Q := by with_unfolding_all exact RR.i_enum k
theorem i_zip (k : WA (t τ) fun xs τ1 b1 => ∃ x y, xs = [x, y] ∧ isLst x = isLst y ∧ WM (srcV x) fun ts => WM (srcV y) fun us => Q (List.zipWith .two ts us) τ1 b1) : WI (mZip t τ) Q := by with_unfolding_all exact RR.i_zip k
end
section
variable {τ : Ls} {N : Ls → Prop} {R : Vt → Ls → Prop} {B C : Ls → Prop} {a e : ME} {s s' : MS} {t : MT} {g : MG} {i j : Nat}
theorem s_ret {e : ME} (k : WE (e τ) fun r τ1 _ => match r with
    | .own false _ => False
    | .ali i => ∃ o, τ1[i]? = some (some (.own true o)) ∧ R (.own true o) τ1
    | r => R r τ1) : WS (mRet e τ) N R B C := by with_unfolding_all exact RR.s_ret k
theorem s_retN (k : R (.dat .non) τ) : WS (mRetN τ) N R B C := by with_unfolding_all exact RR.s_retN k
theorem s_next (k : N τ) : WS (mNext τ) N R B C := by with_unfolding_all exact RR.s_next k
theorem s_brk (k : B τ) : WS (mBrk τ) N R B C := by with_unfolding_all exact RR.s_brk k
theorem s_cont (k : C τ) : WS (mCont τ) N R B C := by with_unfolding_all exact RR.s_cont k
theorem s_seq (k : WS (s τ) (fun τ1 => WS (s' τ1) N R B C) R B C) : WS (mSeq s s' τ) N R B C := by with_unfolding_all exact RR.s_seq k
theorem s_if (k : WT (t τ) fun x τ1 _ => (x = true → WS (s τ1) N R B C) ∧ (x = false → WS (s' τ1) N R B C)) : WS (mIfS t s s' τ) N R B C := by with_unfolding_all exact RR.s_if k
theorem s_drop (k : WE (e τ) fun _ τ1 _ => N τ1) : WS (mDrop e τ) N R B C := by with_unfolding_all exact RR.s_drop k
theorem s_asg (k : WE (e τ) fun x τ1 _ => WM (g x τ1) N) : WS (mAsg e g τ) N R B C := by with_unfolding_all exact RR.s_asg k
theorem s_par {i j : Nat} (k : WE (a τ) fun x τ1 b1 => WE (e τ1) fun y τ2 b2 => stbV x b2 = true ∧ i ≠ j ∧ ∃ t u p q, stkV x = some t ∧ stkV y = some u ∧ τ2[i]? = some p ∧ τ2[j]? = some q ∧ nrV p = true ∧ nrV q = true ∧ N ((τ2.set i (some t)).set j (some u))) : WS (mPar i j a e τ) N R B C := by with_unfolding_all exact RR.s_par k
theorem s_aug {f : Int → Int → Int} {x : Int} (h : τ[i]? = some (some (.dat (.int x)))) (k : WE (e τ) fun y τ2 _ => ∃ b u, y = .dat (.int b) ∧ τ2[i]? = some u ∧ nrV u = true ∧ N (τ2.set i (some (.dat (.int (f x b)))))) : WS (mAug f i e τ) N R B C := by with_unfolding_all exact RR.s_aug h k
theorem s_augI {f : Int → Int → Int} {n : Nat} {l : Bool} {ds0 : List D} {x : Int} (h : τ[i]? = some (some (.own l (.lst ds0)))) (h' : ds0[n]? = some (.int x)) (k : WE (e τ) fun y τ2 _ => ∃ b ds, y = .dat (.int b) ∧ τ2[i]? = some (some (.own l (.lst ds))) ∧ n < ds.length ∧ N (τ2.set i (some (.own l (.lst (ds.set n (.int (f x b)))))))) : WS (mAugI f i n e τ) N R B C := by with_unfolding_all exact RR.s_augI h h' k
theorem s_setI {a : ME} (k : WE (e τ) fun x τ1 _ => ∃ d l ds0, x = .dat d ∧ τ1[i]? = some (some (.own l (.lst ds0))) ∧ WE (a τ1) fun y τ2 _ => ∃ n ds, y = .dat (.int n) ∧ τ2[i]? = some (some (.own l (.lst ds))) ∧ 0 ≤ n ∧ n.toNat < ds.length ∧ N (τ2.set i (some (.own l (.lst (ds.set n.toNat d)))))) : WS (mSetI i e a τ) N R B C := by with_unfolding_all exact RR.s_setI k
theorem s_app {l : Bool} {ds0 : List D} (h : τ[i]? = some (some (.own l (.lst ds0)))) (k : WE (e τ) fun x τ1 _ => ∃ d ds, x = .dat d ∧ τ1[i]? = some (some (.own l (.lst ds))) ∧ ds.length < 100000 ∧ N (τ1.set i (some (.own l (.lst (ds ++ [d])))))) : WS (mApp i e τ) N R B C := by with_unfolding_all exact RR.s_app h k
theorem s_fld {c0 f : String} (k : WE (e τ) fun x τ1 _ => ∃ d l ns xs, x = .dat d ∧ τ1[i]? = some (some (.own l (.ins c0 ns xs))) ∧ ns.length < 900 ∧ N (τ1.set i (some (.own l (.ins c0 (putNP f ns) (putXP f d ns xs)))))) : WS (mFldS c0 f i e τ) N R B C := by with_unfolding_all exact RR.s_fld k
theorem s_for {it : MI} {g : MGI} (k : WI (it τ) fun xs τ1 _ => WS (runF g s xs τ1) N R B C) : WS (mFor it g s τ) N R B C := by with_unfolding_all exact RR.s_for k
theorem r_for {g : MGI} (I : Nat → Ls → Prop) {xs : List It1} (h0 : I 0 τ) (st : ∀ k x σ, xs[k]? = some x → I k σ → WM (g x σ) fun σ1 => WS (s σ1) (I (k + 1)) R N (I (k + 1))) (hn : ∀ σ, I xs.length σ → N σ) : WS (runF g s xs τ) N R B C := by with_unfolding_all exact RR.r_for I h0 st hn
theorem f_nil {g : MGI} (k : N τ) : WS (runF g s [] τ) N R B C := by with_unfolding_all exact RR.f_nil k
theorem f_cons {g : MGI} {x : It1} {xs : List It1} (k : WM (g x τ) fun σ1 => WS (s σ1) (fun σ2 => WS (runF g s xs σ2) N R B C) R N (fun σ2 => WS (runF g s xs σ2) N R B C)) : WS (runF g s (x :: xs) τ) N R B C := by with_unfolding_all exact RR.f_cons k
theorem s_while {n : Nat} (I : Nat → Ls → Prop) {m : Nat} (h0 : I m τ) (hm : m < n) (st : ∀ k σ, I k σ → WT (t σ) fun x σ1 _ => (x = true → 0 < k ∧ WS (s σ1) (I (k - 1)) R N (I (k - 1))) ∧ (x = false → N σ1)) : WS (mWhile n t s τ) N R B C := by with_unfolding_all exact RR.s_while I h0 hm st
end
section
variable {τ : Ls} {Q : Vt → Ls → Bool → Prop} {it : MI} {g : MGI} {t : MT} {e : ME} {vs : List Nat}
theorem e_lc (k : WI (it τ) fun xs τ1 _ => stillP τ1 vs = true ∧ xs.length ≤ 100000 ∧ WL (runC vs g t e xs (wipeP τ1 vs)) fun ds τ2 => cleanP τ2 vs = true ∧ Q (.own true (.lst ds)) (unwipeP τ1 τ2 vs) false) : WE (mLc it g t e vs τ) Q := by with_unfolding_all exact RR.e_lc k
theorem r_lc (F : It1 → Option D) {xs : List It1} {Q : List D → Ls → Prop} (hw : wipeP τ vs = τ)
    (st : ∀ (k : Nat) (x : It1), xs[k]? = some x → WM (g x τ) fun σ1 => WT (t σ1) fun b σ2 _ => (b = true → WE (e σ2) fun r σ3 _ => ∃ d, r = .dat d ∧ F x = some d ∧ freesP σ3 vs = true ∧ wipeP σ3 vs = τ) ∧ (b = false → F x = none ∧ freesP σ2 vs = true ∧ wipeP σ2 vs = τ)) (hq : Q (xs.filterMap F) τ) : WL (runC vs g t e xs τ) Q := by with_unfolding_all exact RR.r_lc F hw st hq
theorem l_nil {Q : List D → Ls → Prop} (k : Q [] τ) : WL (runC vs g t e [] τ) Q := by with_unfolding_all exact RR.l_nil k
theorem l_cons {Q : List D → Ls → Prop} {x : It1} {xs : List It1} (k : WM (g x τ) fun σ1 => WT (t σ1) fun b σ2 _ => (b = true → WE (e σ2) fun r σ3 _ => ∃ d, r = .dat d ∧ freesP σ3 vs = true ∧ WL (runC vs g t e xs (wipeP σ3 vs)) fun ds σ => Q (d :: ds) σ) ∧ (b = false → freesP σ2 vs = true ∧ WL (runC vs g t e xs (wipeP σ2 vs)) Q)) : WL (runC vs g t e (x :: xs) τ) Q := by with_unfolding_all exact RR.l_cons k
theorem r_lcI (I : Nat → List D → Ls → Prop) {xs : List It1} {Q : List D → Ls → Prop} (h0 : I 0 [] τ)
    (st : ∀ (k : Nat) (x : It1) (σ : Ls) (ds : List D), xs[k]? = some x → I k ds σ → WM (g x σ) fun σ1 => WT (t σ1) fun b σ2 _ => (b = true → WE (e σ2) fun r σ3 _ => ∃ d, r = .dat d ∧ freesP σ3 vs = true ∧ I (k + 1) (ds ++ [d]) (wipeP σ3 vs)) ∧ (b = false → freesP σ2 vs = true ∧ I (k + 1) ds (wipeP σ2 vs))) (hq : ∀ ds σ, I xs.length ds σ → Q ds σ) : WL (runC vs g t e xs τ) Q := by with_unfolding_all exact RR.r_lcI I h0 st hq
end
theorem r_lcM {α : Type} {vs : List Nat} {g : MGI} {t : MT} {e : ME} {τ : Ls} {xs : List α} {h : α → It1} (F : α → D) {Q : List D → Ls → Prop} (hw : wipeP τ vs = τ)
    (st : ∀ x ∈ xs, WM (g (h x) τ) fun σ1 => WT (t σ1) fun b σ2 _ => b = true ∧ WE (e σ2) fun r σ3 _ => r = .dat (F x) ∧ freesP σ3 vs = true ∧ wipeP σ3 vs = τ) (hq : Q (xs.map F) τ) : WL (runC vs g t e (xs.map h) τ) Q := by with_unfolding_all exact RR.r_lcM F hw st hq
theorem r_lcF {α : Type} {vs : List Nat} {g : MGI} {t : MT} {e : ME} {τ : Ls} {xs : List α} {h : α → It1} (p : α → Bool) (F : α → D) {Q : List D → Ls → Prop} (hw : wipeP τ vs = τ)
    (st : ∀ x ∈ xs, WM (g (h x) τ) fun σ1 => WT (t σ1) fun b σ2 _ => b = p x ∧ (p x = true → WE (e σ2) fun r σ3 _ => r = .dat (F x) ∧ freesP σ3 vs = true ∧ wipeP σ3 vs = τ) ∧ (p x = false → freesP σ2 vs = true ∧ wipeP σ2 vs = τ)) (hq : Q ((xs.filter p).map F) τ) : WL (runC vs g t e (xs.map h) τ) Q := by with_unfolding_all exact RR.r_lcF p F hw st hq
theorem r_lcE {α : Type} {vs : List Nat} {g : MGI} {t : MT} {e : ME} {τ : Ls} {xs : List α} {f : α → Vt} (p : Nat → α → Bool) (F : Nat → α → D) {Q : List D → Ls → Prop} (hw : wipeP τ vs = τ)
    (st : ∀ (k : Nat) (x : α), xs[k]? = some x → WM (g (.two (.dat (.int (k : Int))) (f x)) τ) fun σ1 => WT (t σ1) fun b σ2 _ => b = p k x ∧ (p k x = true → WE (e σ2) fun r σ3 _ => r = .dat (F k x) ∧ freesP σ3 vs = true ∧ wipeP σ3 vs = τ) ∧ (p k x = false → freesP σ2 vs = true ∧ wipeP σ2 vs = τ)) (hq : Q (enF p F 0 xs) τ) : WL (runC vs g t e (enumD 0 (xs.map f)) τ) Q := by with_unfolding_all exact RR.r_lcE p F hw st hq
section
variable {τ : Ls} {i : Nat}
theorem g_name {x t : Vt} {u : Option Vt} {N : Ls → Prop} (h1 : stkV x = some t) (h2 : τ[i]? = some u) (h3 : nrV u = true) (k : N (τ.set i (some t))) : WM (stName i x τ) N := by with_unfolding_all exact RR.g_name h1 h2 h3 k
theorem gi_name {x : Vt} {N : Ls → Prop} (h : plV x = true) (k : WM (stName i x τ) N) : WM (sgName i (.one x) τ) N := by with_unfolding_all exact RR.gi_name h k
theorem g_tup2 {g h : MG} {d e : D} {N : Ls → Prop} (k : WM (g (.dat d) τ) fun τ1 => WM (h (.dat e) τ1) N) : WM (stTup2 g h (.dat (.tup [d, e])) τ) N := by with_unfolding_all exact RR.g_tup2 k
theorem g_tpl2 {g h : MG} {d e : D} {N : Ls → Prop} (k : WM (g (.dat d) τ) fun τ1 => WM (h (.dat e) τ1) N) : WM (stTup2 g h (.dat (.tpl [d, e])) τ) N := by with_unfolding_all exact RR.g_tpl2 k
theorem gi_tup2 {g h : MG} {t : Vt} {N : Ls → Prop} (k : WM (stTup2 g h t τ) N) : WM (sgTup2 g h (.one t) τ) N := by with_unfolding_all exact RR.gi_tup2 k
theorem gi_two {g h : MG} {x y : Vt} {N : Ls → Prop} (h1 : plV x = true) (h2 : plV y = true) (k : WM (g x τ) fun τ1 => WM (h y τ1) N) : WM (sgTup2 g h (.two x y) τ) N := by with_unfolding_all exact RR.gi_two h1 h2 k
theorem f_body {k n : Nat} {s : MS} {as : List Vt} {Q : Vt → List Vt → Prop} (h1 : as.length = k) (h2 : as.all plainV = true) (w : WS (s (as.map some ++ List.replicate (n - as.length) none)) (fun τ => Q (.dat .non) (backsV as τ)) (fun r τ => Q r (backsV as τ)) (fun _ => False) (fun _ => False)) : WF (body k n s as) Q := by with_unfolding_all exact RR.f_body h1 h2 w
end
end Q
namespace Q
/-! Q2: primitives. -/
theorem br_t {p : Bool} {A B : Prop} (h : p = true) (a : A) : (p = true → A) ∧ (p = false → B) := ⟨fun _ => a, fun e => by rw [h] at e; cases e⟩
theorem br_f {p : Bool} {A B : Prop} (h : p = false) (b : B) : (p = true → A) ∧ (p = false → B) := ⟨fun e => by (rw [h] at e; cases e), fun _ => b⟩
theorem br_d {c : Prop} [Decidable c] {A B : Prop} (a : c → A) (b : ¬ c → B) : (decide c = true → A) ∧ (decide c = false → B) := ⟨fun h => a (of_decide_eq_true h), fun h => b (of_decide_eq_false h)⟩
theorem br_n {p : Bool} {A B : Prop} (h : (p = true → B) ∧ (p = false → A)) : ((!p) = true → A) ∧ ((!p) = false → B) := And.intro (fun e => h.2 (by simpa using e)) (fun e => h.1 (by simpa using e))
theorem o_div {τ : Ls} {i j : Int} (h : 0 < j ∧ j < 2 ^ 64) : opV gDiv τ (.dat (.int i)) (.dat (.int j)) = some (.dat (.int (i / j))) := by
  unfold opV gDiv see; dsimp only; rw [if_pos h]
theorem o_mod {τ : Ls} {i j : Int} (h : 0 < j) : opV gMod τ (.dat (.int i)) (.dat (.int j)) = some (.dat (.int (i % j))) := by
  unfold opV gMod see; dsimp only; rw [if_pos h]
theorem o_mul {τ : Ls} {i j : Int} (h : (-(2 ^ 64) < j ∧ j < 2 ^ 64) ∨ (-(2 ^ 64) < i ∧ i < 2 ^ 64)) : opV gMul τ (.dat (.int i)) (.dat (.int j)) = some (.dat (.int (i * j))) := by
  unfold opV gMul see; dsimp only; rw [if_pos h]
theorem o_pow {τ : Ls} {i j : Int} (h : 0 ≤ j ∧ j ≤ 1000000 ∧ i.natAbs < 2 ^ 64) : opV gPow τ (.dat (.int i)) (.dat (.int j)) = some (.dat (.int (i ^ j.toNat))) := by
  unfold opV gPow see; dsimp only; rw [if_pos h]
theorem ixD_nat {n k : Nat} (h : k < n) : ixD n (k : Int) = some k := by
  unfold ixD
  rw [if_pos (by omega), if_pos (by omega)]
  simp
theorem ixD_pos {n : Nat} {i : Int} (h0 : 0 ≤ i) (h : i < n) : ixD n i = some i.toNat := by
  unfold ixD
  rw [if_pos h0, if_pos h]
theorem atD_nat {ds : List D} {k : Nat} {d : D} (h : ds[k]? = some d) : atD ds (k : Int) = some d := by
  unfold atD
  have := (List.getElem?_eq_some_iff.mp h).1
  rw [ixD_nat this]
  exact h
theorem atD_pos {ds : List D} {i : Int} {d : D} (h0 : 0 ≤ i) (h : ds[i.toNat]? = some d) : atD ds i = some d := by
  unfold atD
  have := (List.getElem?_eq_some_iff.mp h).1
  rw [ixD_pos h0 (by omega)]
  exact h
theorem atD_last {ds : List D} {d : D} (h : ds[ds.length - 1]? = some d) : atD ds (-1) = some d := by
  unfold atD ixD
  have := (List.getElem?_eq_some_iff.mp h).1
  rw [if_neg (by omega), if_pos (by omega)]
  dsimp only
  rw [show (-1 + (ds.length : Int)).toNat = ds.length - 1 by omega]
  exact h
theorem ix_lst {τ : Ls} {ds : List D} {i : Int} {d : D} (h : atD ds i = some d) : fIx τ (.dat (.lst ds)) (.dat (.int i)) = some (.dat d) := by unfold fIx; dsimp only; rw [h]; rfl
theorem ix_tup {τ : Ls} {ds : List D} {i : Int} {d : D} (h : atD ds i = some d) : fIx τ (.dat (.tup ds)) (.dat (.int i)) = some (.dat d) := by unfold fIx; dsimp only; rw [h]; rfl
theorem ix_tpl {τ : Ls} {ds : List D} {i : Int} {d : D} (h : atD ds i = some d) : fIx τ (.dat (.tpl ds)) (.dat (.int i)) = some (.dat d) := by unfold fIx; dsimp only; rw [h]; rfl
theorem ix_ali {τ : Ls} {ds : List D} {i : Int} {d : D} {j : Nat} {l : Bool} (h0 : τ[j]? = some (some (.own l (.lst ds)))) (h : atD ds i = some d) : fIx τ (.ali j) (.dat (.int i)) = some (.dat d) := by unfold fIx; dsimp only; rw [h0]; dsimp only; rw [h]; rfl
theorem ix_own {τ : Ls} {ds : List D} {i : Int} {d : D} (h : atD ds i = some d) : fIx τ (.own true (.lst ds)) (.dat (.int i)) = some (.dat d) := by unfold fIx; dsimp only; rw [h]; rfl
theorem atD_map {α : Type} {f : α → D} {xs : List α} {i : Int} (h0 : 0 ≤ i) (h : i < xs.length) : atD (xs.map f) i = some (f (xs[i.toNat]'(by omega))) :=
  atD_pos h0 (by rw [List.getElem?_map, List.getElem?_eq_getElem (by omega)]; rfl)
theorem s_cut {s s' : MS} {τ : Ls} {N : Ls → Prop} {R : Vt → Ls → Prop} {B C : Ls → Prop} (M : Ls → Prop) (h : WS (s τ) M R B C) (k : ∀ τ1, M τ1 → WS (s' τ1) N R B C) : WS (mSeq s s' τ) N R B C :=
  s_seq (WS_mono h k (fun _ _ h => h) (fun _ h => h) (fun _ h => h))
theorem r_rng {τ : Ls} {N : Ls → Prop} {R : Vt → Ls → Prop} {B C : Ls → Prop} {g : MGI} {s : MS} (I : Nat → Ls → Prop) {n : Nat} {lo : Int} (h0 : I 0 τ)
    (st : ∀ k σ, k < n → I k σ → WM (g (.one (.dat (.int (lo + (k : Nat))))) σ) fun σ1 => WS (s σ1) (I (k + 1)) R N (I (k + 1))) (hn : ∀ σ, I n σ → N σ) : WS (runF g s (rngD lo n) τ) N R B C := by
  refine r_for I h0 (fun k x σ hx hI => ?_) (fun σ h => hn σ (by simpa [rngD] using h))
  unfold rngD at hx
  rw [List.getElem?_map] at hx
  by_cases hk : k < n
  · rw [List.getElem?_range hk] at hx
    cases hx
    exact st k σ hk hI
  · rw [List.getElem?_eq_none (by simpa using hk)] at hx
    cases hx
theorem r_rng0 {τ : Ls} {N : Ls → Prop} {R : Vt → Ls → Prop} {B C : Ls → Prop} {g : MGI} {s : MS} (I : Nat → Ls → Prop) {n : Nat} (h0 : I 0 τ)
    (st : ∀ (k : Nat) σ, k < n → I k σ → WM (g (.one (.dat (.int (k : Int)))) σ) fun σ1 => WS (s σ1) (I (k + 1)) R N (I (k + 1))) (hn : ∀ σ, I n σ → N σ) : WS (runF g s (rngD 0 n) τ) N R B C :=
  r_rng I h0 (fun k σ hk hI => by rw [Int.zero_add]; exact st k σ hk hI) hn
def dn (k : Nat) : D := .int (k : Nat)
theorem o_listRg {τ : Ls} {n : Nat} (h : (n : Int) ≤ 100000) : fListRg τ (.dat (.int (n : Int))) = some (.own true (.lst ((List.range n).map dn))) := by
  unfold fListRg
  dsimp only
  rw [if_pos ⟨by omega, h⟩, Int.toNat_natCast]
  rfl
theorem enumD_len : ∀ (xs : List Vt) (k : Nat), (enumD k xs).length = xs.length
  | [], _ => rfl
  | x :: xs, k => by unfold enumD; rw [List.length_cons, List.length_cons, enumD_len xs]
theorem demV_dat {d : D} : demV (.dat d) = .dat d := rfl
theorem demV_own {l : Bool} {o : Ow} : demV (.own l o) = .own l o := rfl
theorem fzV_dat {d : D} : fzV (.dat d) = .dat d := rfl
theorem app_len (a b : Str) : (a ++ b).length = a.length + b.length := Array.size_append
theorem o_adds {τ : Ls} {a b : Str} (h : a.length + b.length ≤ 100000) : opV gAddS τ (.dat (.str a)) (.dat (.str b)) = some (.dat (.str (a ++ b))) := by
  unfold opV gAddS see; dsimp only; rw [if_pos h]
theorem o_cat {τ : Ls} {ds es : List D} (h : ds.length + es.length ≤ 100000) : fCat τ (.own true (.lst ds)) (.own true (.lst es)) = some (.own true (.lst (ds ++ es))) := by
  unfold fCat dlst; dsimp only; rw [if_pos h]
theorem map3 {α β γ δ : Type} {f : α → β} {g : β → γ} {h : γ → δ} {xs : List α} : ((xs.map f).map g).map h = xs.map fun x => h (g (f x)) := by rw [List.map_map, List.map_map]; rfl
theorem map2 {α β γ : Type} {f : α → β} {g : β → γ} {xs : List α} : (xs.map f).map g = xs.map fun x => g (f x) := by rw [List.map_map]; rfl
theorem st_rfl {x : Vt} : stbV x true = true := by
  cases x with
  | _ => rfl
abbrev P3 := Nat × Nat × Nat
def du : P3 → D
  | (0, i, j) => .tup [.int i, .int j]
  | (1, i, j) => .tpl [.int i, .int j]
  | (_, i, j) => .lst [.int i, .int j]
theorem du_cases (u : P3) : du u = .tup [.int u.2.1, .int u.2.2] ∨ du u = .tpl [.int u.2.1, .int u.2.2] ∨ du u = .lst [.int u.2.1, .int u.2.2] := by
  obtain ⟨k, i, j⟩ := u
  rcases k with _ | _ | k
  · exact .inl rfl
  · exact .inr (.inl rfl)
  · exact .inr (.inr rfl)
theorem ix0 {τ : Ls} {u : P3} : fIx τ (.dat (du u)) (.dat (.int 0)) = some (.dat (.int (u.2.1 : Nat))) := by
  rcases du_cases u with e | e | e <;> rw [e] <;> rfl
theorem ix1 {τ : Ls} {u : P3} : fIx τ (.dat (du u)) (.dat (.int 1)) = some (.dat (.int (u.2.2 : Nat))) := by
  rcases du_cases u with e | e | e <;> rw [e] <;> rfl
theorem g_nameU {τ : Ls} {i : Nat} {u : P3} {w : Option Vt} {N : Ls → Prop} (h2 : τ[i]? = some w) (h3 : nrV w = true) (k : N (τ.set i (some (.vol (du u))))) : WM (stName i (.vol (du u)) τ) N := by
  refine g_name (t := .vol (du u)) ?_ h2 h3 k
  rcases du_cases u with e | e | e <;> rw [e] <;> rfl
theorem scal_du {u : P3} : scalD (du u) = false := by
  rcases du_cases u with e | e | e <;> rw [e] <;> rfl
theorem c_datU {S : Sem} {u : P3} {d : D} {b : Bool} {τ : Ls} {Q : Vt → Ls → Bool → Prop} (k : WF (S [.vol (du u), .dat d]) fun r _ => Q (demV r) τ b) : WE (callF false S τ [.vol (du u), .dat d] b) Q := by
  refine c_dat (as := [.vol (du u), .dat d]) ?_ k
  simp [argsV, argV, see, scal_du]
def num (n : Nat) : Str := Str.ofString (toString (n : Int))
theorem fmt_bd {n : Nat} (h : n < 1000) : -(10 ^ 500) < (n : Int) ∧ (n : Int) < 10 ^ 500 := by
  have h1 : (0 : Int) < 10 ^ 497 := Int.pow_pos (by decide)
  have h2 : (10 : Int) ^ 500 = 10 ^ 497 * 10 ^ 3 := Int.pow_add 10 497 3
  have h3 : (10 : Int) ^ 3 = 1000 := by decide
  rw [h2, h3]
  generalize (10 : Int) ^ 497 = z at h1
  omega
theorem e_fmtN {a : ME} {τ : Ls} {Q : Vt → Ls → Bool → Prop} (k : WE (a τ) fun x τ1 b1 => ∃ n : Nat, x = .dat (.int n) ∧ n < 1000 ∧ Q (.dat (.str (num n))) τ1 b1) : WE (mFmt a τ) Q :=
  e_fmt (WE_mono k fun x τ1 b1 ⟨n, h1, h2, h3⟩ => ⟨n, h1, fmt_bd h2, h3⟩)
theorem strI {n : Nat} (h : n < 1000) : gStrI [.int n] = some (.str (num n)) := by
  unfold gStrI
  dsimp only
  rw [if_pos (fmt_bd h)]
  rfl
theorem dec_nat {a b : Nat} : decide ((a : Int) = (b : Int)) = (a == b) := by
  by_cases h : a = b
  · subst h; simp
  · have : ¬ ((a : Int) = (b : Int)) := by omega
    simp [h, this]
theorem dec_nat' {a b : Nat} : decide ((a : Int) = (b : Int)) = decide (a = b) := by
  rw [dec_nat]; rfl
end Q
set_option hygiene false
local macro_rules | `(tactic| walk_at "w") => `(tactic| (first
  | ((with_reducible show Q.WE _ _); (first | with_reducible refine Q.e_C ?_ | ((with_reducible refine' Q.e_varD ?h0 ?_); (case h0 => first | rfl | assumption)) | with_reducible refine Q.e_B ?_ | ((with_reducible refine' Q.e_varO ?h0 ?_); (case h0 => first | rfl | assumption)) | with_reducible refine Q.e_call ?_ | with_reducible refine Q.e_meth ?_ | with_reducible refine Q.e_Fz ?_ | with_reducible refine Q.e_cb ?_ | with_reducible refine Q.e_U ?_ | with_reducible refine Q.e_tup ?_ | with_reducible refine Q.e_lst ?_ | with_reducible refine Q.e_chain ?_ | with_reducible refine Q.e_if ?_ | with_reducible refine Q.e_lc ?_ | ((with_reducible refine' Q.e_varV ?h0 ?_); (case h0 => first | rfl | assumption)) | with_reducible refine Q.e_andV ?_ | with_reducible refine Q.e_orV ?_ | with_reducible refine Q.e_notV ?_ | with_reducible refine Q.e_isi2 ?_ | with_reducible refine Q.e_isiO ?_ | with_reducible refine Q.e_sl ?_ | with_reducible refine Q.e_make ?_ | ((with_reducible refine' Q.e_Frz ?h0 ?_); (case h0 => first | rfl | assumption)) | ((with_reducible refine' Q.e_FrzD ?h0 ?_); (case h0 => first | rfl | assumption)) | with_reducible refine Q.c_datU ?_ | ((with_reducible refine' Q.c_dat ?h0 ?_); (case h0 => first | rfl | assumption)) | ((with_reducible refine' Q.c_own ?h0 ?h1 ?h2 ?_); (case h0 => first | rfl | assumption); (case h1 => first | rfl | assumption); (case h2 => first | rfl | assumption); try simp only [List.set_cons_zero, List.set_cons_succ]) | with_reducible refine Q.e_ownEq ?_ | with_reducible refine Q.e_ownLen ?_ | with_reducible refine Q.e_ownRepr ?_ | with_reducible refine Q.e_fmtN ?_ | with_reducible refine Q.e_joined ?_ | ((with_reducible refine' Q.e_popAt ?h0 ?_); (case h0 => first | rfl | assumption))))
  | ((with_reducible show Q.WS _ _ _ _ _); (first | with_reducible refine Q.s_seq ?_ | with_reducible refine Q.s_asg ?_ | with_reducible refine Q.s_if ?_ | with_reducible refine Q.s_ret ?_ | with_reducible refine Q.s_for ?_ | with_reducible refine Q.s_next ?_ | with_reducible refine Q.s_drop ?_ | ((with_reducible refine' Q.s_app ?h0 ?_); (case h0 => first | rfl | assumption)) | with_reducible refine Q.s_setI ?_ | with_reducible refine Q.s_par ?_ | with_reducible refine Q.s_fld ?_ | with_reducible refine Q.s_retN ?_ | ((with_reducible refine' Q.s_augI ?h0 ?h1 ?_); (case h0 => first | rfl | assumption); (case h1 => first | rfl | assumption)) | ((with_reducible refine' Q.s_aug ?h0 ?_); (case h0 => first | rfl | assumption)) | with_reducible refine Q.s_brk ?_ | with_reducible refine Q.s_cont ?_ | with_reducible refine Q.f_cons ?_ | with_reducible refine Q.f_nil ?_))
  | ((with_reducible show Q.WM _ _); (first | ((with_reducible refine' Q.g_nameU ?h0 ?h1 ?_); (case h0 => first | rfl | assumption); (case h1 => first | rfl | assumption); try simp only [List.set_cons_zero, List.set_cons_succ]) | ((with_reducible refine' Q.g_name ?h0 ?h1 ?h2 ?_); (case h0 => first | rfl | assumption); (case h1 => first | rfl | assumption); (case h2 => first | rfl | assumption); try simp only [List.set_cons_zero, List.set_cons_succ]) | ((with_reducible refine' Q.WM_eq (Q.o_mod ?h0) ?_); (case h0 => omega)) | ((with_reducible refine' Q.WM_eq (Q.o_div ?h0) ?_); (case h0 => omega)) | ((with_reducible refine' Q.WM_eq (Q.o_mul ?h0) ?_); (case h0 => omega)) | ((with_reducible refine' Q.WM_eq (Q.o_listRg ?h0) ?_); (case h0 => omega)) | ((with_reducible refine' Q.WM_eq (Q.strI ?h0) ?_); (case h0 => omega)) | ((with_reducible refine' Q.WM_eq (Q.o_adds ?h0) ?_); (case h0 => ((try simp only [Q.app_len]); omega))) | with_reducible refine Q.WM_eq Q.ix0 ?_ | with_reducible refine Q.WM_eq Q.ix1 ?_ | with_reducible refine Q.g_tup2 ?_ | with_reducible refine Q.g_tpl2 ?_ | ((with_reducible refine' Q.gi_name ?h0 ?_); (case h0 => first | rfl | assumption)) | ((with_reducible refine' Q.gi_two ?h0 ?h1 ?_); (case h0 => first | rfl | assumption); (case h1 => first | rfl | assumption)) | with_reducible refine Q.gi_tup2 ?_ | ((fail_if_success (with_reducible show Q.WM (Z.opV Z.gNe _ (Z.Vt.dat (Z.D.str _)) _) _)); (fail_if_success (with_reducible show Q.WM (Z.opV Z.gEq _ (Z.Vt.dat (Z.D.str _)) _) _)); ((with_reducible refine' Q.WM_eq ?h0 ?_); (case h0 => first | rfl | assumption))) | simp only [Q.demV_dat, Q.demV_own, Q.fzV_dat]))
  | ((with_reducible show Q.WL _ _); (first | with_reducible refine Q.l_cons ?_ | with_reducible refine Q.l_nil ?_))
  | ((with_reducible show Q.WA _ _); (first | with_reducible refine Q.a_cons ?_ | with_reducible refine Q.a_nil ?_))
  | ((with_reducible show Q.WT _ _); (first | with_reducible refine Q.t_B ?_ | with_reducible refine Q.t_not ?_ | with_reducible refine Q.t_or ?_ | with_reducible refine Q.t_and ?_ | with_reducible refine Q.t_yes ?_))
  | ((with_reducible show Q.WI _ _); (first | with_reducible refine Q.i_rng1 ?_ | with_reducible refine Q.i_enum ?_ | with_reducible refine Q.i_seq ?_ | with_reducible refine Q.i_zip ?_ | with_reducible refine Q.i_rng2 ?_ | with_reducible refine Q.i_rng3 ?_))
  | ((with_reducible show Q.WO _ _); (first | with_reducible refine Q.o_none ?_ | with_reducible refine Q.o_part ?_))
  | ((with_reducible show Q.WJ _ _); (first | with_reducible refine Q.j_cons ?_ | with_reducible refine Q.j_nil ?_))
  | ((with_reducible show Z.stbV _ _ = true ∧ _); refine ⟨Q.st_rfl, ?_⟩)
  | ((with_reducible show (_ = true → _) ∧ (_ = false → _)); (first | refine Q.br_t rfl ?_ | refine Q.br_f rfl ?_))
  | ((with_reducible show Q.cleanP _ _ = true ∧ _); refine ⟨rfl, ?_⟩; walk_at "n")
  | ((with_reducible show _ = _ ∧ _); refine ⟨rfl, ?_⟩)
  | ((with_reducible show (0 ≤ _ ∧ _ ≤ 1000000) ∧ _); refine ⟨by omega, ?_⟩)
  | ((with_reducible show (-1000000 ≤ _ ∧ _) ∧ _); refine ⟨by omega, ?_⟩; try simp only [Int.toNat_natCast])
  | ((with_reducible show List.length _ ≤ _ ∧ Q.WL _ _); refine ⟨by first | exact (of_decide_eq_true rfl) | (simp only [Q.rng_len, Q.enumD_len, List.length_map]; omega), ?_⟩; walk_at "n")
  | ((with_reducible show _ ≠ _ ∧ _); refine ⟨(of_decide_eq_true rfl), ?_⟩)
  | ((with_reducible show List.length _ ≤ _ ∧ _); refine ⟨(of_decide_eq_true rfl), ?_⟩)
  | ((with_reducible show _ < List.length _ ∧ _); refine ⟨(of_decide_eq_true rfl), ?_⟩)
  | ((with_reducible show List.length _ < _ ∧ _); refine ⟨(of_decide_eq_true rfl), ?_⟩)
  | ((with_reducible show ∃ _, _); (first | refine ⟨_, rfl, ?_⟩ | (refine ⟨_, _, rfl, rfl, (of_decide_eq_true rfl), ?_⟩; try simp only [List.set_cons_zero, List.set_cons_succ]) | (refine ⟨_, _, rfl, rfl, (of_decide_eq_true rfl), (of_decide_eq_true rfl), ?_⟩; try simp only [List.set_cons_zero, List.set_cons_succ]) | (refine ⟨_, _, _, _, rfl, rfl, rfl, rfl, (by first | rfl | assumption), (by first | rfl | assumption), ?_⟩; try simp only [List.set_cons_zero, List.set_cons_succ]) | (refine ⟨_, _, _, _, rfl, rfl, (of_decide_eq_true rfl), ?_⟩; walk_at "n") | ((with_reducible show ∃ x y, _ = [x, y] ∧ _); refine ⟨_, _, rfl, rfl, ?_⟩) | refine ⟨_, _, _, rfl, rfl, ?_⟩))))
local macro_rules | `(tactic| walk_at "n") => `(tactic| try simp only [wipeP, unwipeP, List.set_cons_zero, List.set_cons_succ, List.getElem?_cons_zero, List.getElem?_cons_succ, Option.getD_some, Option.getD_none, putNP, putXP, String.reduceEq, ↓reduceIte, reduceCtorEq])
local macro_rules | `(tactic| walk_at "0") => `(tactic| simp only [List.map_cons, List.map_nil, List.cons_append, List.nil_append, List.length_cons, List.length_nil, Nat.reduceAdd, Nat.reduceSub, List.replicate])
local macro_rules | `(tactic| walk_at "e") => `(tactic| all_goals ((repeat' apply And.intro) <;> first | rfl | trivial | assumption))
namespace Q
def bag (ns : List Int) (p rest seed cnt : Int) : Ow := .lst [.lst (ns.map .int), .int p, .int rest, .int seed, .int cnt]
def Bag (o : Ow) : Prop := ∃ ns p rest seed cnt, o = bag ns p rest seed cnt ∧ 0 ≤ p ∧ p ≤ ns.length
theorem pull_ok {o : Ow} {m : Int} (hb : Bag o) (hm : 0 < m) (hm2 : m < 2 ^ 64) :
   WF (sem__law_pull [.own false o, .dat (.int m)]) fun r as => ∃ i o', r = .dat (.int i) ∧ as = [.own false o', .dat (.int m)] ∧ Bag o' ∧ 0 ≤ i ∧ i < m := by
  obtain ⟨ns, p, rest, seed, cnt, rfl, h0, hp⟩ := hb
  have E : ∀ i : Int, 0 ≤ i % m ∧ i % m < m := fun i => ⟨Int.emod_nonneg _ (by omega), Int.emod_lt_of_pos _ hm⟩
  have fin : ∀ (i p rest seed cnt : Int), 0 ≤ p → p ≤ ns.length → ∃ i' o', Vt.dat (D.int (i % m)) = .dat (.int i') ∧ [Vt.own false (.lst [.lst (ns.map .int), .int p, .int rest, .int seed, .int cnt]), .dat (.int m)] = [.own false o', .dat (.int m)] ∧ Bag o' ∧ 0 ≤ i' ∧ i' < m :=
    fun i p rest seed cnt h1 h2 => ⟨_, _, rfl, rfl, ⟨_, _, _, _, _, rfl, h1, h2⟩, E i⟩
  unfold sem__law_pull
  refine f_body (by rfl) (by rfl) ?_
  unfold m__law_pull bag
  simp only [List.map_cons, List.map_nil, List.cons_append, List.nil_append, List.length_cons, List.length_nil, Nat.reduceAdd, Nat.reduceSub, List.replicate]
  repeat walk_at "w"
  refine br_d (fun h => ?_) (fun h => ?_)
  · repeat walk_at "w"
    exact fin _ _ _ _ _ h0 hp
  repeat walk_at "w"
  refine br_d (fun h => ?_) (fun h => ?_)
  · rw [List.length_map] at h
    repeat walk_at "w"
    refine WM_eq (ix_lst (atD_map h0 h)) ?_
    repeat walk_at "w"
    refine br_d (fun h => ?_) (fun h => ?_)
    · repeat walk_at "w"
      exact fin _ _ _ _ _ (by omega) (by omega)
    · repeat walk_at "w"
      exact fin _ _ _ _ _ (by omega) (by omega)
  · repeat walk_at "w"
    refine br_d (fun h => ?_) (fun h => ?_)
    · repeat walk_at "w"
      exact fin _ _ _ _ _ (by omega) (by omega)
    · repeat walk_at "w"
      exact fin _ _ _ _ _ (by omega) (by omega)
theorem perm_at {α : Type} (l : List α) {i : Nat} (h : i < l.length) : (l[i] :: l.eraseIdx i).Perm l := by
  rw [List.eraseIdx_eq_take_drop_succ]
  refine List.perm_middle.symm.trans ?_
  rw [List.getElem_cons_drop, List.take_append_drop]
theorem mixed_ok {o : Ow} {ds : List D} (hb : Bag o) (hl : ds.length < 100000) :
   WF (sem__law_mixed [.own false o, .dat (.lst ds)]) fun r as => ∃ es o', r = .own true (.lst es) ∧ as = [.own false o', .dat (.lst ds)] ∧ es.Perm ds ∧ Bag o' := by
  unfold sem__law_mixed
  refine f_body (by rfl) (by rfl) ?_
  unfold m__law_mixed
  simp only [List.map_cons, List.map_nil, List.cons_append, List.nil_append, List.length_cons, List.length_nil, Nat.reduceAdd, Nat.reduceSub, List.replicate]
  repeat walk_at "w"
  refine r_rng0 (fun k σ => ∃ o left found x, σ = [some (.own false o), some (.dat (.lst ds)), some (.own true (.lst left)), some (.own true (.lst found)), x] ∧ nrV x = true ∧ Bag o ∧ left.length + k = ds.length ∧ found.length = k ∧ (found ++ left).Perm ds) ⟨_, _, _, _, rfl, rfl, hb, rfl, rfl, .refl _⟩ (fun k σ hk hI => ?_) (fun σ hI => ?_)
  · obtain ⟨o, left, found, x, rfl, hx, hb, hl1, hl2, hp⟩ := hI
    repeat walk_at "w"
    refine WF_mono (pull_ok hb (by omega) (by omega)) ?_
    rintro r as ⟨i, o', rfl, rfl, hb, h0, hi⟩
    repeat walk_at "w"
    have hj : i.toNat < left.length := by omega
    have he : (left.eraseIdx i.toNat).length + 1 = left.length := by rw [List.length_eraseIdx, if_pos hj]; omega
    refine ⟨i, left, left[i.toNat], rfl, by omega, rfl, List.getElem?_eq_getElem hj, _, found, rfl, rfl, by omega, _, _, _, _, rfl, rfl, hb, by omega, by simp [hl2], ?_⟩
    rw [List.append_assoc]
    exact (List.Perm.append_left found (perm_at left hj)).trans hp
  · obtain ⟨o, left, found, x, rfl, hx, hb, hl1, hl2, hp⟩ := hI
    have : left = [] := by
      cases left with
      | nil => rfl
      | cons _ _ => simp only [List.length_cons] at hl1; omega
    subst this
    repeat walk_at "w"
    exact ⟨_, _, rfl, rfl, by simpa using hp, hb⟩
theorem perm_map {α β : Type} {f : α → β} {l₁ l₂ : List β} (h : l₁.Perm l₂) : ∀ ps : List α, l₁ = ps.map f → ∃ qs : List α, l₂ = qs.map f ∧ ps.Perm qs := by
  induction h with
  | nil =>
    intro ps e
    cases ps with
    | nil => exact ⟨[], rfl, .refl _⟩
    | cons _ _ => cases e
  | cons x _ ih =>
    intro ps e
    cases ps with
    | nil => cases e
    | cons p ps =>
      rw [List.map_cons, List.cons.injEq] at e
      obtain ⟨rfl, e⟩ := e
      obtain ⟨qs, rfl, h⟩ := ih ps e
      exact ⟨p :: qs, rfl, h.cons _⟩
  | swap x y l =>
    intro ps e
    cases ps with
    | nil => cases e
    | cons p ps =>
      cases ps with
      | nil => cases e
      | cons q ps =>
        rw [List.map_cons, List.map_cons, List.cons.injEq, List.cons.injEq] at e
        obtain ⟨rfl, rfl, rfl⟩ := e
        exact ⟨q :: p :: ps, rfl, .swap _ _ _⟩
  | trans _ _ ih1 ih2 =>
    intro ps e
    obtain ⟨qs, e1, h1⟩ := ih1 ps e
    obtain ⟨rs, e2, h2⟩ := ih2 qs e1
    exact ⟨rs, e2, h1.trans h2⟩
def dp (p : Nat × Nat) : D := .tup [.int p.1, .int p.2]
def GoodW (n : Nat) (ps : List (Nat × Nat)) : Prop := 1 ≤ n ∧ (∀ p ∈ ps, p.1 < n ∧ p.2 < n) ∧ ∀ r < n, ∃ p ∈ ps, p.1 = r
theorem GoodW.perm {n : Nat} {ps qs : List (Nat × Nat)} (h : GoodW n ps) (e : ps.Perm qs) : GoodW n qs :=
  ⟨h.1, fun p hp => h.2.1 p (e.mem_iff.mpr hp), fun r hr => by
    obtain ⟨p, hp, hq⟩ := h.2.2 r hr
    exact ⟨p, e.mem_iff.mp hp, hq⟩⟩
theorem web_ok {o : Ow} {rm mm : Int} (hb : Bag o) (h1 : 0 < rm) (h2 : rm ≤ 1000) (h3 : 0 ≤ mm) (h4 : mm ≤ 1000) :
   WF (sem__law_web [.own false o, .dat (.int rm), .dat (.int mm)]) fun r as => ∃ (n : Nat) (ps : List (Nat × Nat)) (o' : Ow), r = .dat (.tup [.int n, .tpl (ps.map dp)]) ∧ as = [.own false o', .dat (.int rm), .dat (.int mm)] ∧ Bag o' ∧ GoodW n ps ∧ (n : Int) ≤ rm ∧ (ps.length : Int) ≤ rm + mm := by
  unfold sem__law_web
  refine f_body (by rfl) (by rfl) ?_
  unfold m__law_web
  simp only [List.map_cons, List.map_nil, List.cons_append, List.nil_append, List.length_cons, List.length_nil, Nat.reduceAdd, Nat.reduceSub, List.replicate]
  repeat walk_at "w"
  refine WF_mono (pull_ok hb (by omega) (by omega)) ?_
  rintro r as ⟨i, o', rfl, rfl, hb, h0, hi⟩
  repeat walk_at "w"
  obtain ⟨n, hn⟩ : ∃ n : Nat, 1 + i = n := ⟨(1 + i).toNat, by omega⟩
  rw [hn, Int.toNat_natCast]
  refine r_lcI (fun k ds σ => ∃ o qs, σ = [some (.own false o), some (.dat (.int rm)), some (.dat (.int mm)), some (.dat (.int n)), none, none, none] ∧ ds = List.map dp qs ∧ Bag o ∧ (∀ p ∈ qs, p.1 < n ∧ p.2 < n) ∧ qs.length = k ∧ ∀ r < k, ∃ p ∈ qs, p.1 = r) ⟨_, [], rfl, rfl, hb, by simp, rfl, by omega⟩ (fun k x σ ds hx hI => ?_) (fun ds σ hI => ?_)
  · obtain ⟨o, qs, rfl, rfl, hb, hq, hl, hr⟩ := hI
    obtain ⟨hk, rfl⟩ := rng_at hx
    rw [Int.zero_add]
    repeat walk_at "w"
    refine WF_mono (pull_ok hb (by omega) (by omega)) ?_
    rintro r as ⟨j, o', rfl, rfl, hb, h0, hj⟩
    repeat walk_at "w"
    obtain ⟨j, rfl⟩ := Int.eq_ofNat_of_zero_le h0
    refine ⟨_, qs ++ [(k, j)], rfl, by simp [dp], hb, ?_, by simp [hl], ?_⟩
    · intro p hp
      rcases List.mem_append.mp hp with hp | hp
      · exact hq p hp
      · simp only [List.mem_singleton] at hp
        subst hp
        exact ⟨hk, by omega⟩
    · intro r hr'
      by_cases e : r < k
      · obtain ⟨p, hp, e⟩ := hr r e
        exact ⟨p, by simp [hp], e⟩
      · exact ⟨(k, j), by simp, by omega⟩
  rw [rng_len] at hI
  obtain ⟨o, qs, rfl, rfl, hb, hq, hl, hr⟩ := hI
  repeat walk_at "w"
  refine WF_mono (pull_ok hb (by omega) (by omega)) ?_
  rintro r as ⟨j, o', rfl, rfl, hb, h0, hj⟩
  repeat walk_at "w"
  refine r_rng0 (fun k σ => ∃ o ps x, σ = [some (.own false o), some (.dat (.int rm)), some (.dat (.int mm)), some (.dat (.int n)), some (.own true (.lst (List.map dp ps))), x, none] ∧ nrV x = true ∧ Bag o ∧ (∀ p ∈ ps, p.1 < n ∧ p.2 < n) ∧ ps.length = n + k ∧ ∀ r < n, ∃ p ∈ ps, p.1 = r) ⟨_, _, _, rfl, rfl, hb, hq, hl, hr⟩ (fun k σ hk hI => ?_) (fun σ hI => ?_)
  · obtain ⟨o, ps, x, rfl, hx, hb, hq, hl, hr⟩ := hI
    repeat walk_at "w"
    refine WF_mono (pull_ok hb (by omega) (by omega)) ?_
    rintro r as ⟨a, o', rfl, rfl, hb, ha, ha'⟩
    repeat walk_at "w"
    refine WF_mono (pull_ok hb (by omega) (by omega)) ?_
    rintro r as ⟨b, o', rfl, rfl, hb, hb1, hb2⟩
    repeat walk_at "w"
    obtain ⟨a, rfl⟩ := Int.eq_ofNat_of_zero_le ha
    obtain ⟨b, rfl⟩ := Int.eq_ofNat_of_zero_le hb1
    refine ⟨_, _, rfl, rfl, by simp; omega, _, ps ++ [(a, b)], _, by simp [dp]; rfl, rfl, hb, ?_, by simp; omega, fun r h => ?_⟩
    · intro p hp
      rcases List.mem_append.mp hp with hp | hp
      · exact hq p hp
      · simp only [List.mem_singleton] at hp
        subst hp
        exact ⟨by omega, by omega⟩
    · obtain ⟨p, hp, e⟩ := hr r h
      exact ⟨p, by simp [hp], e⟩
  · obtain ⟨o, ps, x, rfl, hx, hb, hq, hl, hr⟩ := hI
    repeat walk_at "w"
    refine WF_mono (mixed_ok hb (by simp; omega)) ?_
    rintro r as ⟨es, o', rfl, rfl, hp, hb⟩
    obtain ⟨qs, rfl, hp2⟩ := perm_map hp.symm _ rfl
    repeat walk_at "w"
    exact ⟨hb, GoodW.perm ⟨by omega, hq, hr⟩ hp2, by omega, by rw [← hp2.length_eq]; omega⟩
theorem naming_ok {o : Ow} {n : Nat} {ds : List D} (hb : Bag o) (hn : n < 1000) (hd : ds.length < 1000) :
   WF (sem__law_naming [.own false o, .dat (.tup [.int n, .tpl ds])]) fun r as => ∃ (rs ks : List Nat) (o' : Ow), r = .dat (.tup [.lst (rs.map dn), .lst (ks.map dn)]) ∧ as = [.own false o', .dat (.tup [.int n, .tpl ds])] ∧ Bag o' ∧ (List.range n).Perm rs ∧ (List.range ds.length).Perm ks := by
  unfold sem__law_naming
  refine f_body (by rfl) (by rfl) ?_
  unfold m__law_naming
  walk_at "0"
  repeat walk_at "w"
  refine WF_mono (mixed_ok hb (by simp; omega)) ?_
  rintro r as ⟨es, o1, rfl, rfl, hp, hb⟩
  obtain ⟨rs, rfl, hp1⟩ := perm_map hp.symm _ rfl
  repeat walk_at "w"
  refine WF_mono (mixed_ok hb (by simp; omega)) ?_
  rintro r as ⟨es, o2, rfl, rfl, hp, hb⟩
  obtain ⟨ks, rfl, hp2⟩ := perm_map hp.symm _ rfl
  repeat walk_at "w"
  exact ⟨hb, hp1, hp2⟩
theorem bag_ok {ns : List Int} (h : ns.length ≤ 63) : WF (sem__law_bag [.dat (.scr ns)]) fun r as => ∃ o, r = .own true o ∧ Bag o := by
  have hc : cutP (ns.map .int) none (some 63) = ns.map .int := by
    unfold cutP sIxD
    simp only [List.length_map]
    rw [if_neg (by omega), List.drop_zero, List.take_of_length_le (by simp; omega)]
  unfold sem__law_bag
  refine f_body (by rfl) (by rfl) ?_
  unfold m__law_bag
  walk_at "0"
  repeat walk_at "w"
  rw [hc]
  refine r_for (fun k σ => ∃ s x, σ = [some (.dat (.scr ns)), some (.dat (.int s)), x] ∧ nrV x = true) ⟨_, _, rfl, rfl⟩ (fun k x σ hx hI => ?_) (fun σ hI => ?_)
  · obtain ⟨s, x', rfl, hx'⟩ := hI
    simp only [List.getElem?_map, Option.map_eq_some_iff] at hx
    obtain ⟨_, ⟨_, ⟨y, _, rfl⟩, rfl⟩, rfl⟩ := hx
    repeat walk_at "w"
    exact ⟨_, _, rfl, rfl⟩
  · obtain ⟨s, x', rfl, hx'⟩ := hI
    repeat walk_at "w"
    rw [hc]
    exact ⟨_, _, _, _, _, rfl, by omega, by omega⟩
end Q
namespace Q
/-! webs -/
def idx {α : Type} (f : α → Bool) : Nat → List α → List Nat
  | _, [] => []
  | k, x :: xs => if f x = true then k :: idx f (k + 1) xs else idx f (k + 1) xs
theorem idx_map {α β : Type} (f : β → Bool) (g : α → β) : ∀ (xs : List α) (k : Nat), idx f k (xs.map g) = idx (fun x => f (g x)) k xs
  | [], _ => rfl
  | x :: xs, k => by rw [List.map_cons]; unfold idx; rw [idx_map f g xs]
theorem idx_mem {α : Type} (f : α → Bool) : ∀ (xs : List α) (k i : Nat), i ∈ idx f k xs ↔ ∃ x, k ≤ i ∧ xs[i - k]? = some x ∧ f x = true
  | [], k, i => by simp [idx]
  | x :: xs, k, i => by
    have ih := idx_mem f xs (k + 1) i
    have z : ∀ y, (k + 1 ≤ i ∧ xs[i - (k + 1)]? = some y ∧ f y = true) ↔ (k < i ∧ (x :: xs)[i - k]? = some y ∧ f y = true) := fun y => by
      constructor
      · rintro ⟨h1, h2, h3⟩
        exact ⟨by omega, by rw [show i - k = (i - (k + 1)) + 1 by omega, List.getElem?_cons_succ]; exact h2, h3⟩
      · rintro ⟨h1, h2, h3⟩
        exact ⟨by omega, by rw [show i - k = (i - (k + 1)) + 1 by omega, List.getElem?_cons_succ] at h2; exact h2, h3⟩
    unfold idx
    by_cases hf : f x = true
    · rw [if_pos hf, List.mem_cons, ih]
      constructor
      · rintro (rfl | ⟨y, h⟩)
        · exact ⟨x, by omega, by simp, hf⟩
        · have := (z y).mp h
          exact ⟨y, by omega, this.2⟩
      · rintro ⟨y, h1, h2, h3⟩
        by_cases e : i = k
        · exact .inl e
        · exact .inr ⟨y, (z y).mpr ⟨by omega, h2, h3⟩⟩
    · rw [if_neg hf, ih]
      constructor
      · rintro ⟨y, h⟩
        have := (z y).mp h
        exact ⟨y, by omega, this.2⟩
      · rintro ⟨y, h1, h2, h3⟩
        by_cases e : i = k
        · subst e
          rw [Nat.sub_self, List.getElem?_cons_zero] at h2
          cases h2
          exact absurd h3 hf
        · exact ⟨y, (z y).mpr ⟨by omega, h2, h3⟩⟩
theorem enF_idx {α : Type} {p : α → Bool} : ∀ (xs : List α) (k : Nat), enF (fun _ x => p x) (fun k _ => dn k) k xs = (idx p k xs).map dn
  | [], _ => rfl
  | x :: xs, k => by
    unfold enF idx
    by_cases hp : p x = true
    · rw [if_pos hp, if_pos hp, enF_idx xs (k + 1)]
      rfl
    · rw [if_neg hp, if_neg hp, enF_idx xs (k + 1)]
theorem enum_at {α : Type} {f : α → Vt} : ∀ (xs : List α) (j k : Nat) (x : It1), (enumD j (xs.map f))[k]? = some x → ∃ (y : α), xs[k]? = some y ∧ x = .two (.dat (.int ((j + k : Nat) : Int))) (f y)
  | [], _, _, _, h => by cases h
  | y :: ys, j, 0, x, h => by cases h; exact ⟨y, rfl, rfl⟩
  | y :: ys, j, k + 1, x, h => by
    rw [List.map_cons] at h
    unfold enumD at h
    rw [List.getElem?_cons_succ] at h
    obtain ⟨z, h1, h2⟩ := enum_at ys (j + 1) k x h
    exact ⟨z, by rw [List.getElem?_cons_succ]; exact h1, by rw [h2]; congr 4; omega⟩
def dqs (us : List P3) : D := .tpl (us.map du)
abbrev prs (us : List P3) : List (Nat × Nat) := us.map (·.2)
def outsL (ps : List (Nat × Nat)) (r : Nat) : List Nat := idx (fun p => p.1 == r) 0 ps
def insL (ps : List (Nat × Nat)) (r : Nat) : List Nat := idx (fun p => p.2 == r) 0 ps
def wobj (n : Nat) (us : List P3) : D := .obj "Web" ["size", "pairs", "leaving", "coming"]
  [.int n, dqs us, .lst ((List.range n).map fun r => .lst ((outsL (prs us) r).map dn)), .lst ((List.range n).map fun r => .lst ((insL (prs us) r).map dn))]
theorem within_ok {i a b : Int} : WF (sem_is_within [.dat (.int i), .dat (.int a), .dat (.int b)]) fun r _ => r = .dat (.bl (decide (a ≤ i) && decide (i ≤ b))) := by
  unfold sem_is_within
  refine f_body (by rfl) (by rfl) ?_
  unfold m_is_within
  walk_at "0"
  repeat walk_at "w"
  refine br_d (fun h => ?_) (fun h => ?_)
  · repeat walk_at "w"
    simp [h]
  · repeat walk_at "w"
    simp [h]
theorem listed_ok {x : Vt} (h : ∃ d, (x = .dat d ∨ x = .vol d) ∧ ∃ ds, d = .lst ds ∨ d = .tup ds ∨ d = .tpl ds) : WF (sem_is_listed [x]) fun r _ => r = .dat (.bl true) := by
  obtain ⟨d, h, ds, h'⟩ := h
  unfold sem_is_listed
  rcases h with rfl | rfl <;> rcases h' with rfl | rfl | rfl <;>
  · refine f_body (by rfl) (by rfl) ?_
    unfold m_is_listed
    walk_at "0"
    repeat walk_at "w"
    rfl
/-- an item that is a pair of rooms -/
def IsP (x : Vt) (a b : Nat) : Prop := ∃ u : P3, (x = .dat (du u) ∨ x = .vol (du u)) ∧ u.2 = (a, b)
theorem IsP.cases {x : Vt} {a b : Nat} {P : Vt → Prop} (h : IsP x a b) (h1 : P (.dat (.tup [.int a, .int b]))) (h2 : P (.dat (.tpl [.int a, .int b]))) (h3 : P (.dat (.lst [.int a, .int b])))
    (h4 : P (.vol (.tup [.int a, .int b]))) (h5 : P (.vol (.tpl [.int a, .int b]))) (h6 : P (.vol (.lst [.int a, .int b]))) : P x := by
  obtain ⟨u, h, e⟩ := h
  rcases h with rfl | rfl <;> rcases du_cases u with e' | e' | e' <;> rw [e', e] <;> assumption
theorem pair_ok {x : Vt} {a b n : Nat} (h : IsP x a b) (ha : a < n) (hb : b < n) : WF (sem_is_pair [x, .dat (.int n)]) fun r _ => r = .dat (.bl true) := by
  unfold sem_is_pair
  refine IsP.cases (P := fun x => WF (body 2 3 m_is_pair [x, .dat (.int n)]) fun r _ => r = .dat (.bl true)) h ?_ ?_ ?_ ?_ ?_ ?_ <;>
  · refine f_body (by rfl) (by rfl) ?_
    unfold m_is_pair
    walk_at "0"
    repeat walk_at "w"
    refine WF_mono (listed_ok ⟨_, by first | exact .inl rfl | exact .inr rfl, _, by first | exact .inl rfl | exact .inr (.inl rfl) | exact .inr (.inr rfl)⟩) ?_
    rintro r as rfl
    repeat walk_at "w"
    simp only [List.map_cons, List.map_nil]
    walk_at "n"
    repeat walk_at "w"
    refine WF_mono within_ok ?_
    rintro r as rfl
    repeat walk_at "w"
    walk_at "n"
    repeat walk_at "w"
    refine WF_mono within_ok ?_
    rintro r as rfl
    repeat walk_at "w"
    simp [bls, show (a : Int) ≤ n - 1 by omega, show (b : Int) ≤ n - 1 by omega]
def tk : P3 → P3
  | (0, p) => (0, p)
  | (1, p) => (0, p)
  | (_, p) => (1, p)
theorem tk_p (u : P3) : (tk u).2 = u.2 := by
  obtain ⟨k, p⟩ := u
  rcases k with _ | _ | k <;> rfl
theorem tk_k (u : P3) : (tk u).1 < 2 := by
  obtain ⟨k, p⟩ := u
  rcases k with _ | _ | k
  · exact Nat.zero_lt_succ _
  · exact Nat.zero_lt_succ _
  · exact Nat.one_lt_two
theorem prs_tk (us : List P3) : prs (us.map tk) = prs us := by
  unfold prs
  rw [List.map_map]
  exact List.map_congr_left fun u _ => tk_p u
theorem tup_du {τ : Ls} {f : D → Vt} (hf : f = .dat ∨ f = .vol) (u : P3) : fTup τ (f (du u)) = some (.dat (du (tk u))) := by
  obtain ⟨k, i, j⟩ := u
  rcases hf with rfl | rfl <;> rcases k with _ | _ | k <;> rfl
theorem nres_nr {y : Option Vt} (h : nresV (some y) = true) : nrV y = true := by
  unfold nresV at h
  unfold nrV
  split
  · cases h
  · rfl
theorem still1 {τ : Ls} {i : Nat} {y : Option Vt} (h : τ[i]? = some y) (h2 : nresV (some y) = true) : stillP τ [i] = true := by
  unfold stillP
  simp only [List.all_cons, List.all_nil, Bool.and_true]
  rw [h]; exact h2
theorem still2 {τ : Ls} {i j : Nat} {y z : Option Vt} (h : τ[i]? = some y) (h2 : nresV (some y) = true) (h' : τ[j]? = some z) (h2' : nresV (some z) = true) : stillP τ [i, j] = true := by
  unfold stillP
  simp only [List.all_cons, List.all_nil, Bool.and_true]
  rw [h, h', h2, h2']; rfl
theorem niceDL_all {n : Nat} : ∀ {xs : List D}, (∀ x ∈ xs, niceD n x = true) → niceDL n xs = true
  | [], _ => by simp [niceDL]
  | x :: xs, h => by
    rw [niceDL, h x (List.mem_cons_self ..), niceDL_all fun y hy => h y (List.mem_cons_of_mem _ hy)]
    rfl
theorem nice_dn {n k : Nat} : niceD n (dn k) = true := by unfold dn; simp [niceD]
theorem nice_dns {n : Nat} {ks : List Nat} : niceD (n + 1) (.lst (ks.map dn)) = true := by
  rw [niceD]
  exact niceDL_all fun x hx => by
    obtain ⟨k, _, rfl⟩ := List.mem_map.mp hx
    exact nice_dn
theorem outs_ne {n : Nat} {ps : List (Nat × Nat)} (h : GoodW n ps) {r : Nat} (hr : r < n) : outsL ps r ≠ [] := by
  obtain ⟨p, hp, e⟩ := h.2.2 r hr
  obtain ⟨i, hi⟩ := List.getElem?_of_mem hp
  have : i ∈ outsL ps r := (idx_mem _ ps 0 i).mpr ⟨p, Nat.zero_le _, hi, by simp [e]⟩
  intro z
  rw [z] at this
  cases this
theorem no_empty {n : Nat} {ps : List (Nat × Nat)} (h : GoodW n ps) : gIn (.lst []) (.lst ((List.range n).map fun r => .lst ((outsL ps r).map dn))) = some (.bl false) := by
  have h1 : nice60 (.lst []) = true := by unfold nice60; simp [niceD, niceDL]
  have h2 : nice60 (.lst ((List.range n).map fun r => .lst ((outsL ps r).map dn))) = true := by
    unfold nice60
    rw [niceD]
    exact niceDL_all fun x hx => by
      obtain ⟨k, _, rfl⟩ := List.mem_map.mp hx
      exact nice_dns
  unfold gIn
  dsimp only
  rw [h1, h2, if_pos (by rfl), Option.some.injEq, D.bl.injEq, List.any_eq_false]
  intro x hx
  obtain ⟨r, hr, rfl⟩ := List.mem_map.mp hx
  have := outs_ne h (List.mem_range.mp hr)
  cases e : outsL ps r with
  | nil => exact absurd e this
  | cons a as => simp [eqD, eqDL]
theorem init_ok_dat {n : Nat} {us : List P3} (hn : n ≤ 100) (hg : GoodW n (prs us)) (hl : us.length ≤ 400) :
    WF (sem_Web___init__ [.own false (.ins "Web" [] []), .dat (.int n), .dat (.lst (us.map du))]) fun r as => newB "Web" r as = some (wobj n (us.map tk)) := by
  have hn1 := hg.1
  unfold sem_Web___init__
  refine f_body (by rfl) (by rfl) ?_
  unfold m_Web___init__
  walk_at "0"
  repeat walk_at "w"
  refine WF_mono within_ok ?_
  rintro r as rfl
  repeat walk_at "w"
  refine br_f (by simp; omega) ?_
  repeat walk_at "w"
  refine r_for (fun k σ => ∃ x y, σ = [some (Vt.own false (Ow.ins "Web" [] [])), some (Vt.dat (D.int ↑n)), some (Vt.dat (D.lst (List.map du us))), x, y, none] ∧ nresV (some x) = true ∧ nresV (some y) = true) ⟨_, _, rfl, rfl, rfl⟩ (fun k x σ hx hI => ?_) (fun σ hI => ?_)
  · obtain ⟨x1, y1, rfl, h1, h2⟩ := hI
    have h3 := nres_nr h2
    have h4 := nres_nr h1
    rw [map2] at hx
    obtain ⟨u, hu, rfl⟩ := enum_at _ _ _ _ hx
    have hk := (List.getElem?_eq_some_iff.mp hu).1
    have hb := hg.2.1 u.2 (List.mem_map_of_mem (List.mem_of_getElem? hu))
    rw [Nat.zero_add]
    repeat walk_at "w"
    refine br_d (fun h => absurd h (by omega)) (fun h => ?_)
    repeat walk_at "w"
    refine WF_mono (pair_ok (a := u.2.1) (b := u.2.2) ⟨u, by first | exact .inl rfl | exact .inr rfl, rfl⟩ hb.1 hb.2) ?_
    rintro r as rfl
    repeat walk_at "w"
    exact ⟨_, _, rfl, rfl, rfl⟩
  obtain ⟨x1, y1, rfl, h1, h2⟩ := hI
  repeat walk_at "w"
  rw [map3]
  refine ⟨still1 rfl h2, ?_⟩
  walk_at "w"
  refine r_lcM (fun u => du (tk u)) rfl (fun u hu => ?_) ?_
  · repeat walk_at "w"
    refine WM_eq (tup_du (f := .dat) (by first | exact .inl rfl | exact .inr rfl) u) ?_
    walk_at "e"
  repeat walk_at "w"
  unfold rngD
  refine r_lcM (fun r => .lst ((outsL (prs us) r).map dn)) rfl (fun r hr => ?_) ?_
  · rw [Int.zero_add]
    repeat walk_at "w"
    rw [map2]
    refine ⟨still2 rfl h1 rfl h2, ?_⟩
    walk_at "w"
    refine r_lcE (fun _ u => u.2.1 == r) (fun k _ => dn k) rfl (fun k u hu => ?_) ?_
    · repeat walk_at "w"
      refine ⟨by rw [tk_p]; exact dec_nat, fun _ => ?_, fun _ => ⟨rfl, rfl⟩⟩
      repeat walk_at "w"
      walk_at "e"
    repeat walk_at "w"
    rw [enF_idx, outsL, prs, idx_map]
    walk_at "e"
  repeat walk_at "w"
  unfold rngD
  refine r_lcM (fun r => .lst ((insL (prs us) r).map dn)) rfl (fun r hr => ?_) ?_
  · rw [Int.zero_add]
    repeat walk_at "w"
    rw [map2]
    refine ⟨still2 rfl h1 rfl h2, ?_⟩
    walk_at "w"
    refine r_lcE (fun _ u => u.2.2 == r) (fun k _ => dn k) rfl (fun k u hu => ?_) ?_
    · repeat walk_at "w"
      refine ⟨by rw [tk_p]; exact dec_nat, fun _ => ?_, fun _ => ⟨rfl, rfl⟩⟩
      repeat walk_at "w"
      walk_at "e"
    repeat walk_at "w"
    rw [enF_idx, insL, prs, idx_map]
    walk_at "e"
  repeat walk_at "w"
  refine WM_eq (x := .dat (.bl false)) ?_ ?_
  · unfold opV see
    dsimp only
    rw [no_empty hg]
  repeat walk_at "w"
  show some (D.obj "Web" ["size", "pairs", "leaving", "coming"] _) = some (wobj n (us.map tk))
  unfold wobj dqs
  rw [prs_tk, map2]
theorem init_ok_vol {n : Nat} {us : List P3} (hn : n ≤ 100) (hg : GoodW n (prs us)) (hl : us.length ≤ 400) :
    WF (sem_Web___init__ [.own false (.ins "Web" [] []), .dat (.int n), .vol (.lst (us.map du))]) fun r as => newB "Web" r as = some (wobj n (us.map tk)) := by
  have hn1 := hg.1
  unfold sem_Web___init__
  refine f_body (by rfl) (by rfl) ?_
  unfold m_Web___init__
  walk_at "0"
  repeat walk_at "w"
  refine WF_mono within_ok ?_
  rintro r as rfl
  repeat walk_at "w"
  refine br_f (by simp; omega) ?_
  repeat walk_at "w"
  refine r_for (fun k σ => ∃ x y, σ = [some (Vt.own false (Ow.ins "Web" [] [])), some (Vt.dat (D.int ↑n)), some (Vt.vol (D.lst (List.map du us))), x, y, none] ∧ nresV (some x) = true ∧ nresV (some y) = true) ⟨_, _, rfl, rfl, rfl⟩ (fun k x σ hx hI => ?_) (fun σ hI => ?_)
  · obtain ⟨x1, y1, rfl, h1, h2⟩ := hI
    have h3 := nres_nr h2
    have h4 := nres_nr h1
    rw [map2] at hx
    obtain ⟨u, hu, rfl⟩ := enum_at _ _ _ _ hx
    have hk := (List.getElem?_eq_some_iff.mp hu).1
    have hb := hg.2.1 u.2 (List.mem_map_of_mem (List.mem_of_getElem? hu))
    rw [Nat.zero_add]
    repeat walk_at "w"
    refine br_d (fun h => absurd h (by omega)) (fun h => ?_)
    repeat walk_at "w"
    refine WF_mono (pair_ok (a := u.2.1) (b := u.2.2) ⟨u, by first | exact .inl rfl | exact .inr rfl, rfl⟩ hb.1 hb.2) ?_
    rintro r as rfl
    repeat walk_at "w"
    exact ⟨_, _, rfl, rfl, rfl⟩
  obtain ⟨x1, y1, rfl, h1, h2⟩ := hI
  repeat walk_at "w"
  rw [map3]
  refine ⟨still1 rfl h2, ?_⟩
  walk_at "w"
  refine r_lcM (fun u => du (tk u)) rfl (fun u hu => ?_) ?_
  · repeat walk_at "w"
    refine WM_eq (tup_du (f := .vol) (by first | exact .inl rfl | exact .inr rfl) u) ?_
    walk_at "e"
  repeat walk_at "w"
  unfold rngD
  refine r_lcM (fun r => .lst ((outsL (prs us) r).map dn)) rfl (fun r hr => ?_) ?_
  · rw [Int.zero_add]
    repeat walk_at "w"
    rw [map2]
    refine ⟨still2 rfl h1 rfl h2, ?_⟩
    walk_at "w"
    refine r_lcE (fun _ u => u.2.1 == r) (fun k _ => dn k) rfl (fun k u hu => ?_) ?_
    · repeat walk_at "w"
      refine ⟨by rw [tk_p]; exact dec_nat, fun _ => ?_, fun _ => ⟨rfl, rfl⟩⟩
      repeat walk_at "w"
      walk_at "e"
    repeat walk_at "w"
    rw [enF_idx, outsL, prs, idx_map]
    walk_at "e"
  repeat walk_at "w"
  unfold rngD
  refine r_lcM (fun r => .lst ((insL (prs us) r).map dn)) rfl (fun r hr => ?_) ?_
  · rw [Int.zero_add]
    repeat walk_at "w"
    rw [map2]
    refine ⟨still2 rfl h1 rfl h2, ?_⟩
    walk_at "w"
    refine r_lcE (fun _ u => u.2.2 == r) (fun k _ => dn k) rfl (fun k u hu => ?_) ?_
    · repeat walk_at "w"
      refine ⟨by rw [tk_p]; exact dec_nat, fun _ => ?_, fun _ => ⟨rfl, rfl⟩⟩
      repeat walk_at "w"
      walk_at "e"
    repeat walk_at "w"
    rw [enF_idx, insL, prs, idx_map]
    walk_at "e"
  repeat walk_at "w"
  refine WM_eq (x := .dat (.bl false)) ?_ ?_
  · unfold opV see
    dsimp only
    rw [no_empty hg]
  repeat walk_at "w"
  show some (D.obj "Web" ["size", "pairs", "leaving", "coming"] _) = some (wobj n (us.map tk))
  unfold wobj dqs
  rw [prs_tk, map2]
end Q
namespace Q
theorem w_rooms {n : Nat} {us : List P3} : WF (sem_Web_rooms [.dat (wobj n us)]) fun r _ => r = .dat (.int n) := by
  unfold sem_Web_rooms
  refine f_body (by rfl) (by rfl) ?_
  unfold m_Web_rooms
  walk_at "0"
  repeat walk_at "w"
  walk_at "e"
theorem w_arrows {n : Nat} {us : List P3} : WF (sem_Web_arrows [.dat (wobj n us)]) fun r _ => r = .own true (.lst (us.map du)) := by
  unfold sem_Web_arrows
  refine f_body (by rfl) (by rfl) ?_
  unfold m_Web_arrows
  walk_at "0"
  repeat walk_at "w"
  walk_at "e"
theorem w_len {n : Nat} {us : List P3} : WF (sem_Web___len__ [.dat (wobj n us)]) fun r _ => r = .dat (.int us.length) := by
  unfold sem_Web___len__
  refine f_body (by rfl) (by rfl) ?_
  unfold m_Web___len__
  walk_at "0"
  repeat walk_at "w"
  show Vt.dat (.int ((us.map du).length : Nat)) = _
  rw [List.length_map]
theorem w_need {n r : Nat} {us : List P3} (h : r < n) : WF (sem_Web_need_room [.dat (wobj n us), .dat (.int r)]) fun r _ => r = .dat .non := by
  unfold sem_Web_need_room
  refine f_body (by rfl) (by rfl) ?_
  unfold m_Web_need_room
  walk_at "0"
  repeat walk_at "w"
  refine WF_mono within_ok ?_
  rintro r as rfl
  repeat walk_at "w"
  refine br_f (by simp; omega) ?_
  repeat walk_at "w"
  walk_at "e"
theorem w_outs {n r : Nat} {us : List P3} (h : r < n) : WF (sem_Web_outs [.dat (wobj n us), .dat (.int r)]) fun x _ => x = .own true (.lst ((outsL (prs us) r).map dn)) := by
  unfold sem_Web_outs
  refine f_body (by rfl) (by rfl) ?_
  unfold m_Web_outs
  walk_at "0"
  repeat walk_at "w"
  refine WF_mono (w_need h) ?_
  rintro _ as rfl
  repeat walk_at "w"
  refine WM_eq (ix_lst (atD_map (by omega) (by simp; omega))) ?_
  simp only [Int.toNat_natCast, List.getElem_range]
  repeat walk_at "w"
  walk_at "e"
theorem w_ins {n r : Nat} {us : List P3} (h : r < n) : WF (sem_Web_ins [.dat (wobj n us), .dat (.int r)]) fun x _ => x = .own true (.lst ((insL (prs us) r).map dn)) := by
  unfold sem_Web_ins
  refine f_body (by rfl) (by rfl) ?_
  unfold m_Web_ins
  walk_at "0"
  repeat walk_at "w"
  refine WF_mono (w_need h) ?_
  rintro _ as rfl
  repeat walk_at "w"
  refine WM_eq (ix_lst (atD_map (by omega) (by simp; omega))) ?_
  simp only [Int.toNat_natCast, List.getElem_range]
  repeat walk_at "w"
  walk_at "e"
theorem w_has {n k : Nat} {us : List P3} (h : k < us.length) : WF (sem_Web_has_arrow [.dat (wobj n us), .dat (.int k)]) fun x _ => x = .dat (.bl true) := by
  unfold sem_Web_has_arrow
  refine f_body (by rfl) (by rfl) ?_
  unfold m_Web_has_arrow
  walk_at "0"
  repeat walk_at "w"
  refine WF_mono within_ok ?_
  rintro _ as rfl
  have : ((us.map du).length : Int) = us.length := by rw [List.length_map]
  simp [demV, this, show (k : Int) ≤ us.length - 1 by omega]
theorem w_begin {n k : Nat} {us : List P3} (h : k < us.length) : WF (sem_Web_begin [.dat (wobj n us), .dat (.int k)]) fun x _ => x = .dat (.int ((us[k]'h).2.1 : Nat)) := by
  unfold sem_Web_begin
  refine f_body (by rfl) (by rfl) ?_
  unfold m_Web_begin
  walk_at "0"
  repeat walk_at "w"
  refine WF_mono (w_has h) ?_
  rintro _ as rfl
  repeat walk_at "w"
  refine WM_eq (ix_tpl (atD_map (by omega) (by omega))) ?_
  simp only [Int.toNat_natCast]
  repeat walk_at "w"
  walk_at "e"
theorem w_end {n k : Nat} {us : List P3} (h : k < us.length) : WF (sem_Web_end [.dat (wobj n us), .dat (.int k)]) fun x _ => x = .dat (.int ((us[k]'h).2.2 : Nat)) := by
  unfold sem_Web_end
  refine f_body (by rfl) (by rfl) ?_
  unfold m_Web_end
  walk_at "0"
  repeat walk_at "w"
  refine WF_mono (w_has h) ?_
  rintro _ as rfl
  repeat walk_at "w"
  refine WM_eq (ix_tpl (atD_map (by omega) (by omega))) ?_
  simp only [Int.toNat_natCast]
  repeat walk_at "w"
  walk_at "e"
end Q
namespace Q
theorem num_len : ∀ n < 1000, (num n).length ≤ 10 := by
  have h : (List.range 1000).all (fun n => decide ((num n).length ≤ 10)) = true := by decide +kernel
  intro n hn
  exact of_decide_eq_true (List.all_eq_true.mp h n (List.mem_range.mpr hn))
theorem str_ok (s : String) : (Str.ofString s).cps.all (· < 0x110000) = true := by
  rw [Str.ofString_eq_toList]
  simp only [List.all_toArray, List.all_map, List.all_eq_true, Function.comp]
  intro c _
  have h := c.valid
  simp only [decide_eq_true_eq]
  rcases h with h | h
  · have : c.toNat < 0xd800 := h
    omega
  · have : c.toNat < 0x110000 := h.2
    exact this
theorem app_ok {a b : Str} (h1 : a.cps.all (· < 0x110000) = true) (h2 : b.cps.all (· < 0x110000) = true) : (a ++ b).cps.all (· < 0x110000) = true := by
  show (a.cps ++ b.cps).all _ = true
  rw [Array.all_append, h1, h2]
  rfl
theorem nice_du {n : Nat} {u : P3} : niceD (n + 1) (du u) = true := by
  rcases du_cases u with e | e | e <;> rw [e] <;> simp [niceD, niceDL]
theorem nice_dus {n : Nat} {us : List P3} : niceDL (n + 1) (us.map du) = true :=
  niceDL_all fun x hx => by
    obtain ⟨k, _, rfl⟩ := List.mem_map.mp hx
    exact nice_du
theorem eq_du {u v : P3} (hu : u.1 < 2) (hv : v.1 < 2) : eqD (du u) (du v) = (u.2 == v.2) := by
  obtain ⟨k, a, b⟩ := u
  obtain ⟨l, c, d⟩ := v
  have e : ((a, b) == (c, d)) = ((a == c) && (b == d)) := rfl
  have e1 : ∀ a c : Nat, ((a : Int) == (c : Int)) = (a == c) := fun a c => by
    by_cases h : a = c
    · subst h; simp
    · have : ¬ ((a : Int) = (c : Int)) := by omega
      rw [beq_eq_false_iff_ne.mpr h, beq_eq_false_iff_ne.mpr this]
  rcases k with _ | _ | k <;> rcases l with _ | _ | l <;> first | (exfalso; dsimp only at hu hv; omega) | (simp only [du, eqD, eqDL, e, e1, Bool.and_true])
theorem eq_dus : ∀ {us vs : List P3}, (∀ u ∈ us, u.1 < 2) → (∀ u ∈ vs, u.1 < 2) → eqDL (us.map du) (vs.map du) = (prs us == prs vs)
  | [], [], _, _ => by simp [eqDL, prs]
  | [], v :: vs, _, _ => by simp [eqDL, prs]
  | u :: us, [], _, _ => by simp [eqDL, prs]
  | u :: us, v :: vs, h1, h2 => by
    simp only [List.map_cons, eqDL]
    rw [eq_du (h1 u (List.mem_cons_self ..)) (h2 v (List.mem_cons_self ..)), eq_dus (fun x hx => h1 x (List.mem_cons_of_mem _ hx)) (fun x hx => h2 x (List.mem_cons_of_mem _ hx))]
    simp only [prs, List.map_cons, List.cons_beq_cons]
def cntP (ps : List (Nat × Nat)) (a b : Nat) : Nat := ps.countP fun p => p == (a, b)
theorem cnt_ok {τ : Ls} {us : List P3} {u : P3} (h1 : ∀ u ∈ us, u.1 < 2) (h2 : u.1 < 2) : fCount τ (.dat (.tpl (us.map du))) (.dat (du u)) = some (.dat (.int (cntP (prs us) u.2.1 u.2.2 : Nat))) := by
  have n1 : nice60 (.tpl (us.map du)) = true := by unfold nice60; rw [niceD]; exact nice_dus
  have n2 : nice60 (du u) = true := nice_du
  unfold fCount
  dsimp only
  rw [n1, n2, if_pos (by rfl)]
  congr 3
  unfold cntP prs
  rw [List.countP_map, List.countP_map]
  congr 1
  refine List.countP_congr fun v hv => ?_
  simp only [Function.comp]
  rw [eq_du (h1 v hv) h2]
theorem gEq_dqs {τ : Ls} {us vs : List P3} (h1 : ∀ u ∈ us, u.1 < 2) (h2 : ∀ u ∈ vs, u.1 < 2) : opV gEq τ (.dat (dqs us)) (.dat (dqs vs)) = some (.dat (.bl (prs us == prs vs))) := by
  have n1 : ∀ us : List P3, nice60 (.tpl (us.map du)) = true := fun us => by unfold nice60; rw [niceD]; exact nice_dus
  unfold opV see gEq dqs
  dsimp only
  rw [n1, n1, if_pos (by rfl)]
  dsimp only
  rw [eqD, eq_dus h1 h2]
theorem w_eq {n m : Nat} {us vs : List P3} (h1 : ∀ u ∈ us, u.1 < 2) (h2 : ∀ u ∈ vs, u.1 < 2) : WF (sem_Web___eq__ [.dat (wobj n us), .dat (wobj m vs)]) fun r _ => r = .dat (.bl (n == m && prs us == prs vs)) := by
  unfold sem_Web___eq__
  refine f_body (by rfl) (by rfl) ?_
  unfold m_Web___eq__
  walk_at "0"
  repeat walk_at "w"
  refine br_d (fun h => ?_) (fun h => ?_)
  · repeat walk_at "w"
    refine WM_eq (gEq_dqs h1 h2) ?_
    show Vt.dat _ = _
    have : n = m := by omega
    rw [beq_iff_eq.mpr this]
    rfl
  · have : (n == m) = false := beq_eq_false_iff_ne.mpr (by omega)
    show Vt.dat _ = _
    rw [this]
    rfl
theorem w_eqT {n : Nat} {us : List P3} {xs : List D} : WF (sem_Web___eq__ [.dat (wobj n us), .dat (.tup xs)]) fun r _ => r = .dat (.bl false) := by
  unfold sem_Web___eq__
  refine f_body (by rfl) (by rfl) ?_
  unfold m_Web___eq__
  walk_at "0"
  repeat walk_at "w"
  walk_at "e"
theorem w_leading {n a b : Nat} {us : List P3} (h1 : ∀ u ∈ us, u.1 < 2) (ha : a < n) (hb : b < n) : WF (sem_Web_leading [.dat (wobj n us), .dat (.int a), .dat (.int b)]) fun r _ => r = .dat (.int (cntP (prs us) a b)) := by
  unfold sem_Web_leading
  refine f_body (by rfl) (by rfl) ?_
  unfold m_Web_leading
  walk_at "0"
  repeat walk_at "w"
  refine WF_mono (w_need ha) ?_
  rintro _ as rfl
  repeat walk_at "w"
  refine WF_mono (w_need hb) ?_
  rintro _ as rfl
  repeat walk_at "w"
  refine WM_eq (cnt_ok (u := (0, a, b)) h1 Nat.zero_lt_two) ?_
  walk_at "e"
theorem gNe_str {τ : Ls} {x : Str} (h : x.cps.all (· < 0x110000) = true) : opV gNe τ (.dat (.str x)) (.dat (.str x)) = some (.dat (.bl false)) := by
  have hn : nice60 (.str x) = true := by unfold nice60; rw [niceD]; exact h
  unfold opV gNe see
  dsimp only
  rw [hn, if_pos (by rfl)]
  simp [eqD]
def wrepr (n k : Nat) : Str := Str.ofString "Web(" ++ num n ++ Str.ofString " rooms, " ++ num k ++ Str.ofString " arrows)"
theorem wrepr_ok {n k : Nat} : (wrepr n k).cps.all (· < 0x110000) = true :=
  app_ok (app_ok (app_ok (app_ok (str_ok _) (str_ok _)) (str_ok _)) (str_ok _)) (str_ok _)
theorem w_repr {n : Nat} {us : List P3} (hn : n < 1000) (hk : us.length < 1000) : WF (sem_Web___repr__ [.dat (wobj n us)]) fun r _ => r = .dat (.str (wrepr n us.length)) := by
  unfold sem_Web___repr__
  refine f_body (by rfl) (by rfl) ?_
  unfold m_Web___repr__
  walk_at "0"
  repeat walk_at "w"
  have e1 : (Str.ofString "Web(").length = 4 := by decide +kernel
  have e2 : (Str.ofString " rooms, ").length = 8 := by decide +kernel
  have e3 : (Str.ofString " arrows)").length = 8 := by decide +kernel
  have e0 : Str.empty ++ Str.ofString "Web(" = Str.ofString "Web(" := by decide +kernel
  have l1 := num_len n hn
  have l2 := num_len us.length hk
  rw [e0]
  refine ⟨by omega, ?_⟩
  repeat walk_at "w"
  refine ⟨hn, ?_⟩
  repeat walk_at "w"
  refine ⟨by rw [app_len]; omega, ?_⟩
  repeat walk_at "w"
  refine ⟨by rw [app_len, app_len]; omega, ?_⟩
  repeat walk_at "w"
  rw [show (us.map du).length = us.length from List.length_map ..]
  refine ⟨hk, ?_⟩
  repeat walk_at "w"
  refine ⟨by rw [app_len, app_len, app_len]; omega, ?_⟩
  repeat walk_at "w"
  refine ⟨by rw [app_len, app_len, app_len, app_len]; omega, ?_⟩
  repeat walk_at "w"
  walk_at "e"
end Q
namespace Q
def tupD : D → Option (List D)
  | .tup xs => some xs
  | .tpl xs => some xs
  | _ => none
def Sm : Nat → D → D → Prop
  | 0, _, _ => False
  | _ + 1, .int a, .int b => a = b
  | _ + 1, .bl a, .bl b => a = b
  | _ + 1, .str a, .str b => a = b ∧ a.cps.all (· < 0x110000) = true
  | _ + 1, .non, .non => True
  | n + 1, .lst xs, .lst ys => xs.length = ys.length ∧ xs.length ≤ 100000 ∧ ∀ (i : Nat) (x y : D), xs[i]? = some x → ys[i]? = some y → Sm n x y
  | n + 1, d, e => ∃ xs ys : List D, tupD d = some xs ∧ tupD e = some ys ∧ xs.length = ys.length ∧ xs.length ≤ 100000 ∧ ∀ (i : Nat) (x y : D), xs[i]? = some x → ys[i]? = some y → Sm n x y
/-- a thing as it is handed on -/
def Hd (x : Vt) (d : D) : Prop := x = .dat d ∨ (x = .vol d ∧ scalD d = false)
theorem all_true {xs : List It1} {F : It1 → Option D} (h : ∀ x ∈ xs, F x = some (.bl true)) : gAll [.lst (xs.filterMap F)] = some (.bl true) := by
  have : ∃ bs : List Bool, bls (xs.filterMap F) = some bs ∧ bs.all id = true := by
    induction xs with
    | nil => exact ⟨[], rfl, rfl⟩
    | cons x xs ih =>
      obtain ⟨bs, h1, h2⟩ := ih fun y hy => h y (List.mem_cons_of_mem _ hy)
      refine ⟨true :: bs, ?_, by simpa using h2⟩
      rw [List.filterMap_cons_some (h x (List.mem_cons_self ..))]
      simp [bls, h1]
  obtain ⟨bs, h1, h2⟩ := this
  simp [gAll, h1, h2]
theorem zip_at {f g : D → Vt} : ∀ {xs ys : List D} {k : Nat} {x : It1}, (List.zipWith It1.two (xs.map f) (ys.map g))[k]? = some x → ∃ a b, xs[k]? = some a ∧ ys[k]? = some b ∧ x = .two (f a) (g b)
  | [], _, _, _, h => by cases h
  | _ :: _, [], _, _, h => by cases h
  | a :: xs, b :: ys, 0, x, h => by cases h; exact ⟨a, b, rfl, rfl, rfl⟩
  | a :: xs, b :: ys, k + 1, x, h => by
    rw [List.map_cons, List.map_cons, List.zipWith_cons_cons, List.getElem?_cons_succ] at h
    exact zip_at (xs := xs) (ys := ys) (k := k) h
theorem hd_i {d : D} (f : D → Vt) (hf : f = .dat ∨ f = .vol) (τ : Ls) (i : Nat) {w : Option Vt} {N : Ls → Prop} (h2 : τ[i]? = some w) (h3 : nrV w = true) (k : ∀ x, Hd x d → N (τ.set i (some x))) : WM (stName i (f d) τ) N := by
  by_cases hs : scalD d = true
  · refine g_name (t := .dat d) ?_ h2 h3 (k _ (.inl rfl))
    rcases hf with rfl | rfl
    · rfl
    · simp [stkV, seenV, hs]
  · rcases hf with rfl | rfl
    · exact g_name rfl h2 h3 (k _ (.inl rfl))
    · exact g_name (t := .vol d) (by simp [stkV, seenV, hs]) h2 h3 (k _ (.inr ⟨rfl, by simpa using hs⟩))
theorem e_hd {x : Vt} {d : D} {τ : Ls} {i : Nat} {Q : Vt → Ls → Bool → Prop} (h : Hd x d) (h1 : τ[i]? = some (some x)) (k : Q x τ true) : WE (mVar i τ) Q := by
  rcases h with rfl | ⟨rfl, _⟩
  · exact e_varD h1 k
  · exact e_varV h1 k
theorem arg_hd {x : Vt} {d : D} {τ : Ls} (h : Hd x d) : argV τ x = some x := by
  rcases h with rfl | ⟨rfl, h⟩
  · rfl
  · simp [argV, see, h]
theorem c_hd2 {S : Sem} {x y : Vt} {d e : D} {b : Bool} {τ : Ls} {Q : Vt → Ls → Bool → Prop} (h : Hd x d) (h' : Hd y e) (k : WF (S [x, y]) fun r _ => Q (demV r) τ b) : WE (callF false S τ [x, y] b) Q := by
  refine c_dat (as := [x, y]) ?_ k
  simp [argsV, arg_hd h, arg_hd h']
theorem fz_hd {x : Vt} {d : D} (h : Hd x d) : fzV x = x := by
  rcases h with rfl | ⟨rfl, _⟩ <;> rfl
theorem st_hd {x : Vt} {d : D} {b : Bool} (h : Hd x d) : stbV x b = true := by
  rcases h with rfl | ⟨rfl, _⟩ <;> rfl
theorem frees_hd {x y u v : Vt} {d e : D} (h : Hd u d) (h' : Hd v e) : freesP [some x, some y, some u, some v] [2, 3] = true := by
  rcases h with rfl | ⟨rfl, _⟩ <;> rcases h' with rfl | ⟨rfl, _⟩ <;> rfl
def SmL (n : Nat) (xs ys : List D) : Prop := xs.length = ys.length ∧ ∀ (i : Nat) (x y : D), xs[i]? = some x → ys[i]? = some y → Sm n x y
theorem SmL.nil {n : Nat} : SmL n [] [] := ⟨rfl, fun i x y h => by cases h⟩
theorem SmL.cons {n : Nat} {x y : D} {xs ys : List D} (h : Sm n x y) (t : SmL n xs ys) : SmL n (x :: xs) (y :: ys) := by
  refine ⟨by rw [List.length_cons, List.length_cons, t.1], fun i a b h1 h2 => ?_⟩
  cases i with
  | zero => cases h1; cases h2; exact h
  | succ i => exact t.2 i a b h1 h2
theorem SmL.map {α β : Type} {n : Nat} {f : α → D} {g : β → D} {xs : List α} {ys : List β} (hl : xs.length = ys.length) (h : ∀ (i : Nat) (x : α) (y : β), xs[i]? = some x → ys[i]? = some y → Sm n (f x) (g y)) : SmL n (xs.map f) (ys.map g) := by
  refine ⟨by rw [List.length_map, List.length_map, hl], fun i a b h1 h2 => ?_⟩
  rw [List.getElem?_map, Option.map_eq_some_iff] at h1 h2
  obtain ⟨x, hx, rfl⟩ := h1
  obtain ⟨y, hy, rfl⟩ := h2
  exact h i x y hx hy
theorem SmL.lst {n : Nat} {xs ys : List D} (h : SmL n xs ys) (hl : xs.length ≤ 100000) : Sm (n + 1) (.lst xs) (.lst ys) := ⟨h.1, hl, h.2⟩
theorem SmL.tup {n : Nat} {d e : D} {xs ys : List D} (h : SmL n xs ys) (hd : tupD d = some xs) (he : tupD e = some ys) (hl : xs.length ≤ 100000) : Sm (n + 1) d e := by
  cases d <;> cases hd <;> cases e <;> cases he <;> exact ⟨_, _, rfl, rfl, h.1, hl, h.2⟩
theorem Sm.dn {n k : Nat} : Sm (n + 1) (Q.dn k) (Q.dn k) := rfl
theorem Sm.int {n : Nat} {i : Int} : Sm (n + 1) (.int i) (.int i) := rfl
theorem Sm.dns {n : Nat} {ks : List Nat} (hl : ks.length ≤ 100000) : Sm (n + 2) (.lst (ks.map Q.dn)) (.lst (ks.map Q.dn)) :=
  (SmL.map rfl fun i x y h1 h2 => by rw [h1] at h2; cases h2; exact Sm.dn).lst (by rw [List.length_map]; exact hl)
theorem Sm.du {n : Nat} {u v : P3} (h : u.2 = v.2) (hu : u.1 < 2) (hv : v.1 < 2) : Sm (n + 2) (Q.du u) (Q.du v) := by
  have e : ∀ u : P3, u.1 < 2 → tupD (Q.du u) = some [.int u.2.1, .int u.2.2] := fun u hu => by
    obtain ⟨k, i, j⟩ := u
    rcases k with _ | _ | k
    · rfl
    · rfl
    · dsimp only at hu; omega
  refine SmL.tup (SmL.cons ?_ (SmL.cons ?_ SmL.nil)) (e u hu) (e v hv) (of_decide_eq_true rfl)
  · rw [h]; exact Sm.int
  · rw [h]; exact Sm.int
theorem Sm.dus {n : Nat} {us vs : List P3} (h : prs us = prs vs) (hu : ∀ u ∈ us, u.1 < 2) (hv : ∀ u ∈ vs, u.1 < 2) (hl : us.length ≤ 100000) : Sm (n + 3) (.lst (us.map Q.du)) (.lst (vs.map Q.du)) := by
  have hl' : us.length = vs.length := by
    have := congrArg List.length h
    simpa [prs] using this
  refine (SmL.map hl' fun i x y h1 h2 => ?_).lst (by rw [List.length_map]; exact hl)
  refine Sm.du ?_ (hu x (List.mem_of_getElem? h1)) (hv y (List.mem_of_getElem? h2))
  have := congrArg (fun l : List (Nat × Nat) => l[i]?) h
  simp only [prs, List.getElem?_map, h1, h2, Option.map_some, Option.some.injEq] at this
  exact this
theorem same_ok : ∀ (n : Nat) {d e : D} {x y : Vt}, Sm n d e → Hd x d → Hd y e → WF (sem__law_same n [x, y]) fun r _ => r = .dat (.bl true)
  | 0, _, _, _, _, h, _, _ => h.elim
  | n + 1, d, e, x, y, h, hx, hy => by
    have ih := @same_ok n
    unfold sem__law_same
    have key : ∀ (f g : D → Vt), (f = .dat ∨ f = .vol) → (g = .dat ∨ g = .vol) → ∀ xs ys : List D, xs.length = ys.length → xs.length ≤ 100000 → (∀ (i : Nat) (x y : D), xs[i]? = some x → ys[i]? = some y → Sm n x y) → ∀ x y : Vt, WL (runC [2, 3] (sgTup2 (stName 2) (stName 3)) mYes (mFz (mCall false (sem__law_same n) (mCons (mVar 2) (mCons (mVar 3) mNil)))) (List.zipWith It1.two (xs.map f) (ys.map g)) [some x, some y, none, none]) fun ds τ => gAll [.lst ds] = some (.bl true) ∧ τ = [some x, some y, none, none] := by
      intro f g hf hg xs ys hl hm hs x y
      refine r_lc (fun _ => some (.bl true)) rfl (fun k z hz => ?_) ⟨all_true fun _ _ => rfl, rfl⟩
      obtain ⟨a, b, ha, hb, rfl⟩ := zip_at hz
      have hs := hs k a b ha hb
      refine gi_two (by rcases hf with rfl | rfl <;> rfl) (by rcases hg with rfl | rfl <;> rfl) ?_
      refine hd_i f hf _ _ rfl rfl fun u hu => ?_
      walk_at "n"
      refine hd_i g hg _ _ rfl rfl fun v hv => ?_
      walk_at "n"
      repeat walk_at "w"
      refine e_hd hu rfl ?_
      repeat walk_at "w"
      refine e_hd hv rfl ?_
      repeat walk_at "w"
      refine c_hd2 hu hv ?_
      refine WF_mono (ih hs hu hv) ?_
      rintro r as rfl
      repeat walk_at "w"
      exact ⟨frees_hd hu hv, rfl⟩
    have seq : ∀ (f g : D → Vt) (a b : D) (xs ys : List D), (f = .dat ∨ f = .vol) → (g = .dat ∨ g = .vol) → ((a = .lst xs ∧ b = .lst ys) ∨ ((a = .tup xs ∨ a = .tpl xs) ∧ (b = .tup ys ∨ b = .tpl ys))) → xs.length = ys.length → xs.length ≤ 100000 → (∀ (i : Nat) (x y : D), xs[i]? = some x → ys[i]? = some y → Sm n x y) → WF (body 2 4 (m__law_same (sem__law_same n)) [f a, g b]) fun r _ => r = .dat (.bl true) := by
      intro f g a b xs ys hf hg hab hl hm hs
      have key := key f g hf hg xs ys hl hm hs
      rcases hf with rfl | rfl <;> rcases hg with rfl | rfl <;> rcases hab with ⟨rfl, rfl⟩ | ⟨rfl | rfl, rfl | rfl⟩ <;>
      · refine f_body (by rfl) (by rfl) ?_
        unfold m__law_same
        walk_at "0"
        repeat walk_at "w"
        refine br_d (fun _ => ?_) (fun h => absurd (by omega) h)
        repeat walk_at "w"
        refine ⟨by rw [List.length_zipWith, List.length_map, List.length_map]; omega, ?_⟩
        walk_at "n"
        refine WL_mono (key _ _) ?_
        rintro ds τ ⟨h1, rfl⟩
        repeat walk_at "w"
        walk_at "e"
    have hdf : ∀ {x : Vt} {d : D}, Hd x d → ∃ f : D → Vt, (f = .dat ∨ f = .vol) ∧ x = f d := fun h => by
      rcases h with rfl | ⟨rfl, _⟩
      · exact ⟨_, .inl rfl, rfl⟩
      · exact ⟨_, .inr rfl, rfl⟩
    have sc : ∀ {x : Vt} {d : D}, Hd x d → scalD d = true → x = .dat d := fun h hs => by
      rcases h with rfl | ⟨rfl, h⟩
      · rfl
      · rw [hs] at h; cases h
    have scal : scalD d = true → scalD e = true → ((∃ a b, d = .int a ∧ e = .int b) ∨ (∃ a b, d = .bl a ∧ e = .bl b) ∨ (∃ a b, d = .str a ∧ e = .str b) ∨ (d = .non ∧ e = .non)) → WF (body 2 4 (m__law_same (sem__law_same n)) [x, y]) fun r _ => r = .dat (.bl true) := by
      intro h1 h2 hc
      rw [sc hx h1, sc hy h2]
      rcases hc with ⟨a, b, rfl, rfl⟩ | ⟨a, b, rfl, rfl⟩ | ⟨a, b, rfl, rfl⟩ | ⟨rfl, rfl⟩
      · refine f_body (by rfl) (by rfl) ?_
        unfold m__law_same
        walk_at "0"
        repeat walk_at "w"
        show Vt.dat (.bl (decide (a = b))) = _
        rw [decide_eq_true (show a = b from h)]
      · refine f_body (by rfl) (by rfl) ?_
        unfold m__law_same
        walk_at "0"
        repeat walk_at "w"
        show Vt.dat (.bl (eqD (.bl a) (.bl b))) = _
        have h : a = b := h
        subst h
        simp [eqD]
      · refine f_body (by rfl) (by rfl) ?_
        unfold m__law_same
        walk_at "0"
        repeat walk_at "w"
        obtain ⟨rfl, h⟩ := h
        have hn : nice60 (.str a) = true := by unfold nice60; rw [niceD]; exact h
        refine WM_eq (x := .dat (.bl true)) ?_ ?_
        · unfold opV see gEq
          dsimp only
          rw [hn, if_pos (by rfl)]
          simp [eqD]
        · walk_at "e"
      · refine f_body (by rfl) (by rfl) ?_
        unfold m__law_same
        walk_at "0"
        repeat walk_at "w"
        walk_at "e"
    obtain ⟨f, hf, ex⟩ := hdf hx
    obtain ⟨g, hg, ey⟩ := hdf hy
    cases d with
    | int a => cases e with
      | int b => exact scal rfl rfl (.inl ⟨_, _, rfl, rfl⟩)
      | _ => obtain ⟨_, _, h, _⟩ := h; cases h
    | bl a => cases e with
      | bl b => exact scal rfl rfl (.inr (.inl ⟨_, _, rfl, rfl⟩))
      | _ => obtain ⟨_, _, h, _⟩ := h; cases h
    | str a => cases e with
      | str b => exact scal rfl rfl (.inr (.inr (.inl ⟨_, _, rfl, rfl⟩)))
      | _ => obtain ⟨_, _, h, _⟩ := h; cases h
    | non => cases e with
      | non => exact scal rfl rfl (.inr (.inr (.inr ⟨rfl, rfl⟩)))
      | _ => obtain ⟨_, _, h, _⟩ := h; cases h
    | lst xs => cases e with
      | lst ys => rw [ex, ey]; exact seq f g _ _ xs ys hf hg (.inl ⟨rfl, rfl⟩) h.1 h.2.1 h.2.2
      | _ => obtain ⟨_, _, h, _⟩ := h; cases h
    | tup xs => cases e with
      | tup ys => obtain ⟨_, _, h1, h2, h⟩ := h; cases h1; cases h2; rw [ex, ey]; exact seq f g _ _ xs ys hf hg (.inr ⟨.inl rfl, .inl rfl⟩) h.1 h.2.1 h.2.2
      | tpl ys => obtain ⟨_, _, h1, h2, h⟩ := h; cases h1; cases h2; rw [ex, ey]; exact seq f g _ _ xs ys hf hg (.inr ⟨.inl rfl, .inr rfl⟩) h.1 h.2.1 h.2.2
      | _ => obtain ⟨_, _, _, h, _⟩ := h; cases h
    | tpl xs => cases e with
      | tup ys => obtain ⟨_, _, h1, h2, h⟩ := h; cases h1; cases h2; rw [ex, ey]; exact seq f g _ _ xs ys hf hg (.inr ⟨.inr rfl, .inl rfl⟩) h.1 h.2.1 h.2.2
      | tpl ys => obtain ⟨_, _, h1, h2, h⟩ := h; cases h1; cases h2; rw [ex, ey]; exact seq f g _ _ xs ys hf hg (.inr ⟨.inr rfl, .inr rfl⟩) h.1 h.2.1 h.2.2
      | _ => obtain ⟨_, _, _, h, _⟩ := h; cases h
    | _ => obtain ⟨_, _, h, _⟩ := h; cases h
end Q
namespace Q
def z0 (ps : List (Nat × Nat)) : List P3 := ps.map fun p => (0, p)
theorem z0_du (ps : List (Nat × Nat)) : ps.map dp = (z0 ps).map du := by
  unfold z0
  rw [List.map_map]
  rfl
theorem z0_prs (ps : List (Nat × Nat)) : prs (z0 ps) = ps := by
  unfold z0 prs
  rw [List.map_map]
  exact List.map_id ps
theorem z0_k {ps : List (Nat × Nat)} : ∀ u ∈ z0 ps, u.1 < 2 := by
  intro u hu
  obtain ⟨p, _, rfl⟩ := List.mem_map.mp hu
  exact Nat.zero_lt_two
theorem z0_len {ps : List (Nat × Nat)} : (z0 ps).length = ps.length := List.length_map ..
def wt (n : Nat) (ps : List (Nat × Nat)) : D := .tup [.int n, .tpl ((z0 ps).map du)]
theorem l_outs {n r : Nat} {ps : List (Nat × Nat)} (h : ps.length ≤ 100000) : WF (sem__law_outs [.dat (wt n ps), .dat (.int r)]) fun x _ => x = .own true (.lst ((outsL ps r).map dn)) := by
  unfold sem__law_outs
  refine f_body (by rfl) (by rfl) ?_
  unfold m__law_outs
  walk_at "0"
  repeat walk_at "w"
  rw [map2]
  refine ⟨by rw [enumD_len]; simp [z0]; omega, ?_⟩
  walk_at "n"
  refine r_lcE (fun _ u => u.2.1 == r) (fun k _ => dn k) rfl (fun k u hu => ?_) ?_
  · repeat walk_at "w"
    refine ⟨dec_nat, fun _ => ?_, fun _ => ⟨rfl, rfl⟩⟩
    repeat walk_at "w"
    walk_at "e"
  repeat walk_at "w"
  rw [enF_idx, outsL]
  conv => rhs; rw [← z0_prs ps, prs, idx_map]
theorem l_ins {n r : Nat} {ps : List (Nat × Nat)} (h : ps.length ≤ 100000) : WF (sem__law_ins [.dat (wt n ps), .dat (.int r)]) fun x _ => x = .own true (.lst ((insL ps r).map dn)) := by
  unfold sem__law_ins
  refine f_body (by rfl) (by rfl) ?_
  unfold m__law_ins
  walk_at "0"
  repeat walk_at "w"
  rw [map2]
  refine ⟨by rw [enumD_len]; simp [z0]; omega, ?_⟩
  walk_at "n"
  refine r_lcE (fun _ u => u.2.2 == r) (fun k _ => dn k) rfl (fun k u hu => ?_) ?_
  · repeat walk_at "w"
    refine ⟨dec_nat, fun _ => ?_, fun _ => ⟨rfl, rfl⟩⟩
    repeat walk_at "w"
    walk_at "e"
  repeat walk_at "w"
  rw [enF_idx, insL]
  conv => rhs; rw [← z0_prs ps, prs, idx_map]
theorem l_count {n a b : Nat} {ps : List (Nat × Nat)} : WF (sem__law_count [.dat (wt n ps), .dat (.int a), .dat (.int b)]) fun x _ => x = .dat (.int (cntP ps a b)) := by
  unfold sem__law_count
  refine f_body (by rfl) (by rfl) ?_
  unfold m__law_count
  walk_at "0"
  repeat walk_at "w"
  refine WM_eq (cnt_ok (u := (0, a, b)) z0_k Nat.zero_lt_two) ?_
  rw [z0_prs]
  walk_at "e"
theorem l_made {n : Nat} {ps : List (Nat × Nat)} (hg : GoodW n ps) (hn : n ≤ 100) (hl : ps.length ≤ 400) : WF (sem__law_made [.dat (wt n ps)]) fun x _ => x = .dat (wobj n (z0 ps)) := by
  unfold sem__law_made
  refine f_body (by rfl) (by rfl) ?_
  unfold m__law_made
  walk_at "0"
  repeat walk_at "w"
  refine WF_mono (init_ok_dat (us := z0 ps) hn (by rw [z0_prs]; exact hg) (by rw [z0_len]; exact hl)) ?_
  intro r as h
  refine ⟨_, h, ?_⟩
  have : (z0 ps).map tk = z0 ps := by unfold z0; rw [List.map_map]; rfl
  rw [this]
  walk_at "e"
theorem perm_len {n : Nat} {rs : List Nat} (h : (List.range n).Perm rs) : rs.length = n := by rw [← h.length_eq]; simp
theorem perm_mem {n : Nat} {rs : List Nat} (h : (List.range n).Perm rs) {i : Nat} : i ∈ rs ↔ i < n := by rw [← h.mem_iff]; simp
theorem perm_nd {n : Nat} {rs : List Nat} (h : (List.range n).Perm rs) : rs.Nodup := h.nodup_iff.mp List.nodup_range
theorem perm_lt {n : Nat} {rs : List Nat} (h : (List.range n).Perm rs) {i : Nat} (hi : i < n) : rs.getD i 0 < n := by
  have hl := perm_len h
  rw [List.getD_eq_getElem?_getD, List.getElem?_eq_getElem (by omega)]
  exact (perm_mem h).mp (List.getElem_mem _)
theorem perm_inj {n : Nat} {rs : List Nat} (h : (List.range n).Perm rs) {i j : Nat} (hi : i < n) (hj : j < n) (e : rs.getD i 0 = rs.getD j 0) : i = j := by
  have hl := perm_len h
  rw [List.getD_eq_getElem?_getD, List.getElem?_eq_getElem (by omega), List.getD_eq_getElem?_getD, List.getElem?_eq_getElem (by omega)] at e
  exact (List.getElem_inj (perm_nd h)).mp e
theorem perm_sur {n : Nat} {rs : List Nat} (h : (List.range n).Perm rs) {j : Nat} (hj : j < n) : ∃ i < n, rs.getD i 0 = j := by
  have hl := perm_len h
  obtain ⟨i, hi⟩ := List.getElem?_of_mem ((perm_mem h).mpr hj)
  exact ⟨i, by have := (List.getElem?_eq_some_iff.mp hi).1; omega, by rw [List.getD_eq_getElem?_getD, hi]; rfl⟩
def NamedP (ps : List (Nat × Nat)) (rs ks : List Nat) (qs : List (Nat × Nat)) : Prop := qs.length = ps.length ∧ ∀ (i : Nat) (p : Nat × Nat), ps[i]? = some p → qs[ks.getD i 0]? = some (rs.getD p.1 0, rs.getD p.2 0)
theorem NamedP.good {n : Nat} {ps qs : List (Nat × Nat)} {rs ks : List Nat} (h : NamedP ps rs ks qs) (hg : GoodW n ps) (hr : (List.range n).Perm rs) (hk : (List.range ps.length).Perm ks) : GoodW n qs := by
  refine ⟨hg.1, fun q hq => ?_, fun r hr' => ?_⟩
  · obtain ⟨j, hj⟩ := List.getElem?_of_mem hq
    have hjl := (List.getElem?_eq_some_iff.mp hj).1
    obtain ⟨i, hi, e⟩ := perm_sur hk (j := j) (by rw [← h.1]; exact hjl)
    have := h.2 i ps[i] (List.getElem?_eq_getElem hi)
    rw [e, hj] at this
    cases this
    have hp := hg.2.1 ps[i] (List.getElem_mem _)
    exact ⟨perm_lt hr hp.1, perm_lt hr hp.2⟩
  · obtain ⟨i, hi, e⟩ := perm_sur hr hr'
    obtain ⟨p, hp, e'⟩ := hg.2.2 i hi
    obtain ⟨j, hj⟩ := List.getElem?_of_mem hp
    have := h.2 j p hj
    exact ⟨_, List.mem_of_getElem? this, by rw [e', e]⟩
theorem atD_dn {ks : List Nat} {i : Nat} (h : i < ks.length) : atD (ks.map dn) (i : Int) = some (dn (ks.getD i 0)) := by
  rw [atD_map (by omega) (by omega)]
  simp only [Int.toNat_natCast]
  rw [List.getD_eq_getElem?_getD, List.getElem?_eq_getElem h]
  rfl
theorem gEq_wt {τ : Ls} {n m : Nat} {ps qs : List (Nat × Nat)} : opV gEq τ (.dat (wt n ps)) (.dat (wt m qs)) = some (.dat (.bl (n == m && ps == qs))) := by
  have hn : ∀ n ps, nice60 (.tup [.int (n : Nat), .tpl ((z0 ps).map du)]) = true := fun n ps => by
    unfold nice60
    rw [niceD, niceDL, niceDL, niceDL, niceD, niceD, nice_dus]
    rfl
  unfold opV see gEq wt
  dsimp only
  rw [hn, hn, if_pos (by rfl)]
  dsimp only
  rw [eqD, eqDL, eqDL, eqDL, eqD, eqD, eq_dus z0_k z0_k, z0_prs, z0_prs, Bool.and_true]
  have e1 : ((n : Int) == (m : Int)) = (n == m) := by
    by_cases h : n = m
    · subst h; simp
    · have : ¬ ((n : Int) = (m : Int)) := by omega
      rw [beq_eq_false_iff_ne.mpr h, beq_eq_false_iff_ne.mpr this]
  rw [e1]
theorem rep_ok {τ : Ls} {k : Nat} {d : D} (h : k ≤ 100000) : fRep τ (.own true (.lst [d])) (.dat (.int (k : Int))) = some (.own true (.lst (List.replicate k d))) := by
  unfold fRep dlst
  dsimp only
  rw [if_pos ⟨by omega, by omega, by simp only [List.length_cons, List.length_nil]; omega⟩, Int.toNat_natCast]
  congr 3
  induction k with
  | zero => rfl
  | succ k ih => rw [List.replicate_succ, List.flatten_cons, ih (by omega)]; rfl
theorem l_named {n : Nat} {ps : List (Nat × Nat)} {rs ks : List Nat} (hg : GoodW n ps) (hl : ps.length ≤ 1000) (hr : (List.range n).Perm rs) (hk : (List.range ps.length).Perm ks) :
    WF (sem__law_named [.dat (wt n ps), .dat (.lst (rs.map dn)), .dat (.lst (ks.map dn))]) fun x _ => ∃ qs, x = .dat (wt n qs) ∧ NamedP ps rs ks qs := by
  have hrl := perm_len hr
  have hkl := perm_len hk
  unfold sem__law_named
  refine f_body (by rfl) (by rfl) ?_
  unfold m__law_named
  walk_at "0"
  repeat walk_at "w"
  have hzl : ((z0 ps).map du).length = ps.length := by rw [List.length_map, z0_len]
  rw [hzl]
  refine WM_eq (rep_ok (by omega)) ?_
  repeat walk_at "w"
  rw [map2]
  refine r_for (fun k σ => ∃ (qs : List (Nat × Nat)) (x y : Option Vt), σ = [some (Vt.dat (wt n ps)), some (Vt.dat (D.lst (List.map dn rs))), some (Vt.dat (D.lst (List.map dn ks))), some (.own true (.lst (qs.map dp))), x, y] ∧ nrV x = true ∧ nrV y = true ∧ qs.length = ps.length ∧ ∀ i < k, ∀ p : Nat × Nat, ps[i]? = some p → qs[ks.getD i 0]? = some (rs.getD p.1 0, rs.getD p.2 0)) ⟨List.replicate ps.length (0, 0), _, _, by rw [List.map_replicate]; rfl, rfl, rfl, by simp, by omega⟩ (fun k x σ hx hI => ?_) (fun σ hI => ?_)
  · obtain ⟨qs, x', y', rfl, hx', hy', hq, hi⟩ := hI
    obtain ⟨u, hu, rfl⟩ := enum_at _ _ _ _ hx
    rw [Nat.zero_add]
    unfold z0 at hu
    rw [List.getElem?_map, Option.map_eq_some_iff] at hu
    obtain ⟨p, hp, rfl⟩ := hu
    have hk' := (List.getElem?_eq_some_iff.mp hp).1
    have hb := hg.2.1 p (List.mem_of_getElem? hp)
    repeat walk_at "w"
    refine WM_eq (ix_lst (atD_dn (by first | omega | (dsimp only; omega)))) ?_
    repeat walk_at "w"
    refine WM_eq (ix_lst (atD_dn (by first | omega | (dsimp only; omega)))) ?_
    repeat walk_at "w"
    refine WM_eq (ix_lst (atD_dn (by omega))) ?_
    repeat walk_at "w"
    have hlt := perm_lt hk hk'
    refine ⟨by simp only [List.length_map, Int.toNat_natCast]; omega, ?_⟩
    walk_at "n"
    refine ⟨qs.set (ks.getD k 0) (rs.getD p.1 0, rs.getD p.2 0), _, _, by rw [List.map_set]; rfl, rfl, rfl, by simp [hq], fun i hi' p' hp' => ?_⟩
    by_cases e : i = k
    · subst e
      rw [hp] at hp'
      cases hp'
      rw [List.getElem?_set_self (by omega)]
    · have hil := (List.getElem?_eq_some_iff.mp hp').1
      rw [List.getElem?_set_ne (fun e' => e (perm_inj hk hil hk' e'.symm))]
      exact hi i (by omega) p' hp'
  · obtain ⟨qs, x', y', rfl, hx', hy', hq, hi⟩ := hI
    repeat walk_at "w"
    refine ⟨qs, ?_, hq, fun i p hp => hi i ?_ p hp⟩
    · unfold wt
      rw [← z0_du]
    · have hil := (List.getElem?_eq_some_iff.mp hp).1
      rw [enumD_len, List.length_map, z0_len]
      exact hil
end Q
namespace Q
theorem draw_ok : ∀ (ps : List (Nat × Nat)) {o : Ow}, Bag o → ∃ us o', drawH sem__law_pull ((z0 ps).map du) o = some (us.map du, o') ∧ Bag o' ∧ prs us = ps
  | [], o, hb => ⟨[], o, rfl, hb, rfl⟩
  | p :: ps, o, hb => by
    obtain ⟨r, as, e, i, o1, rfl, rfl, hb1, _, _⟩ := WF_get (pull_ok hb (m := 2) (by decide) (by decide))
    obtain ⟨us, o2, e2, hb2, hp⟩ := draw_ok ps hb1
    refine ⟨((if i = 0 then 2 else 0), p) :: us, o2, ?_, hb2, by simp only [prs, List.map_cons] at hp ⊢; rw [hp]⟩
    show drawH sem__law_pull (.tup [.int p.1, .int p.2] :: (z0 ps).map du) o = _
    unfold drawH
    rw [if_pos (by simp), e]
    dsimp only
    rw [e2]
    dsimp only
    by_cases h : i = 0
    · rw [if_pos h, if_pos h]; rfl
    · rw [if_neg h, if_neg h]; rfl
theorem s_hand {n : Nat} {ps : List (Nat × Nat)} {a0 x4 x5 x6 : Option Vt} {l : Bool} {o : Ow} {d0 : D} {rest : Ls} {N : Ls → Prop} {R : Vt → Ls → Prop} {B C : Ls → Prop} (hb : Bag o) (hg : GoodW n ps) (hn : n ≤ 100) (hl : ps.length ≤ 400)
    (h4 : nresV (some x4) = true) (h5 : nresV (some x5) = true) (h6 : nresV (some x6) = true)
    (k : ∀ us o', Bag o' → (∀ u ∈ us, u.1 < 2) → prs us = ps → N (a0 :: some (.own l o') :: some (.dat d0) :: some (.dat (wt n ps)) :: none :: some (.dat (wobj n us)) :: none :: rest)) :
    WS (mHand "Web" sem__law_pull sem_Web___init__ (a0 :: some (.own l o) :: some (.dat d0) :: some (.dat (wt n ps)) :: x4 :: x5 :: x6 :: rest)) N R B C := by
  obtain ⟨us, o', e, hb', hp⟩ := draw_ok ps hb
  have hul : us.length = ps.length := by rw [← hp]; simp [prs]
  obtain ⟨r, as, e2, h2⟩ := WF_get (init_ok_vol (us := us) hn (by rw [hp]; exact hg) (by omega))
  unfold wt mHand
  dsimp only
  rw [h4, h5, h6, decide_eq_true (show ((z0 ps).map du).length ≤ 1000 by rw [List.length_map, z0_len]; omega), if_pos (by rfl), e]
  dsimp only
  rw [e2]
  unfold newB at h2
  split at h2
  · split at h2
    · rename_i hc
      rw [Option.some.injEq] at h2
      dsimp only
      rw [if_pos hc, h2]
      exact ws_nx (k _ _ hb' (fun u hu => by obtain ⟨v, _, rfl⟩ := List.mem_map.mp hu; exact tk_k v) (by rw [prs_tk]; exact hp))
    · cases h2
  · cases h2
theorem idx_len {α : Type} (f : α → Bool) : ∀ (xs : List α) (k : Nat), (idx f k xs).length ≤ xs.length
  | [], _ => Nat.le_refl _
  | x :: xs, k => by
    have := idx_len f xs (k + 1)
    unfold idx
    split <;> simp only [List.length_cons] <;> omega
theorem plain_k01 : ∀ ns : List Int, ns.length ≤ 63 → WF (sem_law [.dat (.scr ns)]) fun r _ => r = .dat (.bl true) := by
  intro ns hns
  unfold sem_law
  refine f_body (by rfl) (by rfl) ?_
  unfold m_law
  walk_at "0"
  repeat walk_at "w"
  refine WF_mono (bag_ok hns) ?_
  rintro _ _ ⟨o, rfl, hb⟩
  repeat walk_at "w"
  refine r_rng0 (fun _ σ => ∃ o x2 x3 x4 x5 x6 x7 x8 x9 x10 x11 x12 x13 x14 x15 x16, σ = [some (.dat (.scr ns)), some (.own true o), x2, x3, x4, x5, x6, x7, x8, x9, x10, x11, x12, x13, x14, x15, x16, none] ∧ Bag o ∧
     nrV x2 = true ∧ nrV x3 = true ∧ nresV (some x4) = true ∧ nresV (some x5) = true ∧ nresV (some x6) = true ∧ nrV x7 = true ∧ nrV x8 = true ∧ nrV x9 = true ∧ nrV x10 = true ∧ nrV x11 = true ∧ nrV x12 = true ∧ nrV x13 = true ∧ nrV x14 = true ∧ nrV x15 = true ∧ nrV x16 = true)
    ?_ (fun k σ hk hI => ?_) (fun σ hI => ?_)
  · exact ⟨_, _, _, _, _, _, _, _, _, _, _, _, _, _, _, _, rfl, hb, rfl, rfl, rfl, rfl, rfl, rfl, rfl, rfl, rfl, rfl, rfl, rfl, rfl, rfl, rfl⟩
  · obtain ⟨o, x2, x3, x4, x5, x6, x7, x8, x9, x10, x11, x12, x13, x14, x15, x16, rfl, hb, h2, h3, h4, h5, h6, h7, h8, h9, h10, h11, h12, h13, h14, h15, h16⟩ := hI
    repeat walk_at "w"
    refine WF_mono (web_ok hb (by decide) (by decide) (by decide) (by decide)) ?_
    rintro _ _ ⟨n, ps, o', rfl, rfl, hb, hg, hn, hl⟩
    rw [z0_du]
    repeat walk_at "w"
    refine s_hand hb hg (by omega) (by omega) h4 h5 h6 fun us o' hb hk hp => ?_
    have hul : us.length = ps.length := by rw [← hp]; simp [prs]
    have hu0 : 0 < us.length := by
      obtain ⟨p, hp', _⟩ := hg.2.2 0 hg.1
      rw [hul]
      exact List.length_pos_of_mem hp'
    repeat walk_at "w"
    refine r_rng0 (fun _ σ => ∃ x7 x8 x9 x10 x11 x12, σ = [some (.dat (.scr ns)), some (.own true o'), some (.dat (.int k)), some (.dat (wt n ps)), none, some (.dat (wobj n us)), none, x7, x8, x9, x10, x11, x12, x13, x14, x15, x16, none] ∧
      nrV x7 = true ∧ nrV x8 = true ∧ nrV x9 = true ∧ nrV x10 = true ∧ nrV x11 = true ∧ nrV x12 = true) ?_ (fun z σ hz hI => ?_) (fun σ hI => ?_)
    · exact ⟨_, _, _, _, _, _, rfl, h7, h8, h9, h10, h11, h12⟩
    · obtain ⟨x7, x8, x9, x10, x11, x12, rfl, h7, h8, h9, h10, h11, h12⟩ := hI
      repeat walk_at "w"
      refine WF_mono w_arrows ?_
      rintro _ _ rfl
      repeat walk_at "w"
      refine WF_mono w_rooms ?_
      rintro _ _ rfl
      repeat walk_at "w"
      refine WF_mono w_len ?_
      rintro _ _ rfl
      repeat walk_at "w"
      refine WF_mono (same_ok 6 (x := .vol (.lst [.int n, .lst (us.map du), .int us.length])) (SmL.lst (SmL.cons Sm.int (SmL.cons (Sm.dus (vs := z0 ps) (by rw [hp, z0_prs]) hk z0_k (by omega)) (SmL.cons (by rw [List.length_map, z0_len, hul]; exact Sm.int) SmL.nil))) (of_decide_eq_true rfl)) (.inr ⟨rfl, rfl⟩) (.inl rfl)) ?_
      rintro _ _ rfl
      repeat walk_at "w"
      obtain ⟨d, hd⟩ : ∃ d, (us.map du)[(us.map du).length - 1]? = some d := ⟨_, List.getElem?_eq_getElem (by rw [List.length_map]; omega)⟩
      refine e_pop rfl hd ?_
      walk_at "n"
      repeat walk_at "w"
      refine r_rng0 (fun _ σ => ∃ x9 x10 x11 x12, σ = [some (.dat (.scr ns)), some (.own true o'), some (.dat (.int k)), some (.dat (wt n ps)), none, some (.dat (wobj n us)), none, some (.dat (.int z)), some (.own true (.lst (us.map du).dropLast)), x9, x10, x11, x12, x13, x14, x15, x16, none] ∧
        nrV x9 = true ∧ nrV x10 = true ∧ nrV x11 = true ∧ nrV x12 = true) ?_ (fun r σ hr hI => ?_) (fun σ hI => ?_)
      · exact ⟨_, _, _, _, rfl, h9, h10, h11, h12⟩
      · obtain ⟨x9, x10, x11, x12, rfl, h9, h10, h11, h12⟩ := hI
        repeat walk_at "w"
        refine WF_mono (w_outs hr) ?_
        rintro _ _ rfl
        repeat walk_at "w"
        refine WF_mono (w_ins hr) ?_
        rintro _ _ rfl
        repeat walk_at "w"
        refine WF_mono (l_outs (ps := ps) (by omega)) ?_
        rintro _ _ rfl
        repeat walk_at "w"
        refine WF_mono (l_ins (ps := ps) (by omega)) ?_
        rintro _ _ rfl
        repeat walk_at "w"
        rw [hp]
        have ho : ∀ f : Nat × Nat → Bool, (idx f 0 ps).length ≤ 100000 := fun f => by have := idx_len f ps 0; omega
        refine WF_mono (same_ok 6 (x := .vol (.lst [.lst ((outsL ps r).map dn), .lst ((insL ps r).map dn)])) (SmL.lst (SmL.cons (Sm.dns (ho _)) (SmL.cons (Sm.dns (ho _)) SmL.nil)) (of_decide_eq_true rfl)) (.inr ⟨rfl, rfl⟩) (.inl rfl)) ?_
        rintro _ _ rfl
        repeat walk_at "w"
        have ho' : ∀ f : Nat × Nat → Bool, ((idx f 0 ps).map dn).length < 100000 := fun f => by have := idx_len f ps 0; rw [List.length_map]; omega
        refine ⟨_, _, rfl, rfl, ho' _, ?_⟩
        walk_at "n"
        repeat walk_at "w"
        refine ⟨_, _, rfl, rfl, ho' _, ?_⟩
        walk_at "n"
        repeat walk_at "w"
        unfold rngD
        refine r_lcM (fun c => dn (cntP ps r c)) rfl (fun c hc => ?_) ?_
        · have hc := List.mem_range.mp hc
          rw [Int.zero_add]
          repeat walk_at "w"
          refine WF_mono (w_leading hk hr hc) ?_
          rintro _ _ rfl
          repeat walk_at "w"
          rw [hp]
          walk_at "e"
        repeat walk_at "w"
        unfold rngD
        refine r_lcM (fun c => dn (cntP ps r c)) rfl (fun c hc => ?_) ?_
        · have hc := List.mem_range.mp hc
          rw [Int.zero_add]
          repeat walk_at "w"
          refine WF_mono l_count ?_
          rintro _ _ rfl
          repeat walk_at "w"
          walk_at "e"
        repeat walk_at "w"
        refine WF_mono (same_ok 6 (x := .vol (.lst ((List.range n).map fun c => dn (cntP ps r c)))) (SmL.lst (SmL.map rfl fun i x y h1 h2 => by rw [h1] at h2; cases h2; exact Sm.dn) (by rw [List.length_map, List.length_range]; omega)) (.inr ⟨rfl, rfl⟩) (.inl rfl)) ?_
        rintro _ _ rfl
        repeat walk_at "w"
        rfl
      · obtain ⟨x9, x10, x11, x12, rfl, h9, h10, h11, h12⟩ := hI
        exact ⟨_, _, _, _, _, _, rfl, rfl, rfl, h9, h10, h11, h12⟩
    · obtain ⟨x7, x8, x9, x10, x11, x12, rfl, h7, h8, h9, h10, h11, h12⟩ := hI
      repeat walk_at "w"
      rw [map2]
      refine r_for (fun _ σ => ∃ x6 x13, σ = [some (.dat (.scr ns)), some (.own true o'), some (.dat (.int k)), some (.dat (wt n ps)), none, some (.dat (wobj n us)), x6, x7, x8, x9, x10, x11, x12, x13, x14, x15, x16, none] ∧ nresV (some x6) = true ∧ nrV x13 = true) ?_ (fun i x σ hx hI => ?_) (fun σ hI => ?_)
      · exact ⟨_, _, rfl, rfl, h13⟩
      · obtain ⟨x6, x13, rfl, h6, h13⟩ := hI
        have h6' := nres_nr h6
        obtain ⟨u, hu, rfl⟩ := enum_at _ _ _ _ hx
        rw [Nat.zero_add]
        unfold z0 at hu
        rw [List.getElem?_map, Option.map_eq_some_iff] at hu
        obtain ⟨p, hpi, rfl⟩ := hu
        have hi := (List.getElem?_eq_some_iff.mp hpi).1
        have hiu : i < us.length := by omega
        have hpu : us[i].2 = p := by
          have := congrArg (fun l : List (Nat × Nat) => l[i]?) hp
          simp only [prs, List.getElem?_map, List.getElem?_eq_getElem hiu, Option.map_some, hpi, Option.some.injEq] at this
          exact this
        repeat walk_at "w"
        refine WF_mono (w_begin hiu) ?_
        rintro _ _ rfl
        repeat walk_at "w"
        refine WF_mono (w_end hiu) ?_
        rintro _ _ rfl
        repeat walk_at "w"
        refine WF_mono (same_ok 6 (x := .dat (du (0, us[i].2))) (y := .dat (du (0, p))) (Sm.du hpu Nat.zero_lt_two Nat.zero_lt_two) (.inl rfl) (.inl rfl)) ?_
        rintro _ _ rfl
        repeat walk_at "w"
        exact ⟨_, _, rfl, rfl, rfl⟩
      obtain ⟨x6, x13, rfl, h6, h13⟩ := hI
      repeat walk_at "w"
      refine WF_mono (naming_ok (n := n) (ds := (z0 ps).map du) hb (by omega) (by rw [List.length_map, z0_len]; omega)) ?_
      rintro _ _ ⟨rs, ks, o2, rfl, rfl, hb, hrs, hks⟩
      rw [List.length_map, z0_len] at hks
      repeat walk_at "w"
      refine WF_mono (l_named hg (by omega) hrs hks) ?_
      rintro _ _ ⟨qs, rfl, hq⟩
      repeat walk_at "w"
      refine WF_mono (l_made (hq.good hg hrs hks) (by omega) (by rw [hq.1]; omega)) ?_
      rintro _ _ rfl
      repeat walk_at "w"
      refine WF_mono (w_eq (vs := z0 qs) hk z0_k) ?_
      rintro _ _ rfl
      repeat walk_at "w"
      refine WM_eq gEq_wt ?_
      repeat walk_at "w"
      refine br_f (by rw [hp, z0_prs]; simp [eqD]) ?_
      repeat walk_at "w"
      refine WF_mono (l_made hg (by omega) (by omega)) ?_
      rintro _ _ rfl
      repeat walk_at "w"
      refine WF_mono (w_eq (vs := z0 ps) hk z0_k) ?_
      rintro _ _ rfl
      repeat walk_at "w"
      refine br_f (by rw [hp, z0_prs]; simp) ?_
      repeat walk_at "w"
      refine WF_mono w_eqT ?_
      rintro _ _ rfl
      repeat walk_at "w"
      refine WM_eq (o_cat (by rw [List.length_map, z0_len]; simp; omega)) ?_
      repeat walk_at "w"
      have hg2 : GoodW (n + 1) (prs (z0 ps ++ [(0, n, 0)])) := by
        have e : prs (z0 ps ++ [(0, n, 0)]) = ps ++ [(n, 0)] := by
          unfold prs
          rw [List.map_append]
          exact congrArg (· ++ [(n, 0)]) (z0_prs ps)
        rw [e]
        refine ⟨by omega, fun p hp' => ?_, fun r hr => ?_⟩
        · rcases List.mem_append.mp hp' with h | h
          · have := hg.2.1 p h; omega
          · simp only [List.mem_singleton] at h
            subst h
            exact ⟨by omega, by omega⟩
        · by_cases h : r < n
          · obtain ⟨p, h1, h2⟩ := hg.2.2 r h
            exact ⟨p, by simp [h1], h2⟩
          · exact ⟨(n, 0), by simp, by omega⟩
      rw [show (z0 ps).map du ++ [D.tup [.int n, .int 0]] = (z0 ps ++ [(0, n, 0)]).map du by rw [List.map_append]; rfl]
      refine WF_mono (init_ok_dat (n := n + 1) (by omega) hg2 (by rw [List.length_append, z0_len, List.length_singleton]; omega)) ?_
      intro r as h
      refine ⟨_, h, ?_⟩
      repeat walk_at "w"
      have weq := w_eq (n := n) (m := n + 1) (us := us) (vs := List.map tk (z0 ps ++ [(0, n, 0)])) hk (fun u hu => by obtain ⟨v, _, rfl⟩ := List.mem_map.mp hu; exact tk_k v)
      refine WF_mono weq ?_
      rintro _ _ rfl
      repeat walk_at "w"
      refine br_f (by simp) ?_
      repeat walk_at "w"
      have hzl : ((z0 ps).map du).length = us.length := by rw [List.length_map, z0_len, hul]
      have e1 : (Str.ofString "Web(").length = 4 := by decide +kernel
      have e2 : (Str.ofString " rooms, ").length = 8 := by decide +kernel
      have e3 : (Str.ofString " arrows)").length = 8 := by decide +kernel
      have l1 := num_len n (by omega)
      have l2 := num_len us.length (by omega)
      refine WF_mono (w_repr (by omega) (by omega)) ?_
      rintro _ _ rfl
      repeat walk_at "w"
      rw [hzl]
      repeat walk_at "w"
      refine WM_eq (gNe_str wrepr_ok) ?_
      repeat walk_at "w"
      exact ⟨_, _, _, _, _, _, _, _, _, _, _, _, _, _, _, _, rfl, hb, rfl, rfl, rfl, rfl, h6, h7, h8, h9, h10, h11, h12, h13, rfl, rfl, rfl⟩
  · obtain ⟨o, x2, x3, x4, x5, x6, x7, x8, x9, x10, x11, x12, x13, x14, x15, x16, rfl, hb, _⟩ := hI
    repeat walk_at "w"
    walk_at "e"
end Q
end Z
set_option Elab.async false
set_option linter.all false
/-! P2: what an outcome of the pure interpreter tells of its parts. -/
namespace Z
open PySem (Str)
variable {τ τ' : Ls} {r : Vt} {b k : Bool} {a e c : ME} {i j : Nat}
theorem ff {k : Bool} (h : ¬ k = true) : k = false := by simpa using h
theorem mVar_inv (h : mVar i τ = .v r τ' b) : τ' = τ ∧ b = true ∧ ((∃ d, τ[i]? = some (some (.dat d)) ∧ r = .dat d) ∨ (∃ d, τ[i]? = some (some (.vol d)) ∧ r = .vol d) ∨ ∃ l o, τ[i]? = some (some (.own l o)) ∧ r = .ali i) := by
  unfold mVar at h
  (repeat' (split at h)) <;> cases h
  · exact ⟨rfl, rfl, .inl ⟨_, by assumption, rfl⟩⟩
  · exact ⟨rfl, rfl, .inr (.inl ⟨_, by assumption, rfl⟩)⟩
  · exact ⟨rfl, rfl, .inr (.inr ⟨_, _, by assumption, rfl⟩)⟩
theorem mU_inv {g : Ls → Vt → Option Vt} (h : mU g a τ = .v r τ' b) : ∃ x, a τ = .v x τ' b ∧ g τ' x = some r := by
  unfold mU at h
  (repeat' (split at h)) <;> cases h
  exact ⟨_, by assumption, by assumption⟩
theorem mB_inv {g : Ls → Vt → Vt → Option Vt} (h : mB g a e τ = .v r τ' b) : ∃ x τ1 b1 y b2, a τ = .v x τ1 b1 ∧ e τ1 = .v y τ' b2 ∧ stbV x b2 = true ∧ g τ' x y = some r ∧ b = (b1 && b2) := by
  unfold mB at h
  (repeat' (split at h)) <;> cases h
  exact ⟨_, _, _, _, _, by assumption, by assumption, by assumption, by assumption, rfl⟩
theorem mFz_inv (h : mFz a τ = .v r τ' b) : a τ = .v r τ' b ∨ ∃ ds, a τ = .v (.own true (.lst ds)) τ' b ∧ r = .dat (.lst ds) := by
  unfold mFz at h
  split at h
  · cases h
    exact .inr ⟨_, by assumption, rfl⟩
  · exact .inl h
theorem mFrz_inv (h : mFrz i a τ = .v r τ' b) : a τ = .v r τ' b ∨ ∃ ds b', τ[i]? = some (some (.own true (.lst ds))) ∧ a (τ.set i (some (.dat (.lst ds)))) = .v r τ' b' ∧ b = false := by
  unfold mFrz at h
  split at h
  · split at h <;> cases h
    exact .inr ⟨_, _, by assumption, by assumption, rfl⟩
  · exact .inl h
theorem mAndV_inv (h : mAndV a e τ = .v r τ' b) : ∃ k τ1 b1, a τ = .v (.dat (.bl k)) τ1 b1 ∧ ((k = false ∧ r = .dat (.bl false) ∧ τ' = τ1 ∧ b = b1) ∨ (k = true ∧ ∃ b2, e τ1 = .v r τ' b2 ∧ b = (b1 && b2))) := by
  unfold mAndV at h
  (repeat' (split at h)) <;> cases h
  · exact ⟨_, _, _, by assumption, .inr ⟨by assumption, _, by assumption, rfl⟩⟩
  · exact ⟨_, _, _, by assumption, .inl ⟨ff (by assumption), rfl, rfl, rfl⟩⟩
theorem mOrV_inv (h : mOrV a e τ = .v r τ' b) : ∃ k τ1 b1, a τ = .v (.dat (.bl k)) τ1 b1 ∧ ((k = true ∧ r = .dat (.bl true) ∧ τ' = τ1 ∧ b = b1) ∨ (k = false ∧ ∃ b2, e τ1 = .v r τ' b2 ∧ b = (b1 && b2))) := by
  unfold mOrV at h
  (repeat' (split at h)) <;> cases h
  · exact ⟨_, _, _, by assumption, .inl ⟨by assumption, rfl, rfl, rfl⟩⟩
  · exact ⟨_, _, _, by assumption, .inr ⟨ff (by assumption), _, by assumption, rfl⟩⟩
theorem mNotV_inv (h : mNotV a τ = .v r τ' b) : ∃ k, a τ = .v (.dat (.bl k)) τ' b ∧ r = .dat (.bl (!k)) := by
  unfold mNotV at h
  (repeat' (split at h)) <;> cases h
  exact ⟨_, by assumption, rfl⟩
theorem mIf_inv {t : MT} (h : mIf t a e τ = .v r τ' b) : ∃ k τ1 b1 b2, t τ = .v k τ1 b1 ∧ (if k = true then a else e) τ1 = .v r τ' b2 ∧ b = (b1 && b2) := by
  unfold mIf at h
  split at h
  · split at h <;> cases h
    exact ⟨_, _, _, _, by assumption, by assumption, rfl⟩
  · cases h
theorem mChain_inv {g h' : D → D → Option D} (h : mChain g h' a e c τ = .v r τ' b) : ∃ x τ1 b1 y τ2 b2 d f k, a τ = .v x τ1 b1 ∧ e τ1 = .v y τ2 b2 ∧ stbV x b2 = true ∧ see τ2 x = some d ∧ see τ2 y = some f ∧ g d f = some (.bl k) ∧
    ((k = false ∧ r = .dat (.bl false) ∧ τ' = τ2 ∧ b = (b1 && b2)) ∨ (k = true ∧ ∃ z b3 f' d' r', c τ2 = .v z τ' b3 ∧ stbV y b3 = true ∧ see τ' y = some f' ∧ see τ' z = some d' ∧ h' f' d' = some r' ∧ r = .dat r' ∧ b = (b1 && b2 && b3))) := by
  unfold mChain at h
  (repeat' (split at h)) <;> cases h
  · exact ⟨_, _, _, _, _, _, _, _, _, by assumption, by assumption, by assumption, by assumption, by assumption, by assumption, .inr ⟨by assumption, _, _, _, _, _, by assumption, by assumption, by assumption, by assumption, by assumption, rfl, rfl⟩⟩
  · exact ⟨_, _, _, _, _, _, _, _, _, by assumption, by assumption, by assumption, by assumption, by assumption, by assumption, .inl ⟨ff (by assumption), rfl, rfl, rfl⟩⟩
theorem mCons_inv {t : MA} {rs : List Vt} (h : mCons a t τ = .v rs τ' b) : ∃ x τ1 b1 xs b2, a τ = .v x τ1 b1 ∧ t τ1 = .v xs τ' b2 ∧ stbV x b2 = true ∧ rs = x :: xs ∧ b = (b1 && b2) := by
  unfold mCons at h
  (repeat' (split at h)) <;> cases h
  exact ⟨_, _, _, _, _, by assumption, by assumption, by assumption, rfl, rfl⟩
theorem mTup_inv {t : MA} (h : mTup t τ = .v r τ' b) : ∃ xs ds, t τ = .v xs τ' b ∧ ds.length ≤ 100000 ∧ ((allDat xs = some ds ∧ r = .dat (.tup ds)) ∨ (allSee τ' xs = some ds ∧ r = .tmp (.tup ds))) := by
  unfold mTup at h
  (repeat' (split at h)) <;> cases h
  · exact ⟨_, _, by assumption, by assumption, .inl ⟨by assumption, rfl⟩⟩
  · exact ⟨_, _, by assumption, by assumption, .inr ⟨by assumption, rfl⟩⟩
theorem mLst_inv {t : MA} (h : mLst t τ = .v r τ' b) : ∃ xs ds, t τ = .v xs τ' b ∧ ds.length ≤ 100000 ∧ ((allDat xs = some ds ∧ r = .own true (.lst ds)) ∨ (allSee τ' xs = some ds ∧ r = .tmp (.lst ds))) := by
  unfold mLst at h
  (repeat' (split at h)) <;> cases h
  · exact ⟨_, _, by assumption, by assumption, .inl ⟨by assumption, rfl⟩⟩
  · exact ⟨_, _, by assumption, by assumption, .inr ⟨by assumption, rfl⟩⟩
theorem mCB_inv {g : List D → Option D} {t : MA} (h : mCB g t τ = .v r τ' b) : ∃ xs ds d, t τ = .v xs τ' b ∧ allSee τ' xs = some ds ∧ g ds = some d ∧ r = .dat d := by
  unfold mCB at h
  (repeat' (split at h)) <;> cases h
  exact ⟨_, _, _, by assumption, by assumption, by assumption, rfl⟩
theorem mIsi2_inv {m n : String} (h : mIsi2 m n a τ = .v r τ' b) : ∃ x d k k', a τ = .v x τ' b ∧ see τ' x = some d ∧ isi1 d m = some k ∧ isi1 d n = some k' ∧ r = .dat (.bl (k || k')) := by
  unfold mIsi2 at h
  (repeat' (split at h)) <;> cases h
  exact ⟨_, _, _, _, by assumption, by assumption, by assumption, by assumption, rfl⟩
theorem mIsiO_inv {n : String} (h : mIsiO n a τ = .v r τ' b) : (∃ ns xs, a τ = .v (.dat (.obj n ns xs)) τ' b ∧ r = .dat (.bl true)) ∨ (∃ xs, (a τ = .v (.dat (.tup xs)) τ' b ∨ a τ = .v (.dat (.tpl xs)) τ' b) ∧ r = .dat (.bl false)) := by
  unfold mIsiO at h
  split at h
  · split at h <;> cases h
    subst_vars
    exact .inl ⟨_, _, by assumption, rfl⟩
  · cases h
    exact .inr ⟨_, .inl (by assumption), rfl⟩
  · cases h
    exact .inr ⟨_, .inr (by assumption), rfl⟩
  · cases h
theorem mPart_inv {n : Option Int} (h : mPart a τ = .v n τ' b) : ∃ m, a τ = .v (.dat (.int m)) τ' b ∧ n = some m := by
  unfold mPart at h
  (repeat' (split at h)) <;> cases h
  exact ⟨_, by assumption, rfl⟩
theorem mSl_inv {tup : Bool} {l h' : MO} (h : mSl tup a l h' τ = .v r τ' b) : ∃ x τ1 b1 lo τ2 b2 hi b3, a τ = .v x τ1 b1 ∧ l τ1 = .v lo τ2 b2 ∧ h' τ2 = .v hi τ' b3 ∧ stbV x b2 = true ∧ stbV x b3 = true ∧ fSl tup τ' x lo hi = some r ∧ b = (b1 && b2 && b3) := by
  unfold mSl at h
  (repeat' (split at h)) <;> cases h
  rename_i hs _ _ _
  exact ⟨_, _, _, _, _, _, _, _, by assumption, by assumption, by assumption, hs.1, hs.2, by assumption, rfl⟩
theorem mFmt_inv (h : mFmt a τ = .v r τ' b) : (∃ i : Int, a τ = .v (.dat (.int i)) τ' b ∧ (-(10 ^ 500) < i ∧ i < 10 ^ 500) ∧ r = .dat (.str (Str.ofString (toString i)))) ∨ ∃ y : Str, a τ = .v (.dat (.str y)) τ' b ∧ y.length ≤ 100000 ∧ r = .dat (.str y) := by
  unfold mFmt at h
  (repeat' (split at h)) <;> cases h
  · exact .inl ⟨_, by assumption, by assumption, rfl⟩
  · exact .inr ⟨_, by assumption, by assumption, rfl⟩
theorem mJs_inv {es : List ME} {acc s : Str} (h : mJs (a :: es) acc τ = .v s τ' b) : ∃ y τ1 b1 b2, a τ = .v (.dat (.str y)) τ1 b1 ∧ (acc ++ y).length ≤ 100000 ∧ mJs es (acc ++ y) τ1 = .v s τ' b2 ∧ b = (b1 && b2) := by
  unfold mJs at h
  (repeat' (split at h)) <;> cases h
  exact ⟨_, _, _, _, by assumption, by assumption, by assumption, rfl⟩
theorem mJoined_inv {es : List ME} (h : mJoined es τ = .v r τ' b) : ∃ s, mJs es Str.empty τ = .v s τ' b ∧ r = .dat (.str s) := by
  unfold mJoined at h
  (repeat' (split at h)) <;> cases h
  exact ⟨_, by assumption, rfl⟩
theorem mPop_inv (h : mPop i τ = .v r τ' b) : ∃ l ds d, τ[i]? = some (some (.own l (.lst ds))) ∧ ds[ds.length - 1]? = some d ∧ r = .dat d ∧ τ' = τ.set i (some (.own l (.lst ds.dropLast))) ∧ b = false := by
  unfold mPop at h
  (repeat' (split at h)) <;> cases h
  exact ⟨_, _, _, by assumption, by assumption, rfl, rfl, rfl⟩
theorem mPopAt_inv (h : mPopAt i a τ = .v r τ' b) : ∃ l ds0 n τ1 b1 ds d, τ[i]? = some (some (.own l (.lst ds0))) ∧ a τ = .v (.dat (.int n)) τ1 b1 ∧ (0 ≤ n ∧ n < 100000) ∧ τ1[i]? = some (some (.own l (.lst ds))) ∧ ds[n.toNat]? = some d ∧ r = .dat d ∧ τ' = τ1.set i (some (.own l (.lst (ds.eraseIdx n.toNat)))) ∧ b = false := by
  unfold mPopAt at h
  split at h
  · split at h
    · split at h
      · split at h
        · split at h
          · rename_i hl
            subst hl
            split at h <;> cases h
            exact ⟨_, _, _, _, _, _, _, by assumption, by assumption, by assumption, by assumption, by assumption, rfl, rfl, rfl⟩
          · cases h
        · cases h
      · cases h
    · cases h
  · cases h
theorem callF_inv {ow : Bool} {S : Sem} {rs : List Vt} {b1 : Bool} (h : callF ow S τ rs b1 = .v r τ' b) :
    (∃ as x bs, argsV τ rs = some as ∧ S as = .v x bs ∧ r = demV x ∧ τ' = τ ∧ b = b1) ∨
    ∃ j rest l o as x l2 o' bs, rs = .ali j :: rest ∧ τ[j]? = some (some (.own l o)) ∧ rest.all (neAli j) = true ∧ argsV τ rest = some as ∧ S (.own false o :: as) = .v x (.own l2 o' :: bs) ∧ r = demV x ∧ τ' = τ.set j (some (.own l o')) ∧ b = false := by
  unfold callF at h
  split at h
  · (repeat' (split at h)) <;> cases h
    exact .inr ⟨_, _, _, _, _, _, _, _, _, rfl, by assumption, by assumption, by assumption, by assumption, rfl, rfl, rfl⟩
  · (repeat' (split at h)) <;> cases h
    exact .inl ⟨_, _, _, by assumption, by assumption, rfl, rfl, rfl⟩
theorem mCall_inv {ow : Bool} {S : Sem} {t : MA} (h : mCall ow S t τ = .v r τ' b) : ∃ rs τ1 b1, t τ = .v rs τ1 b1 ∧ callF ow S τ1 rs b1 = .v r τ' b := by
  unfold mCall at h
  (repeat' (split at h)) <;> try cases h
  exact ⟨_, _, _, by assumption, h⟩
theorem mMeth_inv {c0 m : String} {ow : Bool} {S : Sem} {t : MA} (h : mMeth c0 m ow S a t τ = .v r τ' b) : ∃ x τ0 b0 rs τ1 b1, a τ = .v x τ0 b0 ∧ isInst c0 m τ0 x = true ∧ t τ0 = .v rs τ1 b1 ∧ stbV x b1 = true ∧ callF ow S τ1 (x :: rs) (b0 && b1) = .v r τ' b := by
  unfold mMeth at h
  (repeat' (split at h)) <;> try cases h
  exact ⟨_, _, _, _, _, _, by assumption, by assumption, by assumption, by assumption, h⟩
theorem mMake_inv {c0 : String} {S : Sem} {t : MA} (h : mMake c0 S t τ = .v r τ' b) : ∃ rs as l ns xs bs, t τ = .v rs τ' b ∧ argsV τ' rs = some as ∧ S (.own false (.ins c0 [] []) :: as) = .v (.dat .non) (.own l (.ins c0 ns xs) :: bs) ∧ r = .dat (.obj c0 ns xs) := by
  unfold mMake at h
  (repeat' (split at h)) <;> try cases h
  subst_vars
  exact ⟨_, _, _, _, _, _, by assumption, by assumption, by assumption, rfl⟩
theorem mOwnEq_inv {c0 : String} {neg : Bool} {S : Sem} (h : mOwnEq neg c0 S a e τ = .v r τ' b) : ∃ ns xs τ1 b1 d b2 k bs, a τ = .v (.dat (.obj c0 ns xs)) τ1 b1 ∧ e τ1 = .v (.dat d) τ' b2 ∧ eqKind c0 d = true ∧ S [.dat (.obj c0 ns xs), .dat (untpl d)] = .v (.dat (.bl k)) bs ∧ r = .dat (.bl (if neg = true then !k else k)) ∧ b = (b1 && b2) := by
  unfold mOwnEq at h
  split at h <;> try cases h
  split at h <;> try cases h
  split at h <;> try cases h
  split at h <;> try cases h
  have hk := (‹_ ∧ _› : _ ∧ _)
  obtain ⟨hc, hk⟩ := hk
  subst_vars
  exact ⟨_, _, _, _, _, _, _, _, by assumption, by assumption, hk, by assumption, rfl, rfl⟩
theorem mOwnLen_inv {c0 : String} {S : Sem} (h : mOwnLen c0 S a τ = .v r τ' b) : ∃ ns xs k bs, a τ = .v (.dat (.obj c0 ns xs)) τ' b ∧ S [.dat (.obj c0 ns xs)] = .v (.dat (.int k)) bs ∧ (0 ≤ k ∧ k ≤ 1000000) ∧ r = .dat (.int k) := by
  unfold mOwnLen at h
  split at h <;> try cases h
  split at h <;> try cases h
  split at h <;> try cases h
  split at h <;> try cases h
  subst_vars
  exact ⟨_, _, _, _, by assumption, by assumption, by assumption, rfl⟩
theorem mOwnRepr_inv {c0 : String} {S : Sem} (h : mOwnRepr c0 S a τ = .v r τ' b) : ∃ ns xs k bs, a τ = .v (.dat (.obj c0 ns xs)) τ' b ∧ S [.dat (.obj c0 ns xs)] = .v (.dat (.str k)) bs ∧ r = .dat (.str k) := by
  unfold mOwnRepr at h
  split at h <;> try cases h
  split at h <;> try cases h
  split at h <;> try cases h
  subst_vars
  exact ⟨_, _, _, _, by assumption, by assumption, rfl⟩
/-! tests -/
theorem mB'_inv (h : mB' a τ = .v k τ' b) : a τ = .v (.dat (.bl k)) τ' b := by
  unfold mB' at h
  (repeat' (split at h)) <;> cases h
  assumption
theorem mAnd_inv {t u : MT} (h : mAnd t u τ = .v k τ' b) : ∃ k1 τ1 b1, t τ = .v k1 τ1 b1 ∧ ((k1 = false ∧ k = false ∧ τ' = τ1 ∧ b = b1) ∨ (k1 = true ∧ ∃ b2, u τ1 = .v k τ' b2 ∧ b = (b1 && b2))) := by
  unfold mAnd at h
  (repeat' (split at h)) <;> cases h
  · exact ⟨_, _, _, by assumption, .inr ⟨by assumption, _, by assumption, rfl⟩⟩
  · exact ⟨_, _, _, by assumption, .inl ⟨ff (by assumption), rfl, rfl, rfl⟩⟩
theorem mOr_inv {t u : MT} (h : mOr t u τ = .v k τ' b) : ∃ k1 τ1 b1, t τ = .v k1 τ1 b1 ∧ ((k1 = true ∧ k = true ∧ τ' = τ1 ∧ b = b1) ∨ (k1 = false ∧ ∃ b2, u τ1 = .v k τ' b2 ∧ b = (b1 && b2))) := by
  unfold mOr at h
  (repeat' (split at h)) <;> cases h
  · exact ⟨_, _, _, by assumption, .inl ⟨by assumption, rfl, rfl, rfl⟩⟩
  · exact ⟨_, _, _, by assumption, .inr ⟨ff (by assumption), _, by assumption, rfl⟩⟩
theorem mNot_inv {t : MT} (h : mNot t τ = .v k τ' b) : ∃ k1, t τ = .v k1 τ' b ∧ k = !k1 := by
  unfold mNot at h
  (repeat' (split at h)) <;> cases h
  exact ⟨_, by assumption, rfl⟩
/-! walks -/
section
variable {xs : List It1} {t : MA}
theorem mRng1_inv (h : mRng1 t τ = .v xs τ' b) : ∃ n, t τ = .v [.dat (.int n)] τ' b ∧ (-1000000 ≤ n ∧ n ≤ 1000000) ∧ xs = rngD 0 n.toNat := by
  unfold mRng1 at h
  (repeat' (split at h)) <;> cases h
  exact ⟨_, by assumption, by assumption, rfl⟩
theorem mRng2_inv (h : mRng2 t τ = .v xs τ' b) : ∃ m n, t τ = .v [.dat (.int m), .dat (.int n)] τ' b ∧ (-1000000 ≤ m ∧ m ≤ 1000000 ∧ -1000000 ≤ n ∧ n ≤ 1000000) ∧ xs = rngD m (n - m).toNat := by
  unfold mRng2 at h
  (repeat' (split at h)) <;> cases h
  exact ⟨_, _, by assumption, by assumption, rfl⟩
theorem mRng3_inv (h : mRng3 t τ = .v xs τ' b) : ∃ m n, t τ = .v [.dat (.int m), .dat (.int n), .dat (.int (-1))] τ' b ∧ (-1000000 ≤ m ∧ m ≤ 1000000 ∧ -1000000 ≤ n ∧ n ≤ 1000000) ∧ xs = dwnD m (m - n).toNat := by
  unfold mRng3 at h
  split at h
  · split at h
    · rename_i hk
      obtain ⟨hk, hh⟩ := hk
      subst hk
      cases h
      exact ⟨_, _, by assumption, hh, rfl⟩
    · cases h
  · cases h
theorem mSeqI_inv (h : mSeqI a τ = .v xs τ' b) : ∃ x ts, a τ = .v x τ' b ∧ srcV x = some ts ∧ xs = ts.map .one := by
  unfold mSeqI at h
  (repeat' (split at h)) <;> cases h
  exact ⟨_, _, by assumption, by assumption, rfl⟩
theorem mEnum_inv (h : mEnum t τ = .v xs τ' b) : ∃ x ts, t τ = .v [x] τ' b ∧ enOk x = true ∧ srcV x = some ts ∧ xs = enumD 0 ts := by
  unfold mEnum at h
  (repeat' (split at h)) <;> cases h
  exact ⟨_, _, by assumption, by assumption, by assumption, rfl⟩
theorem mZip_inv (h : mZip t τ = .v xs τ' b) : ∃ x y ts us, t τ = .v [x, y] τ' b ∧ isLst x = isLst y ∧ srcV x = some ts ∧ srcV y = some us ∧ xs = List.zipWith .two ts us := by
  unfold mZip at h
  (repeat' (split at h)) <;> cases h
  exact ⟨_, _, _, _, by assumption, by assumption, by assumption, by assumption, rfl⟩
end
theorem stName_inv {x : Vt} (h : stName i x τ = some τ') : ∃ t u, stkV x = some t ∧ τ[i]? = some u ∧ nrV u = true ∧ τ' = τ.set i (some t) := by
  unfold stName at h
  (repeat' (split at h)) <;> cases h
  exact ⟨_, _, by assumption, by assumption, by assumption, rfl⟩
theorem stTup2_inv {g g' : MG} {x : Vt} (h : stTup2 g g' x τ = some τ') : ∃ d e τ1, (x = .dat (.tup [d, e]) ∨ x = .dat (.tpl [d, e])) ∧ g (.dat d) τ = some τ1 ∧ g' (.dat e) τ1 = some τ' := by
  unfold stTup2 at h
  (repeat' (split at h)) <;> try cases h
  · exact ⟨_, _, _, .inl rfl, by assumption, h⟩
  · exact ⟨_, _, _, .inr rfl, by assumption, h⟩
theorem sgName_inv {x : It1} (h : sgName i x τ = some τ') : ∃ t, x = .one t ∧ plV t = true ∧ stName i t τ = some τ' := by
  unfold sgName at h
  (repeat' (split at h)) <;> try cases h
  exact ⟨_, rfl, by assumption, h⟩
theorem sgTup2_inv {g g' : MG} {x : It1} (h : sgTup2 g g' x τ = some τ') : (∃ t, x = .one t ∧ stTup2 g g' t τ = some τ') ∨ ∃ t u τ1, x = .two t u ∧ plV t = true ∧ plV u = true ∧ g t τ = some τ1 ∧ g' u τ1 = some τ' := by
  unfold sgTup2 at h
  (repeat' (split at h)) <;> try cases h
  · exact .inl ⟨_, rfl, h⟩
  · have hh := (‹(_ && _) = true› : (_ && _) = true)
    rw [Bool.and_eq_true] at hh
    exact .inr ⟨_, _, _, rfl, hh.1, hh.2, by assumption, h⟩
/-! statements -/
theorem mPar_inv {σ : Ls} (h : mPar i j a e τ = .nx σ) : ∃ x τ1 b1 y τ2 b2 t u p q, a τ = .v x τ1 b1 ∧ e τ1 = .v y τ2 b2 ∧ stbV x b2 = true ∧ i ≠ j ∧ stkV x = some t ∧ stkV y = some u ∧ τ2[i]? = some p ∧ τ2[j]? = some q ∧ nrV p = true ∧ nrV q = true ∧ σ = (τ2.set i (some t)).set j (some u) := by
  unfold mPar at h
  (repeat' (split at h)) <;> cases h
  rename_i hs _ _ _ _ _ _ _ _ _ _ _ _ hn
  simp only [Bool.and_eq_true] at hn
  exact ⟨_, _, _, _, _, _, _, _, _, _, by assumption, by assumption, hs.1, hs.2, by assumption, by assumption, by assumption, by assumption, hn.1, hn.2, rfl⟩
theorem mAug_inv {f : Int → Int → Int} {σ : Ls} (h : mAug f i a τ = .nx σ) : ∃ x y τ2 b2 u, τ[i]? = some (some (.dat (.int x))) ∧ a τ = .v (.dat (.int y)) τ2 b2 ∧ τ2[i]? = some u ∧ nrV u = true ∧ σ = τ2.set i (some (.dat (.int (f x y)))) := by
  unfold mAug at h
  (repeat' (split at h)) <;> cases h
  exact ⟨_, _, _, _, _, by assumption, by assumption, by assumption, by assumption, rfl⟩
theorem mAugI_inv {f : Int → Int → Int} {n : Nat} {σ : Ls} (h : mAugI f i n a τ = .nx σ) : ∃ l ds0 x y τ2 b2 ds, τ[i]? = some (some (.own l (.lst ds0))) ∧ ds0[n]? = some (.int x) ∧ a τ = .v (.dat (.int y)) τ2 b2 ∧ τ2[i]? = some (some (.own l (.lst ds))) ∧ n < ds.length ∧ σ = τ2.set i (some (.own l (.lst (ds.set n (.int (f x y)))))) := by
  unfold mAugI at h
  (repeat' (split at h)) <;> cases h
  have hh := (‹_ ∧ _› : _ ∧ _)
  obtain ⟨h1, h2⟩ := hh
  subst_vars
  exact ⟨_, _, _, _, _, _, _, by assumption, by assumption, by assumption, by assumption, h2, rfl⟩
theorem mSetI_inv {σ : Ls} (h : mSetI i a e τ = .nx σ) : ∃ d τ1 b1 l ds0 n τ2 b2 ds, a τ = .v (.dat d) τ1 b1 ∧ τ1[i]? = some (some (.own l (.lst ds0))) ∧ e τ1 = .v (.dat (.int n)) τ2 b2 ∧ τ2[i]? = some (some (.own l (.lst ds))) ∧ 0 ≤ n ∧ n.toNat < ds.length ∧ σ = τ2.set i (some (.own l (.lst (ds.set n.toNat d)))) := by
  unfold mSetI at h
  (repeat' (split at h)) <;> cases h
  have hh := (‹_ ∧ _› : _ ∧ _)
  obtain ⟨h1, h2, h3⟩ := hh
  subst_vars
  exact ⟨_, _, _, _, _, _, _, _, _, by assumption, by assumption, by assumption, by assumption, h2, h3, rfl⟩
theorem mApp_inv {σ : Ls} (h : mApp i a τ = .nx σ) : ∃ l ds0 d τ1 b1 ds, τ[i]? = some (some (.own l (.lst ds0))) ∧ a τ = .v (.dat d) τ1 b1 ∧ τ1[i]? = some (some (.own l (.lst ds))) ∧ ds.length < 100000 ∧ σ = τ1.set i (some (.own l (.lst (ds ++ [d])))) := by
  unfold mApp at h
  (repeat' (split at h)) <;> cases h
  have hh := (‹_ ∧ _› : _ ∧ _)
  obtain ⟨h1, h2⟩ := hh
  subst_vars
  exact ⟨_, _, _, _, _, _, by assumption, by assumption, by assumption, h2, rfl⟩
theorem mFldS_inv {n f : String} {σ : Ls} (h : mFldS n f i a τ = .nx σ) : ∃ d τ1 b1 l ns xs, a τ = .v (.dat d) τ1 b1 ∧ τ1[i]? = some (some (.own l (.ins n ns xs))) ∧ ns.length < 900 ∧ σ = τ1.set i (some (.own l (.ins n (putNP f ns) (putXP f d ns xs)))) := by
  unfold mFldS at h
  (repeat' (split at h)) <;> cases h
  have hh := (‹_ ∧ _› : _ ∧ _)
  obtain ⟨h1, h2⟩ := hh
  subst_vars
  exact ⟨_, _, _, _, _, _, by assumption, by assumption, h2, rfl⟩
theorem mRet_inv (h : mRet a τ = .rt r τ') : ∃ x b1, a τ = .v x τ' b1 ∧ ((∃ i o, x = .ali i ∧ τ'[i]? = some (some (.own true o)) ∧ r = .own true o) ∨ (x = r ∧ ((∃ d, x = .dat d) ∨ (∃ d, x = .vol d) ∨ (∃ d, x = .tmp d) ∨ ∃ o, x = .own true o))) := by
  unfold mRet at h
  split at h
  · cases h
  · rename_i x τ1 b1 e
    cases x with
    | dat d => cases h; exact ⟨_, _, e, .inr ⟨rfl, .inl ⟨_, rfl⟩⟩⟩
    | vol d => cases h; exact ⟨_, _, e, .inr ⟨rfl, .inr (.inl ⟨_, rfl⟩)⟩⟩
    | tmp d => cases h; exact ⟨_, _, e, .inr ⟨rfl, .inr (.inr (.inl ⟨_, rfl⟩))⟩⟩
    | own l o => cases l with
      | true => cases h; exact ⟨_, _, e, .inr ⟨rfl, .inr (.inr (.inr ⟨_, rfl⟩))⟩⟩
      | false => cases h
    | ali i =>
      dsimp only at h
      split at h
      · cases h
        exact ⟨_, _, e, .inl ⟨_, _, rfl, by assumption, rfl⟩⟩
      · cases h
theorem mRet_only (h : mRet a τ ≠ .no) : ∃ r σ, mRet a τ = .rt r σ := by
  unfold mRet at h ⊢
  split at h
  · exact absurd rfl h
  · rename_i x τ1 b1 e
    cases x with
    | dat d => exact ⟨_, _, rfl⟩
    | vol d => exact ⟨_, _, rfl⟩
    | tmp d => exact ⟨_, _, rfl⟩
    | own l o => cases l with
      | true => exact ⟨_, _, rfl⟩
      | false => exact absurd rfl h
    | ali i =>
      dsimp only at h ⊢
      split at h
      · exact ⟨_, _, rfl⟩
      · exact absurd rfl h
end Z
set_option Elab.async false
set_option linter.all false
set_option maxRecDepth 100000
/-! S1: the pure interpreter keeps what the rules say: values, operators. -/
namespace Z
open PySem PySem.Spec PyProof.Rows L2
/-- the script -/
def scrD (K : PySem.W.Frag) (ns : List Int) : DD := .abs (fun v G => ∃ a, v = V.ref a ∧ SqL K G a (ns.map V.int)) fun _ _ _ e h => by
  obtain ⟨a, h1, h2⟩ := h
  exact ⟨a, h1, Same.seq e h2⟩
section
variable (K : PySem.W.Frag)
mutual
def dd : D → DD
  | .non => .non
  | .bl b => .bl b
  | .int i => .int i
  | .str s => .str s
  | .ty n => .ty n
  | .tup xs => .tup (ddL xs)
  | .tpl xs => .tpl (ddL xs)
  | .lst xs => .lst (ddL xs)
  | .obj c ns xs => .obj (He.ga K (Str.ofString c)) (ns.map Str.ofString) (ddL xs)
  | .scr ns => scrD K ns
def ddL : List D → List DD
  | [] => []
  | x :: xs => dd x :: ddL xs
end
def ow : Ow → Rsc
  | .lst ds => ownL (ddL K ds)
  | .ins c ns xs => ownI (He.ga K (Str.ofString c)) (ns.map Str.ofString) (ddL K xs)
def tg : Vt → Tg
  | .dat d => .dat (dd K d)
  | .vol d => .vol (dd K d)
  | .tmp d => .tmp (dd K d)
  | .own l o => .res l (ow K o)
  | .ali i => .ali i
def lc (τ : Ls) : Lc := τ.map (Option.map (tg K))
def tgI : It1 → Itm
  | .one t => .one (tg K t)
  | .two t u => .two (tg K t) (tg K u)
end
variable {K : PySem.W.Frag}
theorem ddL_map {xs : List D} : ddL K xs = xs.map (dd K) := by
  induction xs with
  | nil => rfl
  | cons x xs ih => rw [ddL, ih, List.map_cons]
theorem ddL_length {xs : List D} : (ddL K xs).length = xs.length := by rw [ddL_map, List.length_map]
theorem ddL_get {xs : List D} {i : Nat} {d : D} (h : xs[i]? = some d) : (ddL K xs)[i]? = some (dd K d) := by rw [ddL_map, List.getElem?_map, h]; rfl
theorem ddL_append {xs ys : List D} : ddL K (xs ++ ys) = ddL K xs ++ ddL K ys := by rw [ddL_map, ddL_map, ddL_map, List.map_append]
theorem ddL_set {xs : List D} {i : Nat} {d : D} : ddL K (xs.set i d) = (ddL K xs).set i (dd K d) := by rw [ddL_map, ddL_map, List.map_set]
theorem ddL_erase {xs : List D} {i : Nat} : ddL K (xs.eraseIdx i) = (ddL K xs).eraseIdx i := by
  rw [ddL_map, ddL_map]
  induction xs generalizing i with
  | nil => rfl
  | cons x xs ih => cases i with
    | zero => rfl
    | succ i => rw [List.eraseIdx_cons_succ, List.map_cons, ih, List.map_cons, List.eraseIdx_cons_succ]
theorem ddL_dropLast {xs : List D} : ddL K xs.dropLast = (ddL K xs).dropLast := by rw [ddL_map, ddL_map, List.map_dropLast]
theorem ddL_ints {ns : List Int} : ddL K (ns.map .int) = ns.map DD.int := by
  rw [ddL_map, List.map_map]
  rfl
theorem lc_get {τ : Ls} {i : Nat} {u : Option Vt} (h : τ[i]? = some u) : (lc K τ)[i]? = some (u.map (tg K)) := by rw [lc, List.getElem?_map, h]; rfl
theorem lc_set {τ : Ls} {i : Nat} {u : Option Vt} : lc K (τ.set i u) = (lc K τ).set i (u.map (tg K)) := by rw [lc, lc, List.map_set]
theorem lc_len {τ : Ls} : (lc K τ).length = τ.length := by rw [lc, List.length_map]
theorem lc_dat {τ : Ls} {i : Nat} {d : D} (h : τ[i]? = some (some (.dat d))) : (lc K τ)[i]? = some (some (.dat (dd K d))) := lc_get h
theorem lc_vol {τ : Ls} {i : Nat} {d : D} (h : τ[i]? = some (some (.vol d))) : (lc K τ)[i]? = some (some (.vol (dd K d))) := lc_get h
theorem lc_own {τ : Ls} {i : Nat} {l : Bool} {o : Ow} (h : τ[i]? = some (some (.own l o))) : (lc K τ)[i]? = some (some (.res l (ow K o))) := lc_get h
theorem stb_tg {x : Vt} {b : Bool} : stb (tg K x) b = stbV x b := by cases x <;> rfl
theorem stb_of {x : Vt} {b : Bool} (h : stbV x b = true) : stb (tg K x) b = true := by rw [stb_tg, h]
theorem scal_dd {d : D} : scal (dd K d) = scalD d := by cases d <;> rfl
theorem hard_dd {ds : List D} (h : hardD ds = true) : hardL (ddL K ds) = true := by
  unfold hardD at h
  unfold hardL
  induction ds with
  | nil => rfl
  | cons x xs ih =>
    rw [List.all_cons, Bool.and_eq_true] at h
    rw [ddL, List.all_cons, scal_dd, h.1, ih h.2]
    rfl
theorem see_dv {τ : Ls} {x : Vt} {d : D} (h : see τ x = some d) : Dv (lc K τ) (tg K x) (dd K d) := by
  unfold see at h
  split at h
  · cases h; exact .dat
  · cases h; exact .vol
  · cases h; exact .tmp
  · cases h; exact .fre
  · cases h
  · split at h
    · cases h
      rename_i hi
      exact .ali (lc_own hi)
    · cases h
theorem dlst_dl {τ : Ls} {x : Vt} {ds : List D} (h : dlst τ x = some ds) : Dl (lc K τ) (tg K x) (.lst (ddL K ds)) := by
  unfold dlst at h
  split at h
  · cases h; exact .dat
  · cases h; exact .fre
  · split at h
    · cases h
      rename_i hi
      exact .ali (lc_own hi)
    · cases h
  · cases h
theorem its_tu {τ : Ls} {x : Vt} {ds : List D} (h : its τ x = some ds) : TuQ (lc K τ) (tg K x) (ddL K ds) := by
  unfold its at h
  split at h
  · cases h; exact .lst
  · cases h; exact .tup
  · cases h; exact .tpl
  · cases h; exact .fre
  · split at h
    · cases h
      rename_i hi
      exact .ali (lc_own hi)
    · cases h
  · split at h
    · cases h; exact .vlst (hard_dd (by assumption))
    · cases h
  · split at h
    · cases h; exact .vtup (hard_dd (by assumption))
    · cases h
  · split at h
    · cases h; exact .vtpl (hard_dd (by assumption))
    · cases h
  · cases h
mutual
theorem nice_dd : ∀ (n : Nat) (d : D), niceD n d = true → Nice n (dd K d)
  | n, .non, h => nice_non
  | n, .bl _, h => nice_bl
  | n, .int _, h => nice_int
  | n, .str s, h => by
    have h : s.cps.all (· < 0x110000) = true := by cases n <;> exact h
    cases n <;> (unfold dd Nice; exact h)
  | 0, .tup _, h => by cases h
  | 0, .tpl _, h => by cases h
  | 0, .lst _, h => by cases h
  | n + 1, .tup xs, h => by
    unfold dd Nice
    exact nice_ddL n xs h
  | n + 1, .tpl xs, h => by
    unfold dd Nice
    exact nice_ddL n xs h
  | n + 1, .lst xs, h => by
    unfold dd Nice
    exact nice_ddL n xs h
  | n, .ty _, h => by cases n <;> cases h
  | n, .obj _ _ _, h => by cases n <;> cases h
  | n, .scr _, h => by cases n <;> cases h
theorem nice_ddL : ∀ (n : Nat) (ds : List D), niceDL n ds = true → NiceL n (ddL K ds)
  | n, [], h => by unfold ddL NiceL; exact True.intro
  | n, x :: xs, h => by
    unfold niceDL at h
    rw [Bool.and_eq_true] at h
    unfold ddL NiceL
    exact ⟨nice_dd n x h.1, nice_ddL n xs h.2⟩
end
mutual
theorem eqv_dd : ∀ (n m : Nat) (d e : D), niceD n d = true → niceD m e = true → PyData.eqv (py (dd K d)) (py (dd K e)) = eqD d e
  | n, m, .tup xs, .tup ys, h, k => by
    cases n with
    | zero => cases h
    | succ n => cases m with
      | zero => cases k
      | succ m =>
        unfold dd py PyData.eqv eqD
        exact eqv_ddL n m xs ys h k
  | n, m, .tup xs, .tpl ys, h, k => by
    cases n with
    | zero => cases h
    | succ n => cases m with
      | zero => cases k
      | succ m =>
        unfold dd py PyData.eqv eqD
        exact eqv_ddL n m xs ys h k
  | n, m, .tpl xs, .tup ys, h, k => by
    cases n with
    | zero => cases h
    | succ n => cases m with
      | zero => cases k
      | succ m =>
        unfold dd py PyData.eqv eqD
        exact eqv_ddL n m xs ys h k
  | n, m, .tpl xs, .tpl ys, h, k => by
    cases n with
    | zero => cases h
    | succ n => cases m with
      | zero => cases k
      | succ m =>
        unfold dd py PyData.eqv eqD
        exact eqv_ddL n m xs ys h k
  | n, m, .lst xs, .lst ys, h, k => by
    cases n with
    | zero => cases h
    | succ n => cases m with
      | zero => cases k
      | succ m =>
        unfold dd py PyData.eqv eqD
        exact eqv_ddL n m xs ys h k
  | n, m, .ty _, e, h, k => by cases n <;> cases h
  | n, m, .obj _ _ _, e, h, k => by cases n <;> cases h
  | n, m, .scr _, e, h, k => by cases n <;> cases h
  | n, m, d, .ty _, h, k => by cases m <;> cases k
  | n, m, d, .obj _ _ _, h, k => by cases m <;> cases k
  | n, m, d, .scr _, h, k => by cases m <;> cases k
  | n, m, .non, .non, h, k => by simp [dd, py, PyData.eqv, eqD]
  | n, m, .non, .bl _, h, k => by simp [dd, py, PyData.eqv, eqD]
  | n, m, .non, .int _, h, k => by simp [dd, py, PyData.eqv, eqD]
  | n, m, .non, .str _, h, k => by simp [dd, py, PyData.eqv, eqD]
  | n, m, .non, .tup _, h, k => by simp [dd, py, PyData.eqv, eqD]
  | n, m, .non, .tpl _, h, k => by simp [dd, py, PyData.eqv, eqD]
  | n, m, .non, .lst _, h, k => by simp [dd, py, PyData.eqv, eqD]
  | n, m, .bl _, .non, h, k => by simp [dd, py, PyData.eqv, eqD]
  | n, m, .bl _, .bl _, h, k => by simp [dd, py, PyData.eqv, eqD]
  | n, m, .bl _, .int _, h, k => by simp [dd, py, PyData.eqv, eqD]
  | n, m, .bl _, .str _, h, k => by simp [dd, py, PyData.eqv, eqD]
  | n, m, .bl _, .tup _, h, k => by simp [dd, py, PyData.eqv, eqD]
  | n, m, .bl _, .tpl _, h, k => by simp [dd, py, PyData.eqv, eqD]
  | n, m, .bl _, .lst _, h, k => by simp [dd, py, PyData.eqv, eqD]
  | n, m, .int _, .non, h, k => by simp [dd, py, PyData.eqv, eqD]
  | n, m, .int _, .bl _, h, k => by simp [dd, py, PyData.eqv, eqD]
  | n, m, .int _, .int _, h, k => by simp [dd, py, PyData.eqv, eqD]
  | n, m, .int _, .str _, h, k => by simp [dd, py, PyData.eqv, eqD]
  | n, m, .int _, .tup _, h, k => by simp [dd, py, PyData.eqv, eqD]
  | n, m, .int _, .tpl _, h, k => by simp [dd, py, PyData.eqv, eqD]
  | n, m, .int _, .lst _, h, k => by simp [dd, py, PyData.eqv, eqD]
  | n, m, .str _, .non, h, k => by simp [dd, py, PyData.eqv, eqD]
  | n, m, .str _, .bl _, h, k => by simp [dd, py, PyData.eqv, eqD]
  | n, m, .str _, .int _, h, k => by simp [dd, py, PyData.eqv, eqD]
  | n, m, .str _, .str _, h, k => by simp [dd, py, PyData.eqv, eqD]
  | n, m, .str _, .tup _, h, k => by simp [dd, py, PyData.eqv, eqD]
  | n, m, .str _, .tpl _, h, k => by simp [dd, py, PyData.eqv, eqD]
  | n, m, .str _, .lst _, h, k => by simp [dd, py, PyData.eqv, eqD]
  | n, m, .tup _, .non, h, k => by simp [dd, py, PyData.eqv, eqD]
  | n, m, .tup _, .bl _, h, k => by simp [dd, py, PyData.eqv, eqD]
  | n, m, .tup _, .int _, h, k => by simp [dd, py, PyData.eqv, eqD]
  | n, m, .tup _, .str _, h, k => by simp [dd, py, PyData.eqv, eqD]
  | n, m, .tup _, .lst _, h, k => by simp [dd, py, PyData.eqv, eqD]
  | n, m, .tpl _, .non, h, k => by simp [dd, py, PyData.eqv, eqD]
  | n, m, .tpl _, .bl _, h, k => by simp [dd, py, PyData.eqv, eqD]
  | n, m, .tpl _, .int _, h, k => by simp [dd, py, PyData.eqv, eqD]
  | n, m, .tpl _, .str _, h, k => by simp [dd, py, PyData.eqv, eqD]
  | n, m, .tpl _, .lst _, h, k => by simp [dd, py, PyData.eqv, eqD]
  | n, m, .lst _, .non, h, k => by simp [dd, py, PyData.eqv, eqD]
  | n, m, .lst _, .bl _, h, k => by simp [dd, py, PyData.eqv, eqD]
  | n, m, .lst _, .int _, h, k => by simp [dd, py, PyData.eqv, eqD]
  | n, m, .lst _, .str _, h, k => by simp [dd, py, PyData.eqv, eqD]
  | n, m, .lst _, .tup _, h, k => by simp [dd, py, PyData.eqv, eqD]
  | n, m, .lst _, .tpl _, h, k => by simp [dd, py, PyData.eqv, eqD]
theorem eqv_ddL : ∀ (n m : Nat) (d e : List D), niceDL n d = true → niceDL m e = true → PyData.eqvAll (pyL (ddL K d)) (pyL (ddL K e)) = eqDL d e
  | n, m, [], [], h, k => by simp [ddL, pyL, PyData.eqvAll, eqDL]
  | n, m, [], _ :: _, h, k => by simp [ddL, pyL, PyData.eqvAll, eqDL]
  | n, m, _ :: _, [], h, k => by simp [ddL, pyL, PyData.eqvAll, eqDL]
  | n, m, x :: xs, y :: ys, h, k => by
    unfold niceDL at h k
    rw [Bool.and_eq_true] at h k
    unfold ddL pyL PyData.eqvAll eqDL
    rw [eqv_dd n m x y h.1 k.1, eqv_ddL n m xs ys h.2 k.2]
end
theorem deqv_dd {d e : D} (h : nice60 d = true) (k : nice60 e = true) : deqv (dd K d) (dd K e) = eqD d e := eqv_dd 60 60 d e h k
/-! ### the judgements -/
def Is (K : PySem.W.Frag) (r : Vt) (τ' : Ls) (b : Bool) : Tg → Lc → Bool → Prop := fun r' τ'' b' => r' = tg K r ∧ τ'' = lc K τ' ∧ b' = b
def SE (K : PySem.W.Frag) (c : Cfg) (te : TE) (m : ME) : Prop := ∀ τ r τ' b, m τ = .v r τ' b → W c te (lc K τ) (Is K r τ' b)
def SA (K : PySem.W.Frag) (c : Cfg) (ta : TA) (m : MA) : Prop := ∀ τ r τ' b, m τ = .v r τ' b → WA c ta (lc K τ) fun r' τ'' b' => r' = r.map (tg K) ∧ τ'' = lc K τ' ∧ b' = b
def ST (K : PySem.W.Frag) (c : Cfg) (tt : TT) (m : MT) : Prop := ∀ τ r τ' b, m τ = .v r τ' b → WT c tt (lc K τ) fun r' τ'' b' => r' = r ∧ τ'' = lc K τ' ∧ b' = b
def SO (K : PySem.W.Frag) (c : Cfg) (tt : TO) (m : MO) : Prop := ∀ τ r τ' b, m τ = .v r τ' b → WO c tt (lc K τ) fun r' τ'' b' => r' = r ∧ τ'' = lc K τ' ∧ b' = b
def SJ (K : PySem.W.Frag) (c : Cfg) (ts : List TE) (m : List ME) : Prop := ∀ acc τ r τ' b, mJs m acc τ = .v r τ' b → WJ c ts acc (lc K τ) fun r' τ'' b' => r' = r ∧ τ'' = lc K τ' ∧ b' = b
def SI (K : PySem.W.Frag) (c : Cfg) (tt : TI) (m : MI) : Prop := ∀ τ r τ' b, m τ = .v r τ' b → WI c tt (lc K τ) fun r' τ'' b' => r' = r.map (tgI K) ∧ τ'' = lc K τ' ∧ b' = b
section
variable {c : Cfg} {te ta tb tc : TE} {t : TA} {tt tu : TT} {a b e m : ME} {u : MA} {p q : MT} {τ τ' : Ls} {r : Vt} {k : Bool} {i j : Nat} {Φ : Tg → Lc → Bool → Prop}
theorem SE.to (h : SE K c te m) (e : m τ = .v r τ' k) (z : Φ (tg K r) (lc K τ') k) : W c te (lc K τ) Φ := W.imp (h _ _ _ _ e) fun _ _ _ y => by
  obtain ⟨rfl, rfl, rfl⟩ := y
  exact z
theorem SA.to {rs : List Vt} {ΦA : List Tg → Lc → Bool → Prop} (h : SA K c t u) (e : u τ = .v rs τ' k) (z : ΦA (rs.map (tg K)) (lc K τ') k) : WA c t (lc K τ) ΦA := WA.imp (h _ _ _ _ e) fun _ _ _ y => by
  obtain ⟨rfl, rfl, rfl⟩ := y
  exact z
theorem ST.to {x : Bool} {ΦT : Bool → Lc → Bool → Prop} (h : ST K c tt p) (e : p τ = .v x τ' k) (z : ΦT x (lc K τ') k) : WT c tt (lc K τ) ΦT := WT.imp (h _ _ _ _ e) fun _ _ _ y => by
  obtain ⟨rfl, rfl, rfl⟩ := y
  exact z
theorem SO.to {to : TO} {mo : MO} {x : Option Int} {ΦT : Option Int → Lc → Bool → Prop} (h : SO K c to mo) (e : mo τ = .v x τ' k) (z : ΦT x (lc K τ') k) : WO c to (lc K τ) ΦT := fun σ G H F o Q q => h _ _ _ _ e σ G H F o Q fun v G' H' F' τ'' b y => by
  obtain ⟨rfl, rfl, rfl⟩ := y
  exact q _ G' H' F' _ _ z
theorem SI.to {wi : TI} {mi : MI} {xs : List It1} {ΦI : List Itm → Lc → Bool → Prop} (h : SI K c wi mi) (e : mi τ = .v xs τ' k) (z : ΦI (xs.map (tgI K)) (lc K τ') k) : WI c wi (lc K τ) ΦI := fun σ G H F o R q => h _ _ _ _ e σ G H F o R fun J its G' H' F' τ'' b y => by
  obtain ⟨rfl, rfl, rfl⟩ := y
  exact q J _ G' H' F' _ _ z
/-! ### names, constants, operators -/
theorem se_var : SE K c (tVar i) (mVar i) := fun τ r τ' k h => by
  obtain ⟨rfl, rfl, ⟨d, h1, rfl⟩ | ⟨d, h1, rfl⟩ | ⟨l, o, h1, rfl⟩⟩ := mVar_inv h
  · exact w_varD (lc_dat h1) ⟨rfl, rfl, rfl⟩
  · exact w_varV (lc_vol h1) ⟨rfl, rfl, rfl⟩
  · exact w_varR (lc_own h1) ⟨rfl, rfl, rfl⟩
theorem se_int {n : Int} : SE K c (tC (.int n)) (mC (.int n)) := fun τ r τ' k h => by cases h; exact w_int ⟨rfl, rfl, rfl⟩
theorem se_bl {n : Bool} : SE K c (tC (.bl n)) (mC (.bl n)) := fun τ r τ' k h => by cases h; exact w_bl ⟨rfl, rfl, rfl⟩
theorem se_str {n : Str} : SE K c (tC (.str n)) (mC (.str n)) := fun τ r τ' k h => by cases h; exact w_str ⟨rfl, rfl, rfl⟩
theorem se_non : SE K c (tC .non) (mC .non) := fun τ r τ' k h => by cases h; exact w_non ⟨rfl, rfl, rfl⟩
theorem se_ty {n : String} : SE K c (tC (.ty n)) (mC (.ty n)) := fun τ r τ' k h => by cases h; exact w_ty ⟨rfl, rfl, rfl⟩
theorem opV_inv {g : D → D → Option D} {x y z : Vt} (h : opV g τ x y = some z) : ∃ d e f, see τ x = some d ∧ see τ y = some e ∧ g d e = some f ∧ z = .dat f := by
  unfold opV at h
  split at h
  · cases h
  · split at h
    · cases h
    · split at h
      · cases h
      · cases h
        exact ⟨_, _, _, by assumption, by assumption, by assumption, rfl⟩
/-- an operator that does on data what g does -/
def OpS (K : PySem.W.Frag) (R : R2) (g : D → D → Option D) : Prop := ∀ d e f, g d e = some f → Op2 R (dd K d) (dd K e) (dd K f)
theorem se_op {R : R2} {g : D → D → Option D} (hg : OpS K R g) (ha : SE K c ta a) (hb : SE K c tb b) : SE K c (tOp R ta tb) (mB (opV g) a b) := fun τ r τ' k h => by
  obtain ⟨x, τ1, b1, y, b2, h1, h2, h3, h4, rfl⟩ := mB_inv h
  obtain ⟨d, e, f, q1, q2, q3, rfl⟩ := opV_inv h4
  exact w_op (ha.to h1 (hb.to h2 ⟨stb_of h3, _, _, _, see_dv q1, see_dv q2, hg _ _ _ q3, rfl, rfl, rfl⟩))
theorem os_add : OpS K rAddI gAdd := fun d e f h => by
  unfold gAdd at h
  split at h <;> cases h
  exact o2_add
theorem os_sub : OpS K rSubI gSubI := fun d e f h => by
  unfold gSubI at h
  split at h <;> cases h
  exact o2_sub
theorem os_mul : OpS K rMulI gMul := fun d e f h => by
  unfold gMul at h
  split at h
  · split at h <;> cases h
    rename_i hh
    exact o2_mul hh.symm
  · cases h
theorem os_mod : OpS K rModI gMod := fun d e f h => by
  unfold gMod at h
  split at h
  · split at h <;> cases h
    exact o2_mod (by assumption)
  · cases h
theorem log_small {j : Int} {n : Nat} (h0 : 0 < j) (h : j < 2 ^ n) : j.natAbs.log2 < n := by
  have h1 : j.natAbs < 2 ^ n := by
    have : ((j.natAbs : Nat) : Int) < ((2 ^ n : Nat) : Int) := by
      rw [Int.natAbs_of_nonneg (by omega)]
      simpa using h
    exact Int.ofNat_lt.mp this
  exact (Nat.log2_lt (by omega)).mpr h1
theorem os_div : OpS K rDivI gDiv := fun d e f h => by
  unfold gDiv at h
  split at h
  · split at h <;> cases h
    rename_i hh
    exact o2_fdiv ⟨hh.1, Nat.lt_of_lt_of_le (log_small hh.1 hh.2) (by decide)⟩
  · cases h
theorem os_pow : OpS K rPowI gPow := fun d e f h => by
  unfold gPow at h
  split at h
  · split at h <;> cases h
    exact o2_pow (by assumption)
  · cases h
theorem os_lt : OpS K rLtI gLt := fun d e f h => by
  unfold gLt at h
  split at h <;> cases h
  exact o2_lt
theorem os_le : OpS K rLeI gLe := fun d e f h => by
  unfold gLe at h
  split at h <;> cases h
  exact o2_le
theorem os_gt : OpS K rGtI gGt := fun d e f h => by
  unfold gGt at h
  split at h <;> cases h
  exact o2_gt
theorem os_ge : OpS K rGeI gGe := fun d e f h => by
  unfold gGe at h
  split at h <;> cases h
  exact o2_ge
theorem os_eq : OpS K (rEqD K) gEq := fun d e f h => by
  unfold gEq at h
  split at h
  · cases h
    rename_i i j
    have z := o2_eq (K := K) (d := .int i) (e := .int j) nice_int nice_int (Nat.zero_le 64) (Nat.zero_le 64)
    rw [deqv_int] at z
    exact z
  · split at h
    · cases h
      rename_i hh
      rw [Bool.and_eq_true] at hh
      show Op2 _ _ _ (.bl _)
      rw [← deqv_dd (K := K) hh.1 hh.2]
      exact o2_eq (nice_dd 60 _ hh.1) (nice_dd 60 _ hh.2) (by decide) (by decide)
    · cases h
theorem os_ne : OpS K (rNeD K) gNe := fun d e f h => by
  unfold gNe at h
  split at h
  · cases h
    rename_i i j
    have z := o2_ne (K := K) (d := .int i) (e := .int j) nice_int nice_int (Nat.zero_le 64) (Nat.zero_le 64)
    rw [deqv_int] at z
    exact z
  · split at h
    · cases h
      rename_i hh
      rw [Bool.and_eq_true] at hh
      show Op2 _ _ _ (.bl _)
      rw [← deqv_dd (K := K) hh.1 hh.2]
      exact o2_ne (nice_dd 60 _ hh.1) (nice_dd 60 _ hh.2) (by decide) (by decide)
    · cases h
theorem niceDL_mem {n : Nat} {x : D} : ∀ {xs : List D}, niceDL n xs = true → x ∈ xs → niceD n x = true
  | [], _, h => by simp at h
  | y :: ys, h, hx => by
    unfold niceDL at h
    rw [Bool.and_eq_true] at h
    rcases List.mem_cons.mp hx with rfl | hx
    · exact h.1
    · exact niceDL_mem h.2 hx
theorem any_dd {d : D} {es : List D} (h : nice60 d = true) (k : nice60 (.lst es) = true) : ((ddL K es).any fun z => deqv z (dd K d)) = es.any fun z => eqD z d := by
  rw [ddL_map, List.any_map]
  have hk : niceDL 59 es = true := k
  induction es with
  | nil => rfl
  | cons x xs ih =>
    have hk2 := hk
    unfold niceDL at hk2
    rw [Bool.and_eq_true] at hk2
    rw [List.any_cons, List.any_cons, ih hk2.2 hk2.2]
    exact congrArg (· || _) (eqv_dd 59 60 x d hk2.1 h)
theorem os_in : OpS K (rInD K) gIn := fun d e f h => by
  unfold gIn at h
  split at h
  · split at h
    · cases h
      rename_i hh
      rw [Bool.and_eq_true] at hh
      show Op2 _ _ _ (.bl _)
      rw [← any_dd (K := K) hh.1 hh.2]
      exact o2_inD (nice_dd 60 _ hh.1) (nice_dd 60 _ hh.2) (by decide) (by decide)
    · cases h
  · cases h
theorem os_notIn : OpS K (rNotInD K) gNotIn := fun d e f h => by
  unfold gNotIn at h
  split at h
  · split at h
    · cases h
      rename_i hh
      rw [Bool.and_eq_true] at hh
      show Op2 _ _ _ (.bl _)
      rw [← any_dd (K := K) hh.1 hh.2]
      exact o2_notInD (nice_dd 60 _ hh.1) (nice_dd 60 _ hh.2) (by decide) (by decide)
    · cases h
  · cases h
theorem isNon_dd {d : D} {k : Bool} (h : isNon d = some k) : ∀ G v, Rep G (dd K d) v → decide (v = V.non) = k := fun G v r => by
  cases d with
  | non => cases h; exact decide_eq_true r
  | bl b => cases h; cases (show v = V.bl b from r); rfl
  | int b => cases h; cases (show v = V.int b from r); rfl
  | str b => cases h; cases (show v = V.str b from r); rfl
  | ty b => cases h; cases (show v = V.ty b from r); rfl
  | tup xs => cases h; obtain ⟨a, vs, rfl, _⟩ := r; rfl
  | tpl xs => cases h; obtain ⟨a, vs, o, rfl, _⟩ := r; rfl
  | lst xs => cases h; obtain ⟨a, vs, rfl, _⟩ := r; rfl
  | obj C ns xs => cases h; obtain ⟨a, dx, vs, rfl, _⟩ := r; rfl
  | scr ns => cases h
theorem os_is : OpS K rIsN gIs := fun d e f h => by
  unfold gIs at h
  split at h
  · cases z : isNon d with
    | none => rw [z] at h; cases h
    | some k =>
      rw [z] at h
      cases h
      exact o2_isN (isNon_dd z)
  · cases h
theorem os_isNot : OpS K rNotN gIsNot := fun d e f h => by
  unfold gIsNot at h
  split at h
  · cases z : isNon d with
    | none => rw [z] at h; cases h
    | some k =>
      rw [z] at h
      cases h
      exact o2_notN (isNon_dd z)
  · cases h
theorem os_adds : OpS K rAddS gAddS := fun d e f h => by
  unfold gAddS at h
  split at h
  · split at h <;> cases h
    exact o2_adds (by assumption)
  · cases h
theorem atD_dd {xs : List D} {n : Int} {d : D} (h : atD xs n = some d) : atI (ddL K xs) n = some (dd K d) := by
  unfold atD at h
  show (ixN (ddL K xs).length n).bind _ = _
  rw [ddL_length]
  cases z : ixD xs.length n with
  | none => rw [z] at h; cases h
  | some k =>
    rw [z] at h
    rw [show ixN xs.length n = some k from z]
    exact ddL_get h
theorem seen_tg {d : D} : tg K (seenV .vol d) = if scal (dd K d) = true then .dat (dd K d) else .vol (dd K d) := by
  unfold seenV
  rw [scal_dd]
  split <;> rfl
theorem ix_of {τ : Ls} {x y z : Vt} (h : fIx τ x y = some z) : ∃ n, y = .dat (.int n) ∧ IxQ (lc K τ) (tg K x) n (tg K z) := by
  have fin : ∀ {ds : List D} {n : Int} {f : D → Vt}, (atD ds n).map f = some z → ∃ d, atI (ddL K ds) n = some (dd K d) ∧ z = f d := fun {ds n f} h => by
    cases e : atD ds n with
    | none => rw [e] at h; cases h
    | some d =>
      rw [e] at h
      cases h
      exact ⟨d, atD_dd e, rfl⟩
  unfold fIx at h
  split at h
  · obtain ⟨d, h1, rfl⟩ := fin h; exact ⟨_, rfl, .lst h1⟩
  · obtain ⟨d, h1, rfl⟩ := fin h; exact ⟨_, rfl, .tup h1⟩
  · obtain ⟨d, h1, rfl⟩ := fin h; exact ⟨_, rfl, .tpl h1⟩
  · split at h
    · rename_i hi
      obtain ⟨d, h1, rfl⟩ := fin h; exact ⟨_, rfl, .ali (lc_own hi) h1⟩
    · cases h
  · obtain ⟨d, h1, rfl⟩ := fin h; exact ⟨_, rfl, .new h1⟩
  · obtain ⟨d, h1, rfl⟩ := fin h
    refine ⟨_, rfl, ?_⟩
    rw [seen_tg]
    split
    · exact .vlst h1 (by assumption)
    · exact .elst h1 (ff (by assumption))
  · obtain ⟨d, h1, rfl⟩ := fin h
    refine ⟨_, rfl, ?_⟩
    rw [seen_tg]
    split
    · exact .vtup h1 (by assumption)
    · exact .etup h1 (ff (by assumption))
  · split at h
    · cases h
    · split at h
      · cases h
        rename_i e hs
        exact ⟨_, rfl, .vtpl (atD_dd e) (by rw [scal_dd]; exact hs)⟩
      · cases h
  · cases h
theorem se_ix (ha : SE K c ta a) (hb : SE K c tb b) : SE K c (tOp (rIx K) ta tb) (mB fIx a b) := fun τ r τ' k h => by
  obtain ⟨x, τ1, b1, y, b2, h1, h2, h3, h4, rfl⟩ := mB_inv h
  obtain ⟨n, rfl, h5⟩ := ix_of (K := K) h4
  exact w_ixQ (ha.to h1 (hb.to h2 ⟨stb_of h3, n, _, rfl, h5, rfl, rfl, rfl⟩))
theorem se_cat (ha : SE K c ta a) (hb : SE K c tb b) : SE K c (tOp rCat ta tb) (mB fCat a b) := fun τ r τ' k h => by
  obtain ⟨x, τ1, b1, y, b2, h1, h2, h3, h4, rfl⟩ := mB_inv h
  unfold fCat at h4
  split at h4
  · split at h4 <;> cases h4
    rename_i q1 q2 q3
    exact w_catQ (ha.to h1 (hb.to h2 ⟨stb_of h3, _, _, dlst_dl q1, dlst_dl q2, by rw [ddL_length, ddL_length]; exact q3, by rw [tg, ow, ddL_append], rfl, rfl⟩))
  · cases h4
theorem se_rep (ha : SE K c ta a) (hb : SE K c tb b) : SE K c (tOp rRep ta tb) (mB fRep a b) := fun τ r τ' k h => by
  obtain ⟨x, τ1, b1, y, b2, h1, h2, h3, h4, rfl⟩ := mB_inv h
  unfold fRep at h4
  split at h4
  · split at h4 <;> cases h4
    rename_i q1 q3
    refine w_repQ (ha.to h1 (hb.to h2 ⟨stb_of h3, _, _, dlst_dl q1, rfl, by rw [ddL_length]; exact q3, ?_, rfl, rfl⟩))
    rw [tg, ow, ddL_map, ddL_map, List.map_flatten, List.map_replicate]
  · cases h4
theorem se_catT (ha : SE K c ta a) (hb : SE K c tb b) : SE K c (tOp (rCatA K) ta tb) (mB fCatT a b) := fun τ r τ' k h => by
  obtain ⟨x, τ1, b1, y, b2, h1, h2, h3, h4, rfl⟩ := mB_inv h
  have tp : ∀ {te : TE} {τ τ' : Ls} {x : Vt} {k : Bool} {m : ME} {ds : List D} {Φ : Tg → Lc → Bool → Prop}, SE K c te m → m τ = .v x τ' k → dtup x = some ds → Φ (.dat (.tup (ddL K ds))) (lc K τ') k → W c te (lc K τ) Φ := fun {te τ τ' x k m ds Φ} hm he hd hp => by
    unfold dtup at hd
    split at hd
    · cases hd; exact hm.to he hp
    · cases hd; exact w_tpl (hm.to he ⟨_, rfl, hp⟩)
    · cases hd
  unfold fCatT at h4
  split at h4
  · split at h4 <;> cases h4
    rename_i q1 q2 q3
    exact w_catT (tp ha h1 q1 (tp hb h2 q2 ⟨_, _, rfl, rfl, by rw [ddL_length, ddL_length]; exact q3, by rw [tg, dd, ddL_append], rfl, rfl⟩))
  · cases h4
theorem se_fz (ha : SE K c ta a) : SE K c ta (mFz a) := fun τ r τ' k h => by
  rcases mFz_inv h with h1 | ⟨ds, h1, rfl⟩
  · exact ha _ _ _ _ h1
  · exact w_frz (ha.to h1 ⟨_, rfl, rfl, rfl, rfl⟩)
theorem se_frz (ha : SE K c ta a) : SE K c ta (mFrz i a) := fun τ r τ' k h => by
  rcases mFrz_inv h with h0 | ⟨ds, b', h1, h2, rfl⟩
  · exact ha _ _ _ _ h0
  have z := ha.to (Φ := fun r1 τ1 _ => Is K r τ' false r1 τ1 false) h2 ⟨rfl, rfl, rfl⟩
  rw [lc_set] at z
  exact w_frzS i (lc_own h1) z
theorem se_andV (ha : SE K c ta a) (hb : SE K c tb b) : SE K c (tAndV ta tb) (mAndV a b) := fun τ r τ' k h => by
  obtain ⟨x, τ1, b1, h1, ⟨rfl, rfl, rfl, rfl⟩ | ⟨rfl, b2, h2, rfl⟩⟩ := mAndV_inv h
  · exact w_andV (ha.to h1 ⟨_, rfl, by rw [if_neg (by decide)]; exact ⟨rfl, rfl, rfl⟩⟩)
  · exact w_andV (ha.to h1 ⟨_, rfl, by rw [if_pos rfl]; exact hb.to h2 ⟨rfl, rfl, rfl⟩⟩)
theorem se_orV (ha : SE K c ta a) (hb : SE K c tb b) : SE K c (tOrV ta tb) (mOrV a b) := fun τ r τ' k h => by
  obtain ⟨x, τ1, b1, h1, ⟨rfl, rfl, rfl, rfl⟩ | ⟨rfl, b2, h2, rfl⟩⟩ := mOrV_inv h
  · exact w_orV (ha.to h1 ⟨_, rfl, by rw [if_pos rfl]; exact ⟨rfl, rfl, rfl⟩⟩)
  · exact w_orV (ha.to h1 ⟨_, rfl, by rw [if_neg (by decide)]; exact hb.to h2 ⟨rfl, rfl, rfl⟩⟩)
theorem se_notV (ha : SE K c ta a) : SE K c (tNotV ta) (mNotV a) := fun τ r τ' k h => by
  obtain ⟨x, h1, rfl⟩ := mNotV_inv h
  exact w_notV (ha.to h1 ⟨_, rfl, rfl, rfl, rfl⟩)
theorem se_if (ht : ST K c tt p) (ha : SE K c ta a) (hb : SE K c tb b) : SE K c (tIf tt ta tb) (mIf p a b) := fun τ r τ' k h => by
  obtain ⟨x, τ1, b1, b2, h1, h2, rfl⟩ := mIf_inv h
  refine w_if (ht.to h1 ?_)
  cases x with
  | true =>
    rw [if_pos rfl] at h2 ⊢
    exact ha.to h2 ⟨rfl, rfl, rfl⟩
  | false =>
    rw [if_neg (by decide)] at h2 ⊢
    exact hb.to h2 ⟨rfl, rfl, rfl⟩
theorem se_chain {R R' : R2} {g h' : D → D → Option D} (hg : OpS K R g) (hh : OpS K R' h') (ha : SE K c ta a) (hb : SE K c tb b) (hc : SE K c tc e) : SE K c (tChain R R' ta tb tc) (mChain g h' a b e) := fun τ r τ' k h => by
  obtain ⟨x, τ1, b1, y, τ2, b2, d, f, kk, h1, h2, h3, h4, h5, h6, z⟩ := mChain_inv h
  refine w_chain (ha.to h1 (hb.to h2 ⟨stb_of h3, _, _, kk, see_dv h4, see_dv h5, hg _ _ _ h6, ?_⟩))
  rcases z with ⟨rfl, rfl, rfl, rfl⟩ | ⟨rfl, z, b3, f', d', r', h7, h8, h9, h10, h11, rfl, rfl⟩
  · rw [if_neg (by decide)]
    exact ⟨rfl, rfl, rfl⟩
  · rw [if_pos rfl]
    exact hc.to h7 ⟨stb_of h8, _, _, _, see_dv h9, see_dv h10, hh _ _ _ h11, rfl, rfl, rfl⟩
/-! ### argument lists, displays, built-ins -/
theorem sa_nil : SA K c tNil mNil := fun τ r τ' k h => by cases h; exact wa_nil ⟨rfl, rfl, rfl⟩
theorem sa_cons (ha : SE K c ta a) (ht : SA K c t u) : SA K c (tCons ta t) (mCons a u) := fun τ r τ' k h => by
  obtain ⟨x, τ1, b1, xs, b2, h1, h2, h3, rfl, rfl⟩ := mCons_inv h
  exact wa_cons (ha.to h1 (ht.to h2 ⟨stb_of h3, rfl, rfl, rfl⟩))
theorem allDat_dps : ∀ {xs : List Vt} {ds : List D}, allDat xs = some ds → Dps (xs.map (tg K)) (ddL K ds)
  | [], ds, h => by cases h; exact .nil
  | x :: xs, ds, h => by
    cases x with
    | dat d =>
      unfold allDat at h
      split at h
      · cases h
        exact .cons (allDat_dps (by assumption))
      · cases h
    | _ => simp [allDat] at h
theorem allSee_dvs : ∀ {xs : List Vt} {ds : List D}, allSee τ xs = some ds → Dvs (lc K τ) (xs.map (tg K)) (ddL K ds)
  | [], ds, h => by cases h; exact .nil
  | x :: xs, ds, h => by
    unfold allSee at h
    split at h
    · cases h
    · split at h
      · cases h
        exact .cons (see_dv (by assumption)) (allSee_dvs (by assumption))
      · cases h
theorem se_tup (ht : SA K c t u) : SE K c (tTup t) (mTup u) := fun τ r τ' k h => by
  obtain ⟨xs, ds, h1, h2, ⟨h3, rfl⟩ | ⟨h3, rfl⟩⟩ := mTup_inv h
  · exact w_tup (ht.to h1 ⟨_, allDat_dps h3, by rw [ddL_length]; exact h2, rfl, rfl, rfl⟩)
  · exact w_tupV (ht.to h1 ⟨_, allSee_dvs h3, by rw [ddL_length]; exact h2, rfl, rfl, rfl⟩)
theorem se_lst (ht : SA K c t u) : SE K c (tLst t) (mLst u) := fun τ r τ' k h => by
  obtain ⟨xs, ds, h1, h2, ⟨h3, rfl⟩ | ⟨h3, rfl⟩⟩ := mLst_inv h
  · exact w_lst (ht.to h1 ⟨_, allDat_dps h3, by rw [ddL_length]; exact h2, rfl, rfl, rfl⟩)
  · exact w_lstV (ht.to h1 ⟨_, allSee_dvs h3, by rw [ddL_length]; exact h2, rfl, rfl, rfl⟩)
/-- a built-in that does on data what g does -/
def CbS (K : PySem.W.Frag) (R : List V → Hp → VK → Prop) (g : List D → Option D) : Prop := ∀ ds f, g ds = some f → OpA R (ddL K ds) (dd K f)
theorem se_cb {R : List V → Hp → VK → Prop} {g : List D → Option D} (hg : CbS K R g) (ht : SA K c t u) : SE K c (tCB R t) (mCB g u) := fun τ r τ' k h => by
  obtain ⟨xs, ds, d, h1, h2, h3, rfl⟩ := mCB_inv h
  exact w_callB (ht.to h1 ⟨_, _, allSee_dvs h2, hg _ _ h3, rfl, rfl, rfl⟩)
theorem cs_len : CbS K (rLen K) gLen := fun ds f h => by
  unfold gLen at h
  split at h
  · cases h
    rename_i xs
    have z := oa_lenL (K := K) (ds := ddL K xs)
    rw [ddL_length] at z
    exact z
  · cases h
    rename_i xs
    have z := oa_lenT (K := K) (ds := ddL K xs)
    rw [ddL_length] at z
    exact z
  · cases h
    rename_i xs
    have z := oa_lenT (K := K) (ds := ddL K xs)
    rw [ddL_length] at z
    intro G H vs e t hr Q q
    obtain ⟨v, r, rfl, h1, h2⟩ := hr
    exact z G H _ e t ⟨v, r, rfl, tpl_tup h1, h2⟩ Q q
  · cases h
theorem cs_lenS : CbS K rLenS gLenS := fun ds f h => by
  unfold gLenS at h
  split at h
  · split at h <;> cases h
    exact oa_lenS (by assumption)
  · cases h
theorem bls_dd : ∀ {xs : List D} {bs : List Bool}, bls xs = some bs → ddL K xs = bs.map DD.bl
  | [], bs, h => by cases h; rfl
  | x :: xs, bs, h => by
    cases x with
    | bl k =>
      unfold bls at h
      split at h
      · cases h
        rw [ddL, bls_dd (by assumption)]
        rfl
      · cases h
    | _ => simp [bls] at h
theorem intsD_dd : ∀ {xs : List D} {bs : List Int}, intsD xs = some bs → ddL K xs = bs.map DD.int
  | [], bs, h => by cases h; rfl
  | x :: xs, bs, h => by
    cases x with
    | int k =>
      unfold intsD at h
      split at h
      · cases h
        rw [ddL, intsD_dd (by assumption)]
        rfl
      · cases h
    | _ => simp [intsD] at h
theorem strsD_dd : ∀ {xs : List D} {bs : List Str}, strsD xs = some bs → ddL K xs = bs.map DD.str
  | [], bs, h => by cases h; rfl
  | x :: xs, bs, h => by
    cases x with
    | str k =>
      unfold strsD at h
      split at h
      · cases h
        rw [ddL, strsD_dd (by assumption)]
        rfl
      · cases h
    | _ => simp [strsD] at h
theorem cs_all : CbS K (rAll K) gAll := fun ds f h => by
  unfold gAll at h
  split at h
  · split at h <;> cases h
    rename_i hb
    show OpA _ [.lst (ddL K _)] _
    rw [bls_dd hb]
    exact oa_all
  · cases h
theorem cs_any : CbS K (rAny K) gAny := fun ds f h => by
  unfold gAny at h
  split at h
  · split at h <;> cases h
    rename_i hb
    show OpA _ [.lst (ddL K _)] _
    rw [bls_dd hb]
    exact oa_any
  · cases h
theorem cs_sum : CbS K (rSum K) gSum := fun ds f h => by
  unfold gSum at h
  split at h
  · split at h <;> cases h
    rename_i hb
    show OpA _ [.lst (ddL K _)] _
    rw [intsD_dd hb]
    exact oa_sum
  · cases h
theorem log_ten {i : Int} (h : -(10 ^ 500) < i ∧ i < 10 ^ 500) : i.natAbs.log2 < 1920 := by
  by_cases h0 : i.natAbs = 0
  · rw [h0]
    decide
  · refine (Nat.log2_lt h0).mpr ?_
    have h2 : i.natAbs < 10 ^ 500 := by omega
    exact Nat.lt_of_lt_of_le h2 (by decide +kernel)
theorem cs_strI : CbS K rStrI gStrI := fun ds f h => by
  unfold gStrI at h
  split at h
  · split at h <;> cases h
    rename_i hh
    exact oa_str (log_ten hh)
  · cases h
theorem cs_intB : CbS K rIntB gIntB := fun ds f h => by
  unfold gIntB at h
  split at h <;> cases h
  · intro G H vs e t hr Q q
    obtain ⟨v, r, rfl, h1, h2⟩ := hr
    cases (show r = [] from h2)
    exact .inl ⟨_, congrArg (fun z => [z]) h1, q _ G H Fr.refl e t rfl⟩
  · exact oa_intB
theorem cs_min2 : CbS K rMin2 gMin2 := fun ds f h => by
  unfold gMin2 at h
  split at h <;> cases h
  exact oa_min2
theorem cs_max2 : CbS K rMax2 gMax2 := fun ds f h => by
  unfold gMax2 at h
  split at h <;> cases h
  exact oa_max2
end
end Z
set_option Elab.async false
set_option linter.all false
set_option maxRecDepth 100000
/-! S2: the pure interpreter keeps what the rules say: calls, tests, walks, statements, bodies. -/
namespace Z
open PySem PySem.Spec PyProof.Rows L2
section
variable {K : PySem.W.Frag} {c : Cfg} {te ta tb tc : TE} {t : TA} {tt tu : TT} {a b e m : ME} {u : MA} {p q : MT} {τ τ' : Ls} {r : Vt} {k : Bool} {i j : Nat} {Φ : Tg → Lc → Bool → Prop}
/-! ### isinstance -/
theorem isi1_ty {d : D} {n : String} {x : Bool} (h : isi1 d n = some x) : isPl (dd K d) = true ∧ kitB (tyN (dd K d)) n = some x := by
  unfold isi1 at h
  split at h
  · split at h <;> cases h
    rename_i hn
    refine ⟨rfl, ?_⟩
    show kitB "NoneType" _ = some _
    rcases hn with rfl | rfl | rfl | rfl | rfl <;> decide +kernel
  · split at h
    · cases h
      rename_i hn
      refine ⟨rfl, ?_⟩
      show kitB "bool" _ = some _
      rcases hn with rfl | rfl <;> decide +kernel
    · split at h <;> cases h
      rename_i hn
      refine ⟨rfl, ?_⟩
      show kitB "bool" _ = some _
      rcases hn with rfl | rfl | rfl <;> decide +kernel
  · split at h
    · cases h
      rename_i hn
      refine ⟨rfl, ?_⟩
      show kitB "int" _ = some _
      subst hn
      decide +kernel
    · split at h <;> cases h
      rename_i hn
      refine ⟨rfl, ?_⟩
      show kitB "int" _ = some _
      rcases hn with rfl | rfl | rfl | rfl <;> decide +kernel
  · split at h
    · cases h
      rename_i hn
      refine ⟨rfl, ?_⟩
      show kitB "str" _ = some _
      subst hn
      decide +kernel
    · split at h <;> cases h
      rename_i hn
      refine ⟨rfl, ?_⟩
      show kitB "str" _ = some _
      rcases hn with rfl | rfl | rfl | rfl <;> decide +kernel
  · split at h
    · cases h
      rename_i hn
      refine ⟨rfl, ?_⟩
      show kitB "tuple" _ = some _
      subst hn
      decide +kernel
    · split at h <;> cases h
      rename_i hn
      refine ⟨rfl, ?_⟩
      show kitB "tuple" _ = some _
      rcases hn with rfl | rfl | rfl | rfl <;> decide +kernel
  · split at h
    · cases h
      rename_i hn
      refine ⟨rfl, ?_⟩
      show kitB "tuple" _ = some _
      subst hn
      decide +kernel
    · split at h <;> cases h
      rename_i hn
      refine ⟨rfl, ?_⟩
      show kitB "tuple" _ = some _
      rcases hn with rfl | rfl | rfl | rfl <;> decide +kernel
  · split at h
    · cases h
      rename_i hn
      refine ⟨rfl, ?_⟩
      show kitB "list" _ = some _
      subst hn
      decide +kernel
    · split at h <;> cases h
      rename_i hn
      refine ⟨rfl, ?_⟩
      show kitB "list" _ = some _
      rcases hn with rfl | rfl | rfl | rfl <;> decide +kernel
  · cases h
theorem cs_isi : CbS K (rIsi K) gIsi := fun ds f h => by
  unfold gIsi at h
  split at h
  · split at h <;> cases h
    rename_i hh
    obtain ⟨h1, h2⟩ := isi1_ty (K := K) hh
    exact oa_isi h1 h2
  · cases h
theorem se_isi2 {x y : String} (ha : SE K c ta a) : SE K c (tCB (rIsiT K) (tCons ta (tCons (tTup (tCons (tC (.ty x)) (tCons (tC (.ty y)) tNil))) tNil))) (mIsi2 x y a) := fun τ r τ' k h => by
  obtain ⟨z, d, n, n', h1, h2, h3, h4, rfl⟩ := mIsi2_inv h
  obtain ⟨q1, q2⟩ := isi1_ty (K := K) h3
  obtain ⟨q3, q4⟩ := isi1_ty (K := K) h4
  refine w_isi2 (ha.to h1 ⟨_, (n || n'), see_dv h2, q1, ?_, rfl, rfl, rfl⟩)
  unfold isiAny isiAny isiAny
  rw [q2, q4]
  cases n <;> cases n' <;> rfl
theorem se_isiO {n : String} (kc : KCls K (He.ga K (Str.ofString n))) (ha : SE K c ta a) : SE K c (tCB (rIsi K) (tCons ta (tCons (tC (.ref (He.ga K (Str.ofString n)))) tNil))) (mIsiO n a) := fun τ r τ' k h => by
  rcases mIsiO_inv h with ⟨ns, xs, h1, rfl⟩ | ⟨xs, h1 | h1, rfl⟩
  · exact w_isiO kc (ha.to h1 (.inl ⟨_, _, rfl, rfl, rfl, rfl⟩))
  · exact w_isiO kc (ha.to h1 (.inr ⟨_, rfl, rfl, rfl, rfl⟩))
  · exact w_isiO kc (w_tpl (ha.to h1 ⟨_, rfl, .inr ⟨_, rfl, rfl, rfl, rfl⟩⟩))
/-! ### list, tuple, fields -/
theorem se_list (ha : SE K c ta a) : SE K c (tCB (rListOf K) (tCons ta tNil)) (mU fList a) := fun τ r τ' k h => by
  obtain ⟨x, h1, h2⟩ := mU_inv h
  unfold fList at h2
  cases z : its τ' x with
  | none => rw [z] at h2; cases h2
  | some ds =>
    rw [z] at h2
    cases h2
    exact w_listQ (ha.to h1 ⟨_, its_tu z, rfl, rfl, rfl⟩)
theorem se_tupN (ha : SE K c ta a) : SE K c (tCB (rTupN K) (tCons ta tNil)) (mU fTup a) := fun τ r τ' k h => by
  obtain ⟨x, h1, h2⟩ := mU_inv h
  unfold fTup at h2
  split at h2
  · cases h2; exact w_tupN (ha.to h1 ⟨_, .inl .fre, rfl, rfl, rfl⟩)
  · cases h2; exact w_tupN (ha.to h1 ⟨_, .inl .dat, rfl, rfl, rfl⟩)
  · split at h2
    · cases h2
      rename_i hi
      exact w_tupN (ha.to h1 ⟨_, .inl (.ali (lc_own hi)), rfl, rfl, rfl⟩)
    · cases h2
  · split at h2 <;> cases h2
    rename_i hh
    exact w_tupN (ha.to h1 ⟨_, .inr ⟨.vol, hard_dd hh⟩, rfl, rfl, rfl⟩)
  · cases z : its τ' x with
    | none => rw [z] at h2; cases h2
    | some ds =>
      rw [z] at h2
      cases h2
      exact w_tupQ (ha.to h1 ⟨_, its_tu z, rfl, rfl, rfl⟩)
theorem se_listRg (ha : SE K c ta a) : SE K c (tLstRg (tRg1 ta)) (mU fListRg a) := fun τ r τ' k h => by
  obtain ⟨x, h1, h2⟩ := mU_inv h
  unfold fListRg at h2
  split at h2
  · split at h2 <;> cases h2
    rename_i n hn
    refine w_listRg1 (ha.to h1 ⟨n.toNat, ?_, by omega, ?_, rfl, rfl⟩)
    · show Tg.dat (.int n) = _
      rw [Int.toNat_of_nonneg hn.1]
    · rw [tg, ow, ddL_map, List.map_map]
      rfl
  · cases h2
theorem se_neg (ha : SE K c ta a) : SE K c (tUn rNegI ta) (mU fNeg a) := fun τ r τ' k h => by
  obtain ⟨x, h1, h2⟩ := mU_inv h
  unfold fNeg at h2
  split at h2 <;> cases h2
  exact w_negQ (ha.to h1 ⟨_, rfl, rfl, rfl, rfl⟩)
theorem char_inj {a b : Char} (h : a.toNat = b.toNat) : a = b := by
  apply Char.ext
  exact UInt32.toNat_inj.mp h
theorem map_char_inj : ∀ {xs ys : List Char}, xs.map Char.toNat = ys.map Char.toNat → xs = ys
  | [], [], _ => rfl
  | [], _ :: _, h => by cases h
  | _ :: _, [], h => by cases h
  | x :: xs, y :: ys, h => by
    rw [List.map_cons, List.map_cons] at h
    injection h with h1 h2
    rw [char_inj h1, map_char_inj h2]
theorem str_inj {a b : String} (h : Str.ofString a = Str.ofString b) : a = b := by
  rw [Str.ofString_eq_toList, Str.ofString_eq_toList] at h
  injection h with h
  have h2 := List.toArray_inj h
  exact String.toList_inj.mp (map_char_inj h2)
theorem lkp_dd : ∀ {ns : List String} {xs : List D} {f : String} {d : D}, lkpD ns xs f = some d → lkp (ns.map Str.ofString) (ddL K xs) (Str.ofString f) = some (dd K d)
  | [], _, _, _, h => by simp [lkpD] at h
  | _ :: _, [], _, _, h => by simp [lkpD] at h
  | n :: ns, x :: xs, f, d, h => by
    unfold lkpD at h
    rw [List.map_cons, ddL]
    unfold lkp
    by_cases e : f = n
    · rw [if_pos e] at h
      cases h
      rw [if_pos (congrArg _ e)]
    · rw [if_neg e] at h
      rw [if_neg (fun z => e (str_inj z))]
      exact lkp_dd h
theorem se_fld {n f : String} (hc : Cls K (He.ga K (Str.ofString n))) (hn : NoAttr K (He.ga K (Str.ofString n)) (Str.ofString f)) (ha : SE K c ta a) : SE K c (tFld K ta (Str.ofString f)) (mU (fFld n f) a) := fun τ r τ' k h => by
  obtain ⟨x, h1, h2⟩ := mU_inv h
  have fin : ∀ {ns : List String} {xs : List D}, (lkpD ns xs f).map Vt.dat = some r → ∃ d, lkpD ns xs f = some d ∧ r = .dat d := fun {ns xs} h => by
    cases e : lkpD ns xs f with
    | none => rw [e] at h; cases h
    | some d => rw [e] at h; cases h; exact ⟨d, rfl, rfl⟩
  unfold fFld at h2
  split at h2
  · split at h2
    · rename_i hh
      subst hh
      obtain ⟨d, h3, rfl⟩ := fin h2
      exact w_fldQ (ha.to h1 ⟨_, fd_obj hc hn (lkp_dd h3), rfl, rfl, rfl⟩)
    · cases h2
  · split at h2
    · rename_i hi
      split at h2
      · rename_i hh
        subst hh
        obtain ⟨d, h3, rfl⟩ := fin h2
        exact w_fldQ (ha.to h1 ⟨_, fd_own hc hn (lc_own hi) (lkp_dd h3), rfl, rfl, rfl⟩)
      · cases h2
    · cases h2
  · cases h2
/-! ### slices -/
theorem so_none : SO K c tNoPart mNoPart := fun τ r τ' k h => by cases h; exact wo_none ⟨rfl, rfl, rfl⟩
theorem so_some (ha : SE K c ta a) : SO K c (tPart ta) (mPart a) := fun τ r τ' k h => by
  obtain ⟨n, h1, rfl⟩ := mPart_inv h
  exact wo_some (ha.to h1 ⟨_, rfl, rfl, rfl, rfl⟩)
theorem w_slScr {tl th : TO} {τ : Lc} (h : W c te τ fun x τ1 b1 => WO c tl τ1 fun lo τ2 b2 => WO c th τ2 fun hi τ3 b3 => ∃ ns, x = .dat (scrD K ns) ∧ Φ (.res true (ownL (cutD (ns.map .int) lo hi))) τ3 (b1 && b2 && b3)) :
    W c (tSl (rSlL K) te tl th) τ Φ := fun σ G H F o Q q =>
  h σ G H F o _ fun x G1 H1 F1 rx τ1 b1 p1 g1 s1 => p1 σ G1 H1 F1 g1.ok _ fun lo G2 H2 F2 τ2 b2 p2 g2 => p2 σ G2 H2 F2 g2.ok _ fun hi G3 H3 F3 τ3 b3 p3 g3 => by
    obtain ⟨ns, rfl, k⟩ := p3
    have s3 : Rs c σ H G3 H3 F3 (.dat (scrD K ns)) x := (s1.keep g2 rfl).keep g3 rfl
    obtain ⟨p, rfl, h2⟩ := s3
    refine ⟨p, _, rfl, Same.seq g3.ok.ex h2, fun l hl => ?_⟩
    obtain ⟨a, b⟩ := new_own ((g1.trans g2).trans g3) hl ((RepL.of_ints (G := G3) ns).cut lo hi)
    exact q _ _ _ F3 _ τ3 _ k a b
theorem cut_dd {xs : List D} {lo hi : Option Int} : ddL K (cutP xs lo hi) = cutD (ddL K xs) lo hi := by
  unfold cutP cutD
  rw [ddL_length, ddL_map, ddL_map, List.map_take, List.map_drop]
  rfl
theorem se_slL {l h' : MO} {tl th : TO} (ha : SE K c ta a) (hl : SO K c tl l) (hh : SO K c th h') : SE K c (tSl (rSlL K) ta tl th) (mSl false a l h') := fun τ r τ' k h => by
  obtain ⟨x, τ1, b1, lo, τ2, b2, hi, b3, h1, h2, h3, h4, h5, h6, rfl⟩ := mSl_inv h
  unfold fSl at h6
  rw [if_neg (by decide)] at h6
  split at h6
  · cases h6
    rename_i ns
    refine w_slScr (ha.to h1 (hl.to h2 (hh.to h3 ⟨ns, rfl, ?_, rfl, rfl⟩)))
    rw [tg, ow, cut_dd, ddL_ints]
  · split at h6
    · cases h6
      rename_i hd
      exact w_slL (ha.to h1 (hl.to h2 (hh.to h3 ⟨stb_of h4, stb_of h5, _, dlst_dl hd, by rw [tg, ow, cut_dd], rfl, rfl⟩)))
    · split at h6
      · split at h6 <;> cases h6
        rename_i hd hq
        exact w_slLV (ha.to h1 (hl.to h2 (hh.to h3 ⟨stb_of h4, stb_of h5, _, see_dv hd, hard_dd hq, by rw [tg, ow, cut_dd], rfl, rfl⟩)))
      · cases h6
theorem tp_of {ds : List D} {x : Vt} {m : ME} (hm : SE K c te m) (he : m τ = .v x τ' k) (hd : dtup x = some ds) (hp : Φ (.dat (.tup (ddL K ds))) (lc K τ') k) : W c te (lc K τ) Φ := by
  unfold dtup at hd
  split at hd
  · cases hd; exact hm.to he hp
  · cases hd; exact w_tpl (hm.to he ⟨_, rfl, hp⟩)
  · cases hd
theorem se_slT {l h' : MO} {tl th : TO} (ha : SE K c ta a) (hl : SO K c tl l) (hh : SO K c th h') : SE K c (tSl (rSlA K) ta tl th) (mSl true a l h') := fun τ r τ' k h => by
  obtain ⟨x, τ1, b1, lo, τ2, b2, hi, b3, h1, h2, h3, h4, h5, h6, rfl⟩ := mSl_inv h
  unfold fSl at h6
  rw [if_pos rfl] at h6
  cases z : dtup x with
  | none => rw [z] at h6; cases h6
  | some ds =>
    rw [z] at h6
    cases h6
    exact w_slT (tp_of ha h1 z (hl.to h2 (hh.to h3 ⟨_, rfl, by rw [tg, dd, cut_dd], rfl, rfl⟩)))
/-! ### texts -/
theorem se_fmt (ha : SE K c ta a) : SE K c (tFmt ta) (mFmt a) := fun τ r τ' k h => by
  rcases mFmt_inv h with ⟨i, h1, h2, rfl⟩ | ⟨y, h1, h2, rfl⟩
  · exact w_fmtI (ha.to h1 ⟨_, rfl, log_ten h2, rfl, rfl, rfl⟩)
  · exact w_fmtS (ha.to h1 ⟨_, rfl, h2, rfl, rfl, rfl⟩)
theorem sj_nil : SJ K c [] [] := fun acc τ r τ' k h => by
  unfold mJs at h
  cases h
  exact wj_nil ⟨rfl, rfl, rfl⟩
theorem sj_cons {ts : List TE} {es : List ME} (ha : SE K c ta a) (ht : SJ K c ts es) : SJ K c (ta :: ts) (a :: es) := fun acc τ r τ' k h => by
  obtain ⟨y, τ1, b1, b2, h1, h2, h3, rfl⟩ := mJs_inv h
  refine wj_cons (ha.to h1 ⟨_, rfl, h2, fun σ G H F o Q q => ht _ _ _ _ _ h3 σ G H F o Q fun v G' H' F' τ'' b z => ?_⟩)
  obtain ⟨rfl, rfl, rfl⟩ := z
  exact q _ G' H' F' _ _ ⟨rfl, rfl, rfl⟩
theorem se_joined {ts : List TE} {es : List ME} (ht : SJ K c ts es) : SE K c (tJoined ts) (mJoined es) := fun τ r τ' k h => by
  obtain ⟨s, h1, rfl⟩ := mJoined_inv h
  refine w_joined fun σ G H F o Q q => ht _ _ _ _ _ h1 σ G H F o Q fun v G' H' F' τ'' b z => ?_
  obtain ⟨rfl, rfl, rfl⟩ := z
  exact q _ G' H' F' _ _ ⟨rfl, rfl, rfl⟩
/-! ### methods of lists and tuples -/
theorem count_dd {d : D} {es : List D} (h : nice60 (.tpl es) = true) (k : nice60 d = true) : ((ddL K es).countP fun z => deqv z (dd K d)) = es.countP fun z => eqD z d := by
  rw [ddL_map, List.countP_map]
  have hk : niceDL 59 es = true := h
  clear h
  induction es with
  | nil => rfl
  | cons x xs ih =>
    unfold niceDL at hk
    rw [Bool.and_eq_true] at hk
    rw [List.countP_cons, List.countP_cons, ih hk.2]
    show _ + (if deqv (dd K x) (dd K d) = true then 1 else 0) = _
    rw [show deqv (dd K x) (dd K d) = eqD x d from eqv_dd 59 60 x d hk.1 k]
theorem se_count (ha : SE K c ta a) (hb : SE K c tb b) : SE K c (tBMT (rCntD K) ta (tCons tb tNil)) (mB fCount a b) := fun τ r τ' k h => by
  obtain ⟨x, τ1, b1, y, b2, h1, h2, h3, h4, rfl⟩ := mB_inv h
  unfold fCount at h4
  split at h4
  · split at h4 <;> cases h4
    rename_i ds d hh
    rw [Bool.and_eq_true] at hh
    refine w_count (n := 60) (m := 60) (ha.to h1 ⟨_, rfl, nice_dd 60 _ hh.1, wa_cons (hb.to h2 (wa_nil ⟨stb1 _, _, rfl, nice_dd 60 _ hh.2, by decide, by decide, ?_, rfl, by rw [Bool.and_true]⟩))⟩)
    rw [count_dd hh.1 hh.2]
    rfl
  · cases h4
theorem se_pop : SE K c (tBM0 K "list" rPop (tVar i)) (mPop i) := fun τ r τ' k h => by
  obtain ⟨l, ds, d, h1, h2, rfl, rfl, rfl⟩ := mPop_inv h
  refine w_pop (lc_own h1) (by rw [ddL_length]; exact ddL_get h2) ⟨rfl, ?_, rfl⟩
  rw [lc_set, ← ddL_dropLast]
  rfl
theorem se_popAt (ha : SE K c ta a) : SE K c (tBM K "list" rPopAt (tVar i) (tCons ta tNil)) (mPopAt i a) := fun τ r τ' k h => by
  obtain ⟨l, ds0, n, τ1, b1, ds, d, h1, h2, h3, h4, h5, rfl, rfl, rfl⟩ := mPopAt_inv h
  refine w_popAt (lc_own h1) (ha.to h2 ⟨_, _, n.toNat, lc_own h4, ?_, by omega, ddL_get h5, rfl, ?_, rfl⟩)
  · show Tg.dat (.int n) = _
    rw [Int.toNat_of_nonneg h3.1]
  · rw [lc_set, ← ddL_erase]
    rfl
/-! ### calls -/
/-- what a def does -/
def SemS (K : PySem.W.Frag) (S : Sem) : Spec := fun as Ψ _ => ∃ as0 r as', as = as0.map (tg K) ∧ S as0 = .v r as' ∧ Ψ (tg K r) (as'.map (tg K))
/-- a scalar is data wherever it is seen -/
theorem w_scal {d : DD} (hs : scal d = true) (h : W c te (lc K τ) fun x τ1 b1 => x = .tmp d ∧ Φ (.dat d) τ1 b1) : W c te (lc K τ) Φ := fun σ G H F o Q q =>
  h σ G H F o _ fun x G1 H1 F1 rx τ1 b1 p1 g1 s1 => by
    obtain ⟨rfl, k⟩ := p1
    exact q x G1 H1 F1 _ τ1 b1 k g1 (scal_any hs s1)
/-- what a value handed back is for the one that called -/
theorem w_dem {x : Vt} (h : W c te (lc K τ) fun r τ1 b1 => r = dem (tg K x) ∧ Φ (tg K (demV x)) τ1 b1) : W c te (lc K τ) Φ := by
  have go : ∀ d : D, (W c te (lc K τ) fun r τ1 b1 => r = .tmp (dd K d) ∧ Φ (tg K (if scalD d = true then .dat d else .tmp d)) τ1 b1) → W c te (lc K τ) Φ := fun d h => by
    by_cases hs : scalD d = true
    · rw [if_pos hs] at h
      exact w_scal (by rw [scal_dd]; exact hs) h
    · rw [if_neg hs] at h
      refine W.imp h fun r τ1 b1 z => ?_
      obtain ⟨rfl, z⟩ := z
      exact z
  have st : (W c te (lc K τ) fun r τ1 b1 => r = tg K x ∧ Φ (tg K x) τ1 b1) → W c te (lc K τ) Φ := fun h => by
    refine W.imp h fun r τ1 b1 z => ?_
    obtain ⟨rfl, z⟩ := z
    exact z
  cases x with
  | vol d => exact go d h
  | tmp d => exact go d h
  | dat d => exact st h
  | own l o => exact st h
  | ali i => exact st h
/-- a value that is seen, a scalar, as data -/
inductive Argz (τ : Lc) : Tg → Tg → Prop
  | arg {r a : Tg} (h : Arg τ r a) : Argz τ r a
  | sc {r : Tg} {d : DD} (hs : scal d = true) (h : Dv τ r d) : Argz τ r (.dat d)
inductive Argzs (τ : Lc) : List Tg → List Tg → Prop
  | nil : Argzs τ [] []
  | cons {r a : Tg} {rs as : List Tg} (h : Argz τ r a) (t : Argzs τ rs as) : Argzs τ (r :: rs) (a :: as)
/-- the values in flight with scalars told as data -/
def ups (τ : Lc) (rs rs' : List Tg) : Prop := ∀ {c : Cfg} {σ : L2.St} {H0 G H : Hp} {F : Nat → Addr → Prop} {vs : List V}, Ok c τ σ G H F → Paired (Rs c σ H0 G H F) rs vs → Paired (Rs c σ H0 G H F) rs' vs
theorem Argzs.up {τ : Lc} : ∀ {rs as : List Tg}, Argzs τ rs as → ∃ rs', Args τ rs' as ∧ ups τ rs rs'
  | _, _, .nil => ⟨[], .nil, fun _ p => p⟩
  | _, _, .cons h t => by
    obtain ⟨rs', h1, h2⟩ := Argzs.up t
    cases h with
    | arg h =>
      refine ⟨_ :: rs', .cons h h1, fun o p => ?_⟩
      cases p with
      | cons x y => exact .cons x (h2 o y)
    | sc hs h =>
      refine ⟨.dat _ :: rs', .cons .dd h1, fun o p => ?_⟩
      cases p with
      | cons x y => exact .cons (scal_any hs (h.rep o x)) (h2 o y)
theorem wa_up {ΦA : List Tg → Lc → Bool → Prop} {τ : Lc} (h : WA c t τ fun rs τ1 b1 => ∃ rs', ups τ1 rs rs' ∧ ΦA rs' τ1 b1) : WA c t τ ΦA := fun σ G H F o Q q =>
  h σ G H F o Q fun vs G1 H1 F1 rs τ1 b1 p1 g1 s1 => by
    obtain ⟨rs', hu, k⟩ := p1
    exact q vs G1 H1 F1 rs' τ1 b1 k g1 (hu g1.ok s1)
end
end Z
set_option Elab.async false
set_option linter.all false
set_option maxRecDepth 100000
/-! S3: calls, tests, walks, targets. -/
namespace Z
open PySem PySem.Spec PyProof.Rows L2
section
variable {K : PySem.W.Frag} {c : Cfg} {te ta tb tc : TE} {t : TA} {tt tu : TT} {a b e m : ME} {u : MA} {p q : MT} {τ τ' : Ls} {r : Vt} {k : Bool} {i j : Nat} {Φ : Tg → Lc → Bool → Prop} {S : Sem} {E : XK}
theorem argV_arg {x y : Vt} (h : argV τ x = some y) : Argz (lc K τ) (tg K x) (tg K y) := by
  have go : ∀ {x : Vt}, (match see τ x with
    | none => none
    | some d => if scalD d = true then some (Vt.dat d) else some (.vol d)) = some y → Argz (lc K τ) (tg K x) (tg K y) := fun {x} h => by
    split at h
    · cases h
    · split at h <;> cases h
      · exact .sc (by rw [scal_dd]; assumption) (see_dv (by assumption))
      · exact .arg (.dv (see_dv (by assumption)))
  unfold argV at h
  split at h
  · cases h; exact .arg .dd
  · exact go h
theorem argsV_args : ∀ {xs ys : List Vt}, argsV τ xs = some ys → Argzs (lc K τ) (xs.map (tg K)) (ys.map (tg K))
  | [], ys, h => by cases h; exact .nil
  | x :: xs, ys, h => by
    unfold argsV at h
    split at h
    · cases h
    · split at h <;> cases h
      exact .cons (argV_arg (by assumption)) (argsV_args (by assumption))
inductive Argz1 (τ : Lc) (j : Nat) : Tg → Tg → Prop
  | arg {r a : Tg} (h : Arg1 τ j r a) : Argz1 τ j r a
  | sc {r : Tg} {d : DD} (hs : scal d = true) (h : Dv τ r d) : Argz1 τ j r (.dat d)
inductive Argzs1 (τ : Lc) (j : Nat) : List Tg → List Tg → Prop
  | nil : Argzs1 τ j [] []
  | cons {r a : Tg} {rs as : List Tg} (h : Argz1 τ j r a) (t : Argzs1 τ j rs as) : Argzs1 τ j (r :: rs) (a :: as)
theorem Argzs1.up {τ : Lc} {j : Nat} : ∀ {rs as : List Tg}, Argzs1 τ j rs as → ∃ rs', Args1 τ j rs' as ∧ ups τ rs rs'
  | _, _, .nil => ⟨[], .nil, fun _ p => p⟩
  | _, _, .cons h t => by
    obtain ⟨rs', h1, h2⟩ := Argzs1.up t
    cases h with
    | arg h =>
      refine ⟨_ :: rs', .cons h h1, fun o p => ?_⟩
      cases p with
      | cons x y => exact .cons x (h2 o y)
    | sc hs h =>
      refine ⟨.dat _ :: rs', .cons .dd h1, fun o p => ?_⟩
      cases p with
      | cons x y => exact .cons (scal_any hs (h.rep o x)) (h2 o y)
theorem argV_arg1 {x y : Vt} (h : argV τ x = some y) (hn : neAli j x = true) : Argz1 (lc K τ) j (tg K x) (tg K y) := by
  cases x with
  | dat d => cases h; exact .arg .dd
  | vol d =>
    by_cases hs : scalD d = true
    · have e : argV τ (.vol d) = some (.dat d) := by simp [argV, see, hs]
      rw [e] at h
      cases h
      exact .sc (by rw [scal_dd]; exact hs) .vol
    · have e : argV τ (.vol d) = some (.vol d) := by simp [argV, see, hs]
      rw [e] at h
      cases h
      exact .arg (.dv .vol)
  | tmp d =>
    have hs : scalD d = true := hn
    have e : argV τ (.tmp d) = some (.dat d) := by simp [argV, see, hs]
    rw [e] at h
    cases h
    exact .sc (by rw [scal_dd]; exact hs) .tmp
  | own l o =>
    cases l with
    | false => simp [argV, see] at h
    | true => cases o with
      | lst ds =>
        simp [argV, see, scalD] at h
        cases h
        exact .arg (.dv .fre)
      | ins _ _ _ => simp [argV, see] at h
  | ali i =>
    have hij : i ≠ j := by
      have : (i != j) = true := hn
      simpa using this
    unfold argV see at h
    dsimp only at h
    split at h
    · cases h
    · rename_i d hd
      split at hd
      · cases hd
        rename_i hi
        simp [scalD] at h
        cases h
        exact .arg (.dv (.ali hij (lc_own hi)))
      · cases hd
theorem argsV_args1 : ∀ {xs ys : List Vt}, argsV τ xs = some ys → xs.all (neAli j) = true → Argzs1 (lc K τ) j (xs.map (tg K)) (ys.map (tg K))
  | [], ys, h, _ => by cases h; exact .nil
  | x :: xs, ys, h, hn => by
    rw [List.all_cons, Bool.and_eq_true] at hn
    unfold argsV at h
    split at h
    · cases h
    · split at h <;> cases h
      exact .cons (argV_arg1 (by assumption) hn.1) (argsV_args1 (by assumption) hn.2)
theorem argV_head {x y : Vt} (hx : (∃ d, x = .dat d) ∨ ∃ i, x = .ali i) (h : argV τ x = some y) : Arg (lc K τ) (tg K x) (tg K y) := by
  rcases hx with ⟨d, rfl⟩ | ⟨i, rfl⟩
  · cases h
    exact .dd
  · unfold argV see at h
    dsimp only at h
    split at h
    · cases h
    · rename_i d hd
      split at hd
      · cases hd
        rename_i hi
        simp [scalD] at h
        cases h
        exact .dv (.ali (lc_own hi))
      · cases hd
/-- what a call leaves -/
theorem call_of {w : Bool} {τ1 : Ls} {rs : List Vt} {b1 : Bool} (h : callF w S τ1 rs b1 = .v r τ' k) :
    ∃ x, r = demV x ∧ ∃ rs', ups (lc K τ1) (rs.map (tg K)) rs' ∧ ∀ Φ : Tg → Lc → Bool → Prop, Φ (dem (tg K x)) (lc K τ') k → CallOk c (SemS K S) E (lc K τ1) rs' Φ b1 := by
  rcases callF_inv h with ⟨as, x, bs, h1, h2, rfl, rfl, rfl⟩ | ⟨j, rest, l, o, as, x, l2, o', bs, rfl, h1, h2, h3, h4, rfl, rfl, rfl⟩
  · obtain ⟨rs', q1, q2⟩ := (argsV_args (K := K) h1).up
    exact ⟨x, rfl, rs', q2, fun Φ z => ⟨X0, pasX0, .inl ⟨_, q1, _, _, _, rfl, h2, z⟩⟩⟩
  · obtain ⟨rs', q1, q2⟩ := (argsV_args1 (K := K) h3 h2).up
    refine ⟨x, rfl, .ali j :: rs', fun o' p => ?_, fun Φ z => ⟨X0, pasX0, .inr ⟨j, l, ow K o, rs', _, rfl, lc_own h1, q1, _, _, _, rfl, h4, l2, ow K o', rfl, ?_⟩⟩⟩
    · cases p with
      | cons x y => exact .cons x (q2 o' y)
    · rw [lc_set] at z
      exact z
theorem call_ofM {w : Bool} {τ1 : Ls} {x0 : Vt} {rs : List Vt} {b1 : Bool} (hx : (∃ d, x0 = .dat d) ∨ ∃ i, x0 = .ali i) (h : callF w S τ1 (x0 :: rs) b1 = .v r τ' k) :
    ∃ x, r = demV x ∧ ∃ rs', ups (lc K τ1) (rs.map (tg K)) rs' ∧ ∀ Φ : Tg → Lc → Bool → Prop, Φ (dem (tg K x)) (lc K τ') k → CallOk c (SemS K S) E (lc K τ1) (tg K x0 :: rs') Φ b1 := by
  rcases callF_inv h with ⟨as, x, bs, h1, h2, rfl, rfl, rfl⟩ | ⟨j, rest, l, o, as, x, l2, o', bs, he, h1, h2, h3, h4, rfl, rfl, rfl⟩
  · unfold argsV at h1
    split at h1
    · cases h1
    · split at h1 <;> cases h1
      rename_i hy _ ys hys
      obtain ⟨rs', q1, q2⟩ := (argsV_args (K := K) hys).up
      exact ⟨x, rfl, rs', q2, fun Φ z => ⟨X0, pasX0, .inl ⟨_, .cons (argV_head hx hy) q1, _ :: _, _, _, rfl, h2, z⟩⟩⟩
  · cases he
    obtain ⟨rs', q1, q2⟩ := (argsV_args1 (K := K) h3 h2).up
    refine ⟨x, rfl, rs', q2, fun Φ z => ⟨X0, pasX0, .inr ⟨j, l, ow K o, rs', _, rfl, lc_own h1, q1, _, _, _, rfl, h4, l2, ow K o', rfl, ?_⟩⟩⟩
    rw [lc_set] at z
    exact z
theorem se_call {w : Bool} (ht : SA K c t u) : SE K c (tCall (FP (SemS K S)) [] E t) (mCall w S u) := fun τ r τ' k h => by
  obtain ⟨rs, τ1, b1, h1, h2⟩ := mCall_inv h
  obtain ⟨x, rfl, rs', h3, h4⟩ := call_of (K := K) (c := c) (E := E) h2
  exact w_dem (x := x) (w_call (wa_up (ht.to h1 ⟨rs', h3, h4 _ ⟨rfl, rfl, rfl, rfl⟩⟩)))
theorem elem_str {ns : List String} {m : String} (h : ns.contains m = false) : (ns.map Str.ofString).elem (Str.ofString m) = false := by
  rw [Bool.eq_false_iff]
  intro z
  have z1 : Str.ofString m ∈ ns.map Str.ofString := List.mem_of_elem_eq_true z
  obtain ⟨n, h1, h2⟩ := List.mem_map.mp z1
  rw [str_inj h2] at h1
  rw [List.contains_iff_mem.mpr h1] at h
  cases h
theorem isInst_head {n mn : String} {x : Vt} (h : isInst n mn τ x = true) : (∃ d, x = .dat d) ∨ ∃ i, x = .ali i := by
  unfold isInst at h
  split at h
  · exact .inl ⟨_, rfl⟩
  · exact .inr ⟨_, rfl⟩
  · cases h
theorem se_meth {n mn : String} {w : Bool} (ha : SE K c ta a) (ht : SA K c t u) : SE K c (tMeth (He.ga K (Str.ofString n)) (Str.ofString mn) (FP (SemS K S)) [] E ta t) (mMeth n mn w S a u) := fun τ r τ' k h => by
  obtain ⟨x, τ0, b0, rs, τ1, b1, h1, h2, h3, h4, h5⟩ := mMeth_inv h
  obtain ⟨y, rfl, rs', h6, h7⟩ := call_ofM (K := K) (c := c) (E := E) (isInst_head h2) h5
  refine w_dem (x := y) (w_meth (ha.to h1 ⟨?_, wa_up (ht.to h3 ⟨rs', h6, stb_of h4, h7 _ ⟨rfl, rfl, rfl, rfl⟩⟩)⟩))
  unfold isInst at h2
  split at h2
  · rw [Bool.and_eq_true] at h2
    have hc := eq_of_beq h2.1
    subst hc
    exact .inl ⟨_, _, rfl, elem_str (by simpa using h2.2)⟩
  · split at h2
    · rw [Bool.and_eq_true] at h2
      have hc := eq_of_beq h2.1
      subst hc
      rename_i hi
      exact .inr ⟨_, _, _, _, rfl, lc_own hi, elem_str (by simpa using h2.2)⟩
    · cases h2
  · cases h2
theorem se_make {n : String} (ht : SA K c t u) : SE K c (tMake (He.ga K (Str.ofString n)) (FP (SemS K S)) [] E t) (mMake n S u) := fun τ r τ' k h => by
  obtain ⟨rs, as, l, ns, xs, bs, h1, h2, h3, rfl⟩ := mMake_inv h
  obtain ⟨rs', q1, q2⟩ := (argsV_args (K := K) h2).up
  exact w_make (wa_up (ht.to h1 ⟨rs', q2, X0, _, pasX0, q1, .own false (.ins n [] []) :: as, _, _, rfl, h3, rfl, l, ns.map Str.ofString, ddL K xs, rfl, rfl, rfl, rfl⟩))
theorem eqKind_of {n : String} {d : D} (h : eqKind n d = true) (hs : PySem.W.subIn K (.type "tuple") (.ref (He.ga K (Str.ofString n))) = some false) :
    (∃ ms ys, dd K (untpl d) = .obj (He.ga K (Str.ofString n)) ms ys) ∨ (∃ ys, dd K (untpl d) = .tup ys) ∧ PySem.W.subIn K (.type "tuple") (.ref (He.ga K (Str.ofString n))) = some false := by
  unfold eqKind at h
  split at h
  · have hc := eq_of_beq h
    subst hc
    exact .inl ⟨_, _, rfl⟩
  · exact .inr ⟨⟨_, rfl⟩, hs⟩
  · exact .inr ⟨⟨_, rfl⟩, hs⟩
  · cases h
theorem SE.untpl {d : D} (ha : SE K c ta a) (h : a τ = .v (.dat d) τ' k) (z : Φ (.dat (dd K (Z.untpl d))) (lc K τ') k) : W c ta (lc K τ) Φ := by
  cases d with
  | tpl xs => exact w_tpl (ha.to h ⟨_, rfl, z⟩)
  | _ => exact ha.to h z
theorem se_ownEq {n : String} (hs : PySem.W.subIn K (.type "tuple") (.ref (He.ga K (Str.ofString n))) = some false) (ha : SE K c ta a) (hb : SE K c tb b) : SE K c (tOp (rOwnEq K (He.ga K (Str.ofString n)) (FP (SemS K S)) E) ta tb) (mOwnEq false n S a b) := fun τ r τ' k h => by
  obtain ⟨ns, xs, τ1, b1, d, b2, kk, bs, h1, h2, h3, h4, rfl, rfl⟩ := mOwnEq_inv h
  refine w_ownEq (ha.to h1 (hb.untpl h2 ⟨_, _, _, rfl, rfl, eqKind_of h3 hs, X0, pasX0, .inl ⟨_, .cons .dd (.cons .dd .nil), [.dat (.obj n ns xs), .dat (untpl d)], _, _, rfl, h4, kk, rfl, ?_⟩⟩))
  exact ⟨rfl, rfl, rfl⟩
theorem se_ownNe {n : String} (hs : PySem.W.subIn K (.type "tuple") (.ref (He.ga K (Str.ofString n))) = some false) (ha : SE K c ta a) (hb : SE K c tb b) : SE K c (tOp (rOwnNe K (He.ga K (Str.ofString n)) (FP (SemS K S)) E) ta tb) (mOwnEq true n S a b) := fun τ r τ' k h => by
  obtain ⟨ns, xs, τ1, b1, d, b2, kk, bs, h1, h2, h3, h4, rfl, rfl⟩ := mOwnEq_inv h
  refine w_ownNe (ha.to h1 (hb.untpl h2 ⟨_, _, _, rfl, rfl, eqKind_of h3 hs, X0, pasX0, .inl ⟨_, .cons .dd (.cons .dd .nil), [.dat (.obj n ns xs), .dat (untpl d)], _, _, rfl, h4, kk, rfl, ?_⟩⟩))
  exact ⟨rfl, rfl, rfl⟩
theorem se_ownLen {n : String} (ha : SE K c ta a) : SE K c (tCB (rOwnLen (He.ga K (Str.ofString n)) (FP (SemS K S)) E) (tCons ta tNil)) (mOwnLen n S a) := fun τ r τ' k h => by
  obtain ⟨ns, xs, kk, bs, h1, h2, h3, rfl⟩ := mOwnLen_inv h
  exact w_ownLen (ha.to h1 ⟨_, _, rfl, X0, pasX0, .inl ⟨_, .cons .dd .nil, [.dat (.obj n ns xs)], _, _, rfl, h2, kk, rfl, h3.1, h3.2, rfl, rfl, rfl⟩⟩)
theorem se_ownRepr {n : String} (ha : SE K c ta a) : SE K c (tCB (rOwnRepr (He.ga K (Str.ofString n)) (FP (SemS K S)) E) (tCons ta tNil)) (mOwnRepr n S a) := fun τ r τ' k h => by
  obtain ⟨ns, xs, kk, bs, h1, h2, rfl⟩ := mOwnRepr_inv h
  exact w_ownRepr (ha.to h1 ⟨_, _, rfl, X0, pasX0, .inl ⟨_, .cons .dd .nil, [.dat (.obj n ns xs)], _, _, rfl, h2, kk, rfl, rfl, rfl, rfl⟩⟩)
/-! ### tests -/
theorem st_test (ha : SE K c ta a) : ST K c (tTest ta) (mB' a) := fun τ r τ' k h => wt_test (ha.to (mB'_inv h) ⟨_, rfl, rfl, rfl, rfl⟩)
theorem st_B (ha : SE K c ta a) : ST K c (tB ta) (mB' a) := fun τ r τ' k h => wt_B (ha.to (mB'_inv h) ⟨_, rfl, rfl, rfl, rfl⟩)
theorem st_yes : ST K c tYes mYes := fun τ r τ' k h => by cases h; exact wt_yes ⟨rfl, rfl, rfl⟩
theorem st_and (ha : ST K c tt p) (hb : ST K c tu q) : ST K c (tAnd tt tu) (mAnd p q) := fun τ r τ' k h => by
  obtain ⟨x, τ1, b1, h1, ⟨rfl, rfl, rfl, rfl⟩ | ⟨rfl, b2, h2, rfl⟩⟩ := mAnd_inv h
  · exact wt_and (ha.to h1 (by rw [if_neg (by decide)]; exact ⟨rfl, rfl, rfl⟩))
  · exact wt_and (ha.to h1 (by rw [if_pos rfl]; exact hb.to h2 ⟨rfl, rfl, rfl⟩))
theorem st_or (ha : ST K c tt p) (hb : ST K c tu q) : ST K c (tOr tt tu) (mOr p q) := fun τ r τ' k h => by
  obtain ⟨x, τ1, b1, h1, ⟨rfl, rfl, rfl, rfl⟩ | ⟨rfl, b2, h2, rfl⟩⟩ := mOr_inv h
  · exact wt_or (ha.to h1 (by rw [if_pos rfl]; exact ⟨rfl, rfl, rfl⟩))
  · exact wt_or (ha.to h1 (by rw [if_neg (by decide)]; exact hb.to h2 ⟨rfl, rfl, rfl⟩))
theorem st_not (ha : ST K c tt p) : ST K c (tNot tt) (mNot p) := fun τ r τ' k h => by
  obtain ⟨x, h1, rfl⟩ := mNot_inv h
  exact wt_not (ha.to h1 ⟨rfl, rfl, rfl⟩)
/-! ### what is walked -/
theorem rng_its {lo : Int} {n : Nat} : (rngD lo n).map (tgI K) = itsR lo n := by
  unfold rngD itsR
  rw [List.map_map]
  rfl
theorem dwn_its {lo : Int} {n : Nat} : (dwnD lo n).map (tgI K) = itsC lo (-1) n := by
  unfold dwnD itsC
  rw [List.map_map]
  rfl
theorem si_rng1 (ht : SA K c t u) : SI K c (iRng1 t) (mRng1 u) := fun τ r τ' k h => by
  obtain ⟨n, h1, h2, rfl⟩ := mRng1_inv h
  exact wi_range1 (ht.to h1 ⟨_, rfl, h2.1, h2.2, rng_its.symm, rfl, rfl⟩)
theorem si_rng2 (ht : SA K c t u) : SI K c (iRng2 t) (mRng2 u) := fun τ r τ' k h => by
  obtain ⟨m, n, h1, h2, rfl⟩ := mRng2_inv h
  exact wi_range2 (ht.to h1 ⟨_, _, rfl, h2.1, h2.2.1, h2.2.2.1, h2.2.2.2, rng_its.symm, rfl, rfl⟩)
theorem si_rng3 (ht : SA K c t u) : SI K c (iRng3 t) (mRng3 u) := fun τ r τ' k h => by
  obtain ⟨m, n, h1, h2, rfl⟩ := mRng3_inv h
  exact wi_down (ht.to h1 ⟨_, _, rfl, h2.1, h2.2.1, h2.2.2.1, h2.2.2.2, dwn_its.symm, rfl, rfl⟩)
theorem ddm {ds : List D} {f : D → Vt} {g : DD → Tg} (h : ∀ d, tg K (f d) = g (dd K d)) : (ds.map f).map (tg K) = (ddL K ds).map g := by
  rw [ddL_map, List.map_map, List.map_map]
  exact List.map_congr_left fun d _ => h d
theorem src_of {x : Vt} {ts : List Vt} (h : srcV x = some ts) : Src (tg K x) (isLst x) (ts.map (tg K)) := by
  unfold srcV at h
  split at h <;> cases h
  · rw [ddm (g := .dat) fun _ => rfl]; exact .datL
  · rw [ddm (g := .dat) fun _ => rfl]; exact .datT
  · rw [ddm (g := .dat) fun _ => rfl]; exact .datP
  · rw [ddm (g := .vol) fun _ => rfl]; exact .volL
  · rw [ddm (g := .vol) fun _ => rfl]; exact .volT
  · rw [ddm (g := .vol) fun _ => rfl]; exact .volP
theorem seq_of {x : Vt} {ts : List Vt} (h : srcV x = some ts) : ∃ f ds, SqQ (tg K x) f ds ∧ (ts.map It1.one).map (tgI K) = itsS f ds := by
  have e : ∀ {ds : List D} {f : D → Vt} {g : DD → Tg}, (∀ d, tg K (f d) = g (dd K d)) → ((ds.map f).map It1.one).map (tgI K) = itsS g (ddL K ds) := fun {ds f g} h => by
    unfold itsS
    rw [ddL_map, List.map_map, List.map_map, List.map_map]
    exact List.map_congr_left fun d _ => congrArg Itm.one (h d)
  unfold srcV at h
  split at h <;> cases h
  · exact ⟨_, _, .lst, e fun _ => rfl⟩
  · exact ⟨_, _, .tup, e fun _ => rfl⟩
  · exact ⟨_, _, .tpl, e fun _ => rfl⟩
  · exact ⟨_, _, .vlst, e fun _ => rfl⟩
  · exact ⟨_, _, .vtup, e fun _ => rfl⟩
  · exact ⟨_, _, .vtpl, e fun _ => rfl⟩
theorem si_seq (ha : SE K c ta a) : SI K c (iSeq K ta) (mSeqI a) := fun τ r τ' k h => by
  obtain ⟨x, ts, h1, h2, rfl⟩ := mSeqI_inv h
  obtain ⟨f, ds, h3, h4⟩ := seq_of (K := K) h2
  exact wi_seqQ (ha.to h1 ⟨f, ds, h3, h4.symm, rfl, rfl⟩)
theorem enum_its {f : D → Vt} {g : DD → Tg} (h : ∀ d, tg K (f d) = g (dd K d)) (ds : List D) (n : Nat) : (enumD n (ds.map f)).map (tgI K) = (List.range' n ds.length).zipWith (fun k d => Itm.two (.dat (.int (k : Nat))) (g d)) (ddL K ds) := by
  induction ds generalizing n with
  | nil => rfl
  | cons d ds ih =>
    rw [List.map_cons, enumD, List.map_cons, ih, List.length_cons, List.range'_succ, ddL, List.zipWith_cons_cons]
    exact congrArg (· :: _) (by rw [tgI, h]; rfl)
theorem enum_of {x : Vt} {ts : List Vt} (ho : enOk x = true) (h : srcV x = some ts) : ∃ f ds, EnQ (tg K x) f ds ∧ (enumD 0 ts).map (tgI K) = itsE f ds := by
  have e : ∀ {ds : List D} {f : D → Vt} {g : DD → Tg}, (∀ d, tg K (f d) = g (dd K d)) → (enumD 0 (ds.map f)).map (tgI K) = itsE g (ddL K ds) := fun {ds f g} h => by
    rw [enum_its h, itsE, ddL_length, List.range_eq_range']
  unfold srcV at h
  split at h <;> cases h
  · exact ⟨_, _, .lst, e fun _ => rfl⟩
  · exact ⟨_, _, .tup, e fun _ => rfl⟩
  · exact ⟨_, _, .tpl, e fun _ => rfl⟩
  · exact ⟨_, _, .vlst, e fun _ => rfl⟩
  · cases ho
  · cases ho
theorem si_enum (ht : SA K c t u) : SI K c (iEnumA K t) (mEnum u) := fun τ r τ' k h => by
  obtain ⟨x, ts, h1, h0, h2, rfl⟩ := mEnum_inv h
  obtain ⟨f, ds, h3, h4⟩ := enum_of (K := K) h0 h2
  exact wi_enumQ (ht.to h1 ⟨_, f, ds, rfl, h3, h4.symm, rfl, rfl⟩)
theorem si_zip (ht : SA K c t u) : SI K c (RZ.iZipA K t) (mZip u) := fun τ r τ' k h => by
  obtain ⟨x, y, ts, us, h1, h2, h3, h4, rfl⟩ := mZip_inv h
  have q1 := src_of (K := K) h3
  have q2 := src_of (K := K) h4
  rw [← h2] at q2
  refine wi_zip (ht.to h1 ⟨_, _, _, _, _, rfl, q1, q2, ?_, rfl, rfl⟩)
  rw [List.map_zipWith, List.zipWith_map]
  rfl
end
end Z
set_option Elab.async false
set_option linter.all false
set_option maxRecDepth 100000
/-! S4: targets, statements, loops, bodies. -/
namespace Z
open PySem PySem.Spec PyProof.Rows L2
def SG (K : PySem.W.Frag) (c : Cfg) (g : TG) (m : MG) : Prop := ∀ x τ τ', m x τ = some τ' → WG c g (tg K x) (lc K τ) fun τ'' => τ'' = lc K τ'
def SGI (K : PySem.W.Frag) (c : Cfg) (g : TG) (m : MGI) : Prop := ∀ x τ τ', m x τ = some τ' → WGI c g (tgI K x) (lc K τ) fun τ'' => τ'' = lc K τ'
def Ss (K : PySem.W.Frag) (o : So) : AE where
  nx := fun τ' => ∃ σ, o = .nx σ ∧ τ' = lc K σ
  rt := fun r τ' => ∃ r0 σ, o = .rt r0 σ ∧ r = tg K r0 ∧ τ' = lc K σ
  bk := fun τ' => ∃ σ, o = .bk σ ∧ τ' = lc K σ
  ct := fun τ' => ∃ σ, o = .ct σ ∧ τ' = lc K σ
def SS (K : PySem.W.Frag) (c : Cfg) (ts : TS) (m : MS) : Prop := ∀ τ, m τ ≠ .no → WS c ts (lc K τ) (Ss K (m τ))
section
variable {K : PySem.W.Frag} {c : Cfg} {te ta tb tc : TE} {t : TA} {tt tu : TT} {ts us : TS} {a b e : ME} {m n : MS} {u : MA} {p q : MT} {τ τ' : Ls} {r : Vt} {k : Bool} {i j : Nat} {S : Sem} {E : XK} {g1 g2 : TG} {h1 h2 : MG} {A : AE} {N : Lc → Prop}
theorem SG.to {x : Vt} (h : SG K c g1 h1) (e : h1 x τ = some τ') (z : N (lc K τ')) : WG c g1 (tg K x) (lc K τ) N := fun σ G H F v o s Q q => h _ _ _ e σ G H F v o s Q fun τ2 σ' G' H' F' y => by
  subst y
  exact q _ σ' G' H' F' z
theorem SGI.to {m : MGI} {x : It1} (h : SGI K c g1 m) (e : m x τ = some τ') (z : N (lc K τ')) : WGI c g1 (tgI K x) (lc K τ) N := fun σ G H F v H' o s Q q => h _ _ _ e σ G H F v H' o s Q fun τ2 σ' G' H' F' y => by
  subst y
  exact q _ σ' G' H' F' z
theorem SS.to (h : SS K c ts m) (hn : m τ ≠ .no) (z1 : ∀ σ, m τ = .nx σ → A.nx (lc K σ)) (z2 : ∀ r σ, m τ = .rt r σ → A.rt (tg K r) (lc K σ)) (z3 : ∀ σ, m τ = .bk σ → A.bk (lc K σ)) (z4 : ∀ σ, m τ = .ct σ → A.ct (lc K σ)) : WS c ts (lc K τ) A :=
  WS.imp (h τ hn) (fun τ2 z => by obtain ⟨σ, y1, rfl⟩ := z; exact z1 σ y1) (fun r τ2 z => by obtain ⟨r0, σ, y1, rfl, rfl⟩ := z; exact z2 r0 σ y1) (fun τ2 z => by obtain ⟨σ, y1, rfl⟩ := z; exact z3 σ y1) (fun τ2 z => by obtain ⟨σ, y1, rfl⟩ := z; exact z4 σ y1)
theorem nr_tg {x : Option Vt} (h : nrV x = true) : nr (x.map (tg K)) = true := by
  cases x with
  | none => rfl
  | some x => cases x with
    | own l o => cases l <;> first | rfl | exact h
    | _ => rfl
theorem wg_volS {d : DD} (hs : scal d = true) {τ : Lc} (h : WG c g1 (.dat d) τ N) : WG c g1 (.vol d) τ N := fun σ G H F v o s Q q => h σ G H F v o (sl_scal hs s) Q fun τ2 σ' G' H' F' y o' f hp => q τ2 σ' G' H' F' y o' f fun _ => hp .dat
theorem sg_name : SG K c (gName i) (stName i) := fun x τ τ' h => by
  obtain ⟨t, u, h1, h2, h3, rfl⟩ := stName_inv h
  have hi : i < (lc K τ).length := by
    rw [lc_len]
    exact (List.getElem?_eq_some_iff.mp h2).1
  have hf : free (lc K τ) i := free_of (lc_get h2) (nr_tg h3)
  have dn : ∀ {x : Vt}, Stk (tg K x) (tg K t) → WG c (gName i) (tg K x) (lc K τ) fun τ'' => τ'' = lc K (τ.set i (some t)) := fun hs => wg_name hs hf hi (by rw [lc_set]; rfl)
  unfold stkV at h1
  split at h1
  · cases h1; exact dn .dat
  · cases h1
    rename_i d
    by_cases hs : scalD d = true
    · have e : seenV .vol d = .dat d := by simp [seenV, hs]
      rw [e] at dn ⊢
      exact wg_volS (by rw [scal_dd]; exact hs) (wg_name .dat hf hi (by rw [lc_set]; rfl))
    · have e : seenV .vol d = .vol d := by simp [seenV, hs]
      rw [e] at dn ⊢
      exact dn .vol
  · cases h1; exact dn .res
  · cases h1
theorem sgi_name : SGI K c (gName i) (sgName i) := fun x τ τ' h => by
  obtain ⟨t, rfl, hp, h1⟩ := sgName_inv h
  cases t with
  | dat d => exact wgi_dat (sg_name _ _ _ h1)
  | vol d => exact wgi_vol (sg_name _ _ _ h1)
  | tmp d => cases hp
  | own l o => cases hp
  | ali i => cases hp
theorem pl_tg {t : Vt} (h : plV t = true) : Pl (tg K t) := by
  cases t with
  | dat d => exact .dat
  | vol d => exact .vol
  | _ => cases h
theorem sg_tup2 (q1 : SG K c g1 h1) (q2 : SG K c g2 h2) : SG K c (gTup K 2 (gCons g1 (gCons g2 gNil))) (stTup2 h1 h2) := fun x τ τ' h => by
  obtain ⟨d, e, τ1, hx | hx, z1, z2⟩ := stTup2_inv h
  · subst hx
    exact wg_tup2 (q1.to z1 (q2.to z2 rfl))
  · subst hx
    have z : WG c (gTup K 2 (gCons g1 (gCons g2 gNil))) (.dat (.tup [dd K d, dd K e])) (lc K τ) fun τ'' => τ'' = lc K τ' := wg_tup2 (q1.to z1 (q2.to z2 rfl))
    exact fun σ G H F v o s Q q => z σ G H F v o (tpl_tup s) Q fun τ2 σ' G' H' F' y o' f hp => q τ2 σ' G' H' F' y o' f fun _ => hp .dat
theorem sgi_tup2 (q1 : SG K c g1 h1) (q2 : SG K c g2 h2) : SGI K c (gTup K 2 (gCons g1 (gCons g2 gNil))) (sgTup2 h1 h2) := fun x τ τ' h => by
  rcases sgTup2_inv h with ⟨t, rfl, z⟩ | ⟨t, u, τ1, rfl, p1, p2, z1, z2⟩
  · obtain ⟨d, e, τ1, hx | hx, z1, z2⟩ := stTup2_inv z
    · subst hx
      exact wgi_dat (sg_tup2 q1 q2 _ _ _ z)
    · subst hx
      exact wgi_dat (sg_tup2 q1 q2 _ _ _ z)
  · exact wgi_two (pl_tg p1) (pl_tg p2) (q1.to z1 (q2.to z2 rfl))
/-! ### statements -/
theorem ss_ret (ha : SE K c ta a) : SS K c (tRet ta) (mRet a) := fun τ hn => by
  obtain ⟨r, σ, e⟩ := mRet_only hn
  rw [e]
  obtain ⟨x, b1, z1, ⟨i, o, rfl, z2, rfl⟩ | ⟨rfl, z2⟩⟩ := mRet_inv e
  · exact ws_ret (ha.to z1 ⟨_, .ali (lc_own z2), _, _, rfl, rfl, rfl⟩)
  · rcases z2 with ⟨d, rfl⟩ | ⟨d, rfl⟩ | ⟨d, rfl⟩ | ⟨o, rfl⟩
    · exact ws_ret (ha.to z1 ⟨_, .dat, .dat d, _, rfl, rfl, rfl⟩)
    · exact ws_ret (ha.to z1 ⟨_, .vol, .vol d, _, rfl, rfl, rfl⟩)
    · exact ws_ret (ha.to z1 ⟨_, .tmp, .tmp d, _, rfl, rfl, rfl⟩)
    · exact ws_ret (ha.to z1 ⟨_, .res, .own true o, _, rfl, rfl, rfl⟩)
theorem ss_retN : SS K c tRetN mRetN := fun τ hn => ws_retN ⟨.dat .non, _, rfl, rfl, rfl⟩
theorem ss_next : SS K c tNext mNext := fun τ hn => ws_next ⟨_, rfl, rfl⟩
theorem ss_brk : SS K c tBreak mBrk := fun τ hn => ws_brk ⟨_, rfl, rfl⟩
theorem ss_cont : SS K c tCont mCont := fun τ hn => ws_cont ⟨_, rfl, rfl⟩
theorem ss_never : SS K c tNever mNever := fun τ hn => absurd rfl hn
theorem ss_seq (ha : SS K c ts m) (hb : SS K c us n) : SS K c (tSeq ts us) (mSeq m n) := fun τ hn => by
  have key : mSeq m n τ = match m τ with
    | .nx τ1 => n τ1
    | o => o := rfl
  cases e : m τ with
  | no => rw [key, e] at hn; exact absurd rfl hn
  | nx σ =>
    rw [key, e] at hn ⊢
    refine ws_seq (ha.to (by rw [e]; exact fun z => nomatch z) (fun σ' z => ?_) (fun r σ' z => ?_) (fun σ' z => ?_) (fun σ' z => ?_))
    · rw [e] at z; cases z
      exact hb σ hn
    · rw [e] at z; cases z
    · rw [e] at z; cases z
    · rw [e] at z; cases z
  | rt r σ =>
    rw [key, e]
    refine ws_seq (ha.to (by rw [e]; exact fun z => nomatch z) (fun σ' z => ?_) (fun r σ' z => ?_) (fun σ' z => ?_) (fun σ' z => ?_))
    · rw [e] at z; cases z
    · rw [e] at z; cases z
      exact ⟨_, _, rfl, rfl, rfl⟩
    · rw [e] at z; cases z
    · rw [e] at z; cases z
  | bk σ =>
    rw [key, e]
    refine ws_seq (ha.to (by rw [e]; exact fun z => nomatch z) (fun σ' z => ?_) (fun r σ' z => ?_) (fun σ' z => ?_) (fun σ' z => ?_))
    · rw [e] at z; cases z
    · rw [e] at z; cases z
    · rw [e] at z; cases z
      exact ⟨_, rfl, rfl⟩
    · rw [e] at z; cases z
  | ct σ =>
    rw [key, e]
    refine ws_seq (ha.to (by rw [e]; exact fun z => nomatch z) (fun σ' z => ?_) (fun r σ' z => ?_) (fun σ' z => ?_) (fun σ' z => ?_))
    · rw [e] at z; cases z
    · rw [e] at z; cases z
    · rw [e] at z; cases z
    · rw [e] at z; cases z
      exact ⟨_, rfl, rfl⟩
theorem ss_if (ht : ST K c tt p) (ha : SS K c ts m) (hb : SS K c us n) : SS K c (tIfS tt ts us) (mIfS p m n) := fun τ hn => by
  have key : mIfS p m n τ = match p τ with
    | .v k τ1 _ => (if k = true then m else n) τ1
    | .no => .no := rfl
  cases e : p τ with
  | no => rw [key, e] at hn; exact absurd rfl hn
  | v k τ1 b1 =>
    rw [key, e] at hn ⊢
    refine ws_if (ht.to e ?_)
    cases k with
    | true => exact ha τ1 hn
    | false => exact hb τ1 hn
theorem ss_drop (ha : SE K c ta a) : SS K c (tDrop ta) (mDrop a) := fun τ hn => by
  have key : mDrop a τ = match a τ with
    | .v _ τ1 _ => .nx τ1
    | .no => .no := rfl
  cases e : a τ with
  | no => rw [key, e] at hn; exact absurd rfl hn
  | v x τ1 b1 =>
    rw [key, e]
    exact ws_expr (ha.to e ⟨_, rfl, rfl⟩)
theorem ss_asg (ha : SE K c ta a) (hg : SG K c g1 h1) : SS K c (tAsg ta g1) (mAsg a h1) := fun τ hn => by
  have key : mAsg a h1 τ = match a τ with
    | .no => .no
    | .v x τ1 _ => match h1 x τ1 with
      | some τ2 => .nx τ2
      | none => .no := rfl
  cases e : a τ with
  | no => rw [key, e] at hn; exact absurd rfl hn
  | v x τ1 b1 =>
    rw [key, e] at hn ⊢
    dsimp only at hn ⊢
    cases e2 : h1 x τ1 with
    | none => rw [e2] at hn; exact absurd rfl hn
    | some τ2 =>
      refine ws_asg (ha.to e (hg.to e2 ⟨_, rfl, rfl⟩))
theorem only_par {i j : Nat} (hn : mPar i j a b τ ≠ .no) : ∃ σ, mPar i j a b τ = .nx σ := by
  cases e : mPar i j a b τ with
  | nx σ => exact ⟨σ, rfl⟩
  | no => exact absurd e hn
  | rt r σ => unfold mPar at e; (repeat' (split at e)) <;> cases e
  | bk σ => unfold mPar at e; (repeat' (split at e)) <;> cases e
  | ct σ => unfold mPar at e; (repeat' (split at e)) <;> cases e
theorem stk_tg {x t : Vt} (h : stkV x = some t) : Stk (tg K x) (tg K t) ∨ ∃ d, x = .vol d ∧ scalD d = true ∧ t = .dat d := by
  unfold stkV at h
  split at h
  · cases h; exact .inl .dat
  · cases h
    rename_i d
    by_cases hs : scalD d = true
    · exact .inr ⟨d, rfl, hs, by simp [seenV, hs]⟩
    · have e : seenV .vol d = .vol d := by simp [seenV, hs]
      rw [e]
      exact .inl .vol
  · cases h; exact .inl .res
  · cases h
/-- a scalar that is seen, as data -/
theorem w_volS {d : DD} {τ : Lc} {Φ : Tg → Lc → Bool → Prop} (hs : scal d = true) (h : W c te τ fun x τ1 b1 => x = .vol d ∧ Φ (.dat d) τ1 b1) : W c te τ Φ := fun σ G H F o Q q =>
  h σ G H F o _ fun x G1 H1 F1 rx τ1 b1 p1 g1 s1 => by
    obtain ⟨rfl, k⟩ := p1
    obtain ⟨Gv, h1, h2⟩ := s1
    exact q x G1 H1 F1 _ τ1 b1 k g1 (scal_any hs h2)
theorem se_stk {x t : Vt} {Φ : Tg → Lc → Bool → Prop} (ha : SE K c ta a) (h : a τ = .v x τ' k) (hs : stkV x = some t) (z : ∀ y, Stk y (tg K t) → (∀ b, stbV x b = true → stb y b = true) → Φ y (lc K τ') k) : W c ta (lc K τ) Φ := by
  rcases stk_tg (K := K) hs with h1 | ⟨d, rfl, h1, rfl⟩
  · exact ha.to h (z _ h1 fun b q => stb_of q)
  · exact w_volS (by rw [scal_dd]; exact h1) (ha.to h ⟨rfl, z _ .dat fun _ _ => rfl⟩)
theorem ss_par (ha : SE K c ta a) (hb : SE K c tb b) : SS K c (tPar i j (tCons ta (tCons tb tNil))) (mPar i j a b) := fun τ hn => by
  obtain ⟨σ, e⟩ := only_par hn
  rw [e]
  obtain ⟨x, τ1, b1, y, τ2, b2, t, u, p, q, z1, z2, z3, z4, z5, z6, z7, z8, z9, z10, rfl⟩ := mPar_inv e
  refine ws_parQ (se_stk ha z1 z5 fun x' s1 s2 => se_stk hb z2 z6 fun y' s3 s4 => ⟨s2 _ z3, _, _, s1, s3, free_of (lc_get z7) (nr_tg z9), free_of (lc_get z8) (nr_tg z10), z4, ?_, ?_, _, rfl, ?_⟩)
  · rw [lc_len]; exact (List.getElem?_eq_some_iff.mp z7).1
  · rw [lc_len]; exact (List.getElem?_eq_some_iff.mp z8).1
  · rw [lc_set, lc_set]; rfl
theorem ss_aug {f : Int → Int → Int} (ha : SE K c ta a) : SS K c (tAug i ta (ipI f)) (mAug f i a) := fun τ hn => by
  have hx : ∃ σ, mAug f i a τ = .nx σ := by
    cases e : mAug f i a τ with
    | nx σ => exact ⟨σ, rfl⟩
    | no => exact absurd e hn
    | rt r σ => unfold mAug at e; (repeat' (split at e)) <;> cases e
    | bk σ => unfold mAug at e; (repeat' (split at e)) <;> cases e
    | ct σ => unfold mAug at e; (repeat' (split at e)) <;> cases e
  obtain ⟨σ, e⟩ := hx
  rw [e]
  obtain ⟨x, y, τ2, b2, u, z1, z2, z3, z4, rfl⟩ := mAug_inv e
  refine ws_aug (lc_dat z1) (ha.to z2 ⟨_, rfl, ?_, free_of (lc_get z3) (nr_tg z4), _, rfl, ?_⟩)
  · rw [lc_len]; exact (List.getElem?_eq_some_iff.mp z3).1
  · rw [lc_set]; rfl
theorem ss_augI {f : Int → Int → Int} {x : Nat} (ha : SE K c ta a) : SS K c (tAugS (tVar i) (tC (.int (x : Nat))) ta rGetL (ipI f) rSetL) (mAugI f i x a) := fun τ hn => by
  have hx : ∃ σ, mAugI f i x a τ = .nx σ := by
    cases e : mAugI f i x a τ with
    | nx σ => exact ⟨σ, rfl⟩
    | no => exact absurd e hn
    | rt r σ => unfold mAugI at e; (repeat' (split at e)) <;> cases e
    | bk σ => unfold mAugI at e; (repeat' (split at e)) <;> cases e
    | ct σ => unfold mAugI at e; (repeat' (split at e)) <;> cases e
  obtain ⟨σ, e⟩ := hx
  rw [e]
  obtain ⟨l, ds0, x, y, τ2, b2, ds, z1, z2, z3, z4, z5, rfl⟩ := mAugI_inv e
  refine ws_augI (lc_own z1) (ddL_get z2) (ha.to z3 ⟨_, _, lc_own z4, rfl, by rw [ddL_length]; exact z5, _, rfl, ?_⟩)
  rw [lc_set, Option.map_some, tg, ow, ddL_set]
  rfl
theorem ss_setI (ha : SE K c ta a) (hb : SE K c tb b) : SS K c (tAsg ta (L2.gSub (tVar i) tb rSetL)) (mSetI i a b) := fun τ hn => by
  have hx : ∃ σ, mSetI i a b τ = .nx σ := by
    cases e : mSetI i a b τ with
    | nx σ => exact ⟨σ, rfl⟩
    | no => exact absurd e hn
    | rt r σ => unfold mSetI at e; (repeat' (split at e)) <;> cases e
    | bk σ => unfold mSetI at e; (repeat' (split at e)) <;> cases e
    | ct σ => unfold mSetI at e; (repeat' (split at e)) <;> cases e
  obtain ⟨σ, e⟩ := hx
  rw [e]
  obtain ⟨d, τ1, b1, l, ds0, n, τ2, b2, ds, z1, z2, z3, z4, z5, z6, rfl⟩ := mSetI_inv e
  refine ws_setQ (ha.to z1 ⟨l, _, _, rfl, lc_own z2, hb.to z3 ⟨_, n.toNat, lc_own z4, ?_, by rw [ddL_length]; exact z6, _, rfl, ?_⟩⟩)
  · show Tg.dat (.int n) = _
    rw [Int.toNat_of_nonneg z5]
  · rw [lc_set, Option.map_some, tg, ow, ddL_set]
theorem ss_app (ha : SE K c ta a) : SS K c (tDrop (tBM K "list" rAppend (tVar i) (tCons ta tNil))) (mApp i a) := fun τ hn => by
  have hx : ∃ σ, mApp i a τ = .nx σ := by
    cases e : mApp i a τ with
    | nx σ => exact ⟨σ, rfl⟩
    | no => exact absurd e hn
    | rt r σ => unfold mApp at e; (repeat' (split at e)) <;> cases e
    | bk σ => unfold mApp at e; (repeat' (split at e)) <;> cases e
    | ct σ => unfold mApp at e; (repeat' (split at e)) <;> cases e
  obtain ⟨σ, e⟩ := hx
  rw [e]
  obtain ⟨l, ds0, d, τ1, b1, ds, z1, z2, z3, z4, rfl⟩ := mApp_inv e
  refine ws_app (lc_own z1) (ha.to z2 ⟨_, _, lc_own z3, rfl, by rw [ddL_length]; exact z4, _, rfl, ?_⟩)
  rw [lc_set, Option.map_some, tg, ow, ddL_append]
  rfl
theorem putN_str {f : String} : ∀ {ns : List String}, (putNP f ns).map Str.ofString = putN (Str.ofString f) (ns.map Str.ofString)
  | [] => rfl
  | n :: ns => by
    unfold putNP
    rw [List.map_cons]
    unfold putN
    by_cases e : n = f
    · rw [if_pos e, if_pos (congrArg _ e), List.map_cons]
    · rw [if_neg e, if_neg (fun z => e (str_inj z)), List.map_cons, putN_str]
theorem putX_dd {f : String} {d : D} : ∀ {ns : List String} {xs : List D}, ddL K (putXP f d ns xs) = putX (Str.ofString f) (dd K d) (ns.map Str.ofString) (ddL K xs)
  | [], xs => by cases xs <;> rfl
  | n :: ns, [] => rfl
  | n :: ns, x :: xs => by
    unfold putXP
    rw [List.map_cons, ddL]
    unfold putX
    by_cases e : n = f
    · rw [if_pos e, if_pos (congrArg _ e)]
      rfl
    · rw [if_neg e, if_neg (fun z => e (str_inj z)), ddL, putX_dd]
theorem ss_fld {n f : String} (hc : Cls K (He.ga K (Str.ofString n))) (hn : NoAttr K (He.ga K (Str.ofString n)) (Str.ofString f)) (ha : SE K c ta a) : SS K c (sFld K (tVar i) ta (Str.ofString f)) (mFldS n f i a) := fun τ hh => by
  have hx : ∃ σ, mFldS n f i a τ = .nx σ := by
    cases e : mFldS n f i a τ with
    | nx σ => exact ⟨σ, rfl⟩
    | no => exact absurd e hh
    | rt r σ => unfold mFldS at e; (repeat' (split at e)) <;> cases e
    | bk σ => unfold mFldS at e; (repeat' (split at e)) <;> cases e
    | ct σ => unfold mFldS at e; (repeat' (split at e)) <;> cases e
  obtain ⟨σ, e⟩ := hx
  rw [e]
  obtain ⟨d, τ1, b1, l, ns, xs, z1, z2, z3, rfl⟩ := mFldS_inv e
  refine ws_fldI (ha.to z1 ⟨_, l, _, _, _, rfl, lc_own z2, hc, hn, by rw [List.length_map]; exact z3, _, rfl, ?_⟩)
  rw [lc_set, Option.map_some, tg, ow, putN_str, putX_dd]
/-! ### loops -/
theorem ss_for {wi : TI} {mi : MI} {g : MGI} (hi : SI K c wi mi) (hg : SGI K c g1 g) (hs : SS K c ts m) : SS K c (tFor wi g1 ts) (mFor mi g m) := fun τ hn => by
  have key : mFor mi g m τ = match mi τ with
    | .v xs τ1 _ => runF g m xs τ1
    | .no => .no := rfl
  cases e : mi τ with
  | no => rw [key, e] at hn; exact absurd rfl hn
  | v xs τ1 b1 =>
    rw [key, e] at hn ⊢
    dsimp only at hn ⊢
    obtain ⟨o, ho⟩ : ∃ o, runF g m xs τ1 = o := ⟨_, rfl⟩
    rw [ho] at hn ⊢
    refine ws_for (hi.to e ⟨fun k τ2 => ∃ σ, τ2 = lc K σ ∧ runF g m (xs.drop k) σ = o, ⟨τ1, rfl, ho⟩, fun k it τ2 hk hv => ?_, fun τ2 hv => ?_⟩)
    · obtain ⟨σ, rfl, hv⟩ := hv
      rw [List.getElem?_map] at hk
      cases hx : xs[k]? with
      | none => rw [hx] at hk; cases hk
      | some x =>
        rw [hx] at hk
        cases hk
        have hd : xs.drop k = x :: xs.drop (k + 1) := by
          obtain ⟨h1, h2⟩ := List.getElem?_eq_some_iff.mp hx
          rw [List.drop_eq_getElem_cons h1, h2]
        rw [hd] at hv
        unfold runF at hv
        cases hgx : g x σ with
        | none => rw [hgx] at hv; exact absurd hv.symm hn
        | some σ1 =>
          rw [hgx] at hv
          dsimp only at hv
          refine hg.to hgx (hs.to ?_ (fun σ2 z => ?_) (fun r σ2 z => ?_) (fun σ2 z => ?_) (fun σ2 z => ?_))
          · intro z; rw [z] at hv; exact absurd hv.symm hn
          · rw [z] at hv; exact ⟨σ2, rfl, hv⟩
          · rw [z] at hv; exact ⟨r, σ2, hv.symm, rfl, rfl⟩
          · rw [z] at hv; exact ⟨σ2, hv.symm, rfl⟩
          · rw [z] at hv; exact ⟨σ2, rfl, hv⟩
    · obtain ⟨σ, rfl, hv⟩ := hv
      rw [List.length_map, List.drop_length] at hv
      unfold runF at hv
      exact ⟨σ, hv.symm, rfl⟩
theorem ss_while {w : Nat} (ht : ST K c tt p) (hs : SS K c ts m) : SS K c (tWhile tt ts) (mWhile w p m) := fun τ hn => by
  unfold mWhile at hn ⊢
  obtain ⟨o, ho⟩ : ∃ o, runW p m w τ = o := ⟨_, rfl⟩
  rw [ho] at hn ⊢
  refine ws_while (fun n τ2 => ∃ σ, τ2 = lc K σ ∧ runW p m n σ = o) w ⟨τ, rfl, ho⟩ fun n τ2 hv => ?_
  obtain ⟨σ, rfl, hv⟩ := hv
  cases n with
  | zero => unfold runW at hv; exact absurd hv.symm hn
  | succ n =>
    unfold runW at hv
    cases e : p σ with
    | no => rw [e] at hv; exact absurd hv.symm hn
    | v k σ1 b1 =>
      rw [e] at hv
      dsimp only at hv
      refine ht.to e ?_
      cases k with
      | false =>
        rw [if_neg (by decide)] at hv ⊢
        exact ⟨σ1, hv.symm, rfl⟩
      | true =>
        rw [if_pos rfl] at hv ⊢
        refine hs.to ?_ (fun σ2 z => ?_) (fun r σ2 z => ?_) (fun σ2 z => ?_) (fun σ2 z => ?_)
        · intro z; rw [z] at hv; exact absurd hv.symm hn
        · rw [z] at hv; exact ⟨n, Nat.lt_succ_self n, σ2, rfl, hv⟩
        · rw [z] at hv; exact ⟨r, σ2, hv.symm, rfl, rfl⟩
        · rw [z] at hv; exact ⟨σ2, hv.symm, rfl⟩
        · rw [z] at hv; exact ⟨n, Nat.lt_succ_self n, σ2, rfl, hv⟩
theorem wipe_lc : ∀ {vs : List Nat}, lc K (wipeP τ vs) = wipeT (lc K τ) vs
  | [] => rfl
  | v :: vs => by
    unfold wipeP wipeT
    rw [lc_set, wipe_lc]
    rfl
theorem unwipe_lc : ∀ {vs : List Nat}, lc K (unwipeP τ τ' vs) = unwipe (lc K τ) (lc K τ') vs
  | [] => rfl
  | v :: vs => by
    unfold unwipeP unwipe
    rw [lc_set, unwipe_lc]
    congr 1
    rw [lc, List.getElem?_map]
    cases τ[v]? <;> rfl
theorem still_lc {vs : List Nat} (h : stillP τ vs = true) : still (lc K τ) vs := fun i hi l R z => by
  have h1 := List.all_eq_true.mp h i hi
  rw [lc, List.getElem?_map] at z
  cases e : τ[i]? with
  | none => rw [e] at z; cases z
  | some x => cases x with
    | none => rw [e] at z; cases z
    | some x => cases x with
      | own l o => rw [e] at h1; cases h1
      | _ => rw [e] at z; cases z
theorem frees_lc {vs : List Nat} (h : freesP τ vs = true) : ∀ i ∈ vs, free (lc K τ) i := fun i hi R z => by
  have h1 := List.all_eq_true.mp h i hi
  rw [lc, List.getElem?_map] at z
  cases e : τ[i]? with
  | none => rw [e] at z; cases z
  | some x => cases x with
    | none => rw [e] at z; cases z
    | some x => cases x with
      | own l o =>
        rw [e] at h1 z
        cases l with
        | true => cases z
        | false => cases h1
      | _ => rw [e] at z; cases z
theorem se_lc {wi : TI} {mi : MI} {g : MGI} {vs : List Nat} (hw : GW g1 vs) (hi : SI K c wi mi) (hg : SGI K c g1 g) (ht : ST K c tt p) (ha : SE K c ta a) : SE K c (tLc wi g1 tt ta vs) (mLc mi g p a vs) := fun τ r τ' k h => by
  unfold mLc at h
  split at h
  · cases h
  · rename_i xs τ1 b1 e
    split at h
    · rename_i hst
      split at h
      · rename_i ds τ2 hr
        split at h
        · rename_i hall
          cases h
          refine w_lcM hw (hi.to e ⟨still_lc hst.1, fun k acc τ3 => ∃ σ ds', τ3 = lc K σ ∧ runC vs g p a (xs.drop k) σ = .v ds' τ2 ∧ acc ++ ddL K ds' = ddL K ds, ⟨_, ds, wipe_lc.symm, hr, rfl⟩, fun k it acc τ3 hk hl hv => ?_, ?_, fun acc τ3 hl hv => ?_⟩)
          · obtain ⟨σ, ds', rfl, hv, ha2⟩ := hv
            rw [List.getElem?_map] at hk
            cases hx : xs[k]? with
            | none => rw [hx] at hk; cases hk
            | some x =>
              rw [hx] at hk
              cases hk
              have hd : xs.drop k = x :: xs.drop (k + 1) := by
                obtain ⟨h1, h2⟩ := List.getElem?_eq_some_iff.mp hx
                rw [List.drop_eq_getElem_cons h1, h2]
              rw [hd] at hv
              unfold runC at hv
              cases hgx : g x σ with
              | none => rw [hgx] at hv; cases hv
              | some σ1 =>
                rw [hgx] at hv
                dsimp only at hv
                cases ep : p σ1 with
                | no => rw [ep] at hv; cases hv
                | v kp σ2 b2 =>
                  rw [ep] at hv
                  dsimp only at hv
                  refine hg.to hgx (ht.to ep ?_)
                  cases kp with
                  | false =>
                    rw [if_neg (by decide)] at hv ⊢
                    split at hv
                    · rename_i hf
                      exact ⟨frees_lc hf, _, ds', wipe_lc.symm, hv, ha2⟩
                    · cases hv
                  | true =>
                    rw [if_pos rfl] at hv ⊢
                    split at hv
                    · rename_i d σ3 b3 ea
                      split at hv
                      · rename_i hf
                        split at hv
                        · cases hv
                          rename_i ds2 hr2
                          refine ha.to ea ⟨frees_lc hf, _, rfl, _, ds2, wipe_lc.symm, hr2, ?_⟩
                          rw [← ha2, ddL, List.append_assoc]
                          rfl
                        · cases hv
                      · cases hv
                    · cases hv
          · rw [List.length_map]
            exact hst.2
          · obtain ⟨σ, ds', rfl, hv, ha2⟩ := hv
            rw [List.length_map, List.drop_length] at hv
            unfold runC at hv
            cases hv
            rw [ddL, List.append_nil] at ha2
            subst ha2
            refine ⟨fun i hi t z => ?_, rfl, ?_, rfl⟩
            · have h1 := List.all_eq_true.mp hall i hi
              rw [lc, List.getElem?_map] at z
              cases e : τ2[i]? with
              | none => rw [e] at z; cases z
              | some x => cases x with
                | none => rw [e] at z; cases z
                | some x => rw [e] at h1; cases h1
            · rw [unwipe_lc]
        · cases h
      · cases h
    · cases h
/-! ### bodies -/
theorem backs_lc : ∀ {as : List Vt} {τ : Ls}, backs (as.map (tg K)) (lc K τ) = (backsV as τ).map (tg K)
  | [], τ => by cases τ <;> rfl
  | x :: as, [] => by cases x <;> (unfold backsV; rw [List.map_cons]; exact congrArg (_ :: ·) (backs_lc (τ := [])))
  | x :: as, y :: τ => by
    cases x with
    | own l o =>
      unfold backsV
      rw [List.map_cons, List.map_cons, ← backs_lc]
      cases y <;> rfl
    | _ => unfold backsV; rw [List.map_cons, List.map_cons, ← backs_lc]; rfl
theorem body_inv {k n : Nat} {as : List Vt} {bs : List Vt} (h : body k n m as = .v r bs) : as.length = k ∧ as.all plainV = true ∧ ((∃ σ, m (as.map some ++ List.replicate (n - as.length) none) = .nx σ ∧ r = .dat .non ∧ bs = backsV as σ) ∨ ∃ σ, m (as.map some ++ List.replicate (n - as.length) none) = .rt r σ ∧ bs = backsV as σ) := by
  unfold body at h
  split at h
  · rename_i hh
    split at h <;> cases h
    · exact ⟨hh.1, hh.2, .inl ⟨_, by assumption, rfl, rfl⟩⟩
    · exact ⟨hh.1, hh.2, .inr ⟨_, by assumption, rfl⟩⟩
  · cases h
theorem start_lc {n : Nat} {as : List Vt} : startT n (as.map (tg K)) = lc K (as.map some ++ List.replicate (n - as.length) none) := by
  unfold startT lc
  rw [List.map_append, List.map_replicate, List.map_map, List.map_map, List.length_map]
  rfl
theorem good_body {k n : Nat} : Good (SemS K (body k n m)) k := fun as Ψ Ξ h => by
  obtain ⟨as0, r, as', rfl, h1, h2⟩ := h
  obtain ⟨h3, h4, _⟩ := body_inv h1
  refine ⟨by rw [List.length_map, h3], fun x hx => ?_⟩
  obtain ⟨y, hy, rfl⟩ := List.mem_map.mp hx
  have h5 := List.all_eq_true.mp h4 y hy
  cases y with
  | dat d => exact ⟨fun _ _ z => (nomatch z), fun _ z => (nomatch z), fun _ z => (nomatch z)⟩
  | vol d => exact ⟨fun _ _ z => (nomatch z), fun _ z => (nomatch z), fun _ z => (nomatch z)⟩
  | own l o =>
    refine ⟨fun l' R z => ?_, fun _ z => (nomatch z), fun _ z => (nomatch z)⟩
    cases z
    cases l with
    | false => rfl
    | true => cases h5
  | tmp d => cases h5
  | ali i => cases h5
/-- THE RULE for a def -/
theorem r_body {N ps : List Str} {t : XK → TS} (hN : ps.length ≤ N.length) (hb : ∀ c E, SS K c (t E) m) :
    ∀ vs H Q E, FP (SemS K (body ps.length N.length m)) vs H Q E → t E { nx := fun _ H' => Q .non H', rt := Q } (start N vs) H :=
  fp_bodyD good_body hN fun c E as Ψ Ξ hs hp => by
    obtain ⟨as0, r, as', rfl, h1, h2⟩ := hs
    obtain ⟨h3, h4, ⟨σ, h5, rfl, rfl⟩ | ⟨σ, h5, rfl⟩⟩ := body_inv h1
    · rw [start_lc]
      refine (hb c E).to (by rw [h5]; exact fun z => nomatch z) (fun σ' z => ?_) (fun r σ' z => ?_) (fun σ' z => ?_) (fun σ' z => ?_)
      · rw [h5] at z; cases z
        show Ψ (.dat .non) (backs _ _)
        rw [backs_lc]
        exact h2
      · rw [h5] at z; cases z
      · rw [h5] at z; cases z
      · rw [h5] at z; cases z
    · rw [start_lc]
      refine (hb c E).to (by rw [h5]; exact fun z => nomatch z) (fun σ' z => ?_) (fun r σ' z => ?_) (fun σ' z => ?_) (fun σ' z => ?_)
      · rw [h5] at z; cases z
      · rw [h5] at z; cases z
        show Ψ _ (backs _ _)
        rw [backs_lc]
        exact h2
      · rw [h5] at z; cases z
      · rw [h5] at z; cases z
end
end Z
set_option Elab.async false
set_option linter.all false
set_option maxRecDepth 100000
/-! B1: a list of new lists and of tuples, handed to a maker, its lists changed behind. -/
namespace Z
open PySem PySem.Spec PyProof.Rows L2
/-- this very object -/
def atq (q : Addr) : DD := .abs (fun v _ => v = V.ref q) fun _ _ _ _ h => h
abbrev Pl1 := Addr × List DD
/-- data at a slot, and lists of one's own beside -/
def pool (d0 : DD) (L : List Pl1) : Rsc where
  φ := fun v G H A => Rep G d0 v ∧ (L.map (·.1)).Nodup ∧ (∀ x ∈ L, ∃ vs, H x.1 = some (.lst vs) ∧ RepL G x.2 vs) ∧ A = fun a => a ∈ L.map (·.1)
  mono := fun v G H A G' H' h e k => by
    obtain ⟨h1, h2, h3, h4⟩ := h
    refine ⟨Rep.mono e _ _ h1, h2, fun x hx => ?_, h4⟩
    obtain ⟨vs, q1, q2⟩ := h3 x hx
    exact ⟨vs, by rw [k x.1 (by rw [h4]; exact List.mem_map_of_mem hx)]; exact q1, RepL.mono e _ _ q2⟩
/-- the items as they are, and as they are seen -/
inductive Full (L : List Pl1) : List DD → List DD → Prop
  | nil : Full L [] []
  | tup {zs xs ys : List DD} (h : Full L xs ys) : Full L (.tup zs :: xs) (.tup zs :: ys)
  | own {q : Addr} {ds xs ys : List DD} (m : (q, ds) ∈ L) (h : Full L xs ys) : Full L (atq q :: xs) (.lst ds :: ys)
theorem Full.len {L : List Pl1} {xs ys : List DD} (h : Full L xs ys) : xs.length = ys.length := by
  induction h with
  | nil => rfl
  | tup _ ih => rw [List.length_cons, List.length_cons, ih]
  | own _ _ ih => rw [List.length_cons, List.length_cons, ih]
theorem Full.app {L M : List Pl1} {xs ys x y : List DD} (h : Full L xs ys) (s : ∀ z ∈ L, z ∈ M) (k : Full M x y) : Full M (xs ++ x) (ys ++ y) := by
  induction h with
  | nil => exact k
  | tup _ ih => exact .tup ih
  | own m _ ih => exact .own (s _ m) ih
theorem Full.rep {L : List Pl1} {G H : Hp} (e : Same G H) (hL : ∀ x ∈ L, ∃ vs, H x.1 = some (.lst vs) ∧ RepL G x.2 vs) {xs ys : List DD} (h : Full L xs ys) : ∀ {vs : List V}, RepL G xs vs → RepL H ys vs := by
  induction h with
  | nil => exact fun r => r
  | tup _ ih =>
    rintro vs ⟨v, r, rfl, h1, h2⟩
    exact RepL.cons (Rep.mono e _ _ h1) (ih h2)
  | own m _ ih =>
    rintro vs ⟨v, r, rfl, h1, h2⟩
    obtain ⟨ws, q1, q2⟩ := hL _ m
    exact RepL.cons ⟨_, ws, h1, q1, RepL.mono e _ _ q2⟩ (ih h2)
/-- an item is a tuple, or a list of the pool -/
theorem Full.items {L : List Pl1} {xs ys : List DD} (h : Full L xs ys) : ∀ x ∈ xs, (∃ zs, x = .tup zs) ∨ ∃ q, x = atq q ∧ q ∈ L.map (·.1) := by
  induction h with
  | nil => intro x hx; simp at hx
  | tup _ ih =>
    intro x hx
    rcases List.mem_cons.mp hx with rfl | hx
    · exact .inl ⟨_, rfl⟩
    · exact ih x hx
  | own m _ ih =>
    intro x hx
    rcases List.mem_cons.mp hx with rfl | hx
    · exact .inr ⟨_, rfl, List.mem_map_of_mem m⟩
    · exact ih x hx
section
variable {c : Cfg} {τ : Lc} {σ : L2.St} {G H : Hp} {F : Nat → Addr → Prop} {j p : Nat} {d0 : DD} {L : List Pl1} {te : TE} {Φ : Tg → Lc → Bool → Prop} {ΦT : Bool → Lc → Bool → Prop} {D : AE} {ts us : TS} {K : PySem.W.Frag}
theorem set_at {τ : Lc} {i j : Nat} {t : Option Tg} (hj : j < τ.length) : (τ.set j t)[i]? = if i = j then some t else τ[i]? := by
  by_cases e : i = j
  · subst e
    rw [if_pos rfl, List.getElem?_set_self hj]
  · rw [if_neg e, List.getElem?_set_ne (fun z => e z.symm)]
theorem Ok.attach (o : Ok c τ σ G H F) (hi : τ[j]? = some (some (.dat d0))) : Ok c (τ.set j (some (.res true (pool d0 [])))) σ G H F := by
  have hl : j < τ.length := (List.getElem?_eq_some_iff.mp hi).1
  have fj : ∀ a, ¬ F j a := fun a z => by
    obtain ⟨_, _, l, R, h, _⟩ := o.own j a z
    rw [hi] at h
    cases h
  obtain ⟨v, hv, hs⟩ := o.sl j _ hi
  refine ⟨o.ex, o.tu, o.fr, by rw [List.length_set]; exact o.len, fun i t h => ?_, fun i l R h => ?_, fun i a h => ?_, o.dj, fun q hq => ?_⟩
  · rw [set_at hl] at h
    by_cases e : i = j
    · subst e
      rw [if_pos rfl] at h
      cases h
      exact ⟨v, hv, True.intro⟩
    · rw [if_neg e] at h
      exact o.sl i t h
  · rw [set_at hl] at h
    by_cases e : i = j
    · subst e
      rw [if_pos rfl] at h
      cases h
      exact ⟨v, hv, hs, List.nodup_nil, fun x hx => by simp at hx, funext fun a => propext ⟨fun z => (fj a z).elim, fun z => by simp at z⟩⟩
    · rw [if_neg e] at h
      exact o.rs i l R h
  · obtain ⟨h1, h2, l, R, h3, h4⟩ := o.own i a h
    refine ⟨h1, h2, l, R, ?_, h4⟩
    rw [set_at hl, if_neg (fun e : i = j => fj a (by rw [← e]; exact h))]
    exact h3
  · obtain ⟨h1, R, h2⟩ := o.pn q hq
    refine ⟨h1, R, ?_⟩
    rw [set_at hl, if_neg (fun e => by rw [e, hi] at h2; cases h2)]
    exact h2
theorem Ok.detach (o : Ok c τ σ G H F) (hi : τ[j]? = some (some (.res true (pool d0 L)))) : Ok c (τ.set j (some (.dat d0))) σ G H (fun i a => i ≠ j ∧ F i a) := by
  have hl : j < τ.length := (List.getElem?_eq_some_iff.mp hi).1
  obtain ⟨v, hv, hs, _⟩ := o.rs j _ _ hi
  refine ⟨o.ex, o.tu, o.fr, by rw [List.length_set]; exact o.len, fun i t h => ?_, fun i l R h => ?_, fun i a h => ?_, fun i k a n h1 h2 => o.dj i k a n h1.2 h2.2, fun q hq => ?_⟩
  · rw [set_at hl] at h
    by_cases e : i = j
    · subst e
      rw [if_pos rfl] at h
      cases h
      exact ⟨v, hv, hs⟩
    · rw [if_neg e] at h
      exact o.sl i t h
  · rw [set_at hl] at h
    by_cases e : i = j
    · rw [if_pos e] at h
      cases h
    · rw [if_neg e] at h
      obtain ⟨w, q1, q2⟩ := o.rs i l R h
      have ef : (fun a => i ≠ j ∧ F i a) = F i := funext fun a => propext ⟨fun z => z.2, fun z => ⟨e, z⟩⟩
      exact ⟨w, q1, by rw [ef]; exact q2⟩
  · obtain ⟨h1, h2, l, R, h3, h4⟩ := o.own i a h.2
    refine ⟨h1, h2, l, R, ?_, h4⟩
    rw [set_at hl, if_neg h.1]
    exact h3
  · obtain ⟨h1, R, h2⟩ := o.pn q hq
    refine ⟨h1, R, ?_⟩
    rw [set_at hl, if_neg (fun e => by rw [e, hi] at h2; cases h2)]
    exact h2
/-- what is data at a slot, let go -/
theorem Ok.forget {d : Option Tg} (o : Ok c τ σ G H F) (hi : τ[j]? = some d) (hd : ∀ l R, d ≠ some (.res l R)) : Ok c (τ.set j none) σ G H F := by
  have hl : j < τ.length := (List.getElem?_eq_some_iff.mp hi).1
  have ne : ∀ {i : Nat} {l : Bool} {R : Rsc}, τ[i]? = some (some (.res l R)) → i ≠ j := fun {i l R} h e => by
    rw [e, hi] at h
    exact hd l R (Option.some.inj h)
  refine ⟨o.ex, o.tu, o.fr, by rw [List.length_set]; exact o.len, fun i t h => ?_, fun i l R h => ?_, fun i a h => ?_, o.dj, fun q hq => ?_⟩
  · rw [set_at hl] at h
    by_cases e : i = j
    · rw [if_pos e] at h; cases h
    · rw [if_neg e] at h; exact o.sl i t h
  · rw [set_at hl] at h
    by_cases e : i = j
    · rw [if_pos e] at h; cases h
    · rw [if_neg e] at h; exact o.rs i l R h
  · obtain ⟨h1, h2, l, R, h3, h4⟩ := o.own i a h
    refine ⟨h1, h2, l, R, ?_, h4⟩
    rw [set_at hl, if_neg (ne h3)]
    exact h3
  · obtain ⟨h1, R, h2⟩ := o.pn q hq
    refine ⟨h1, R, ?_⟩
    rw [set_at hl, if_neg (ne h2)]
    exact h2
theorem ws_weak {τ' : Lc} (hw : ∀ σ G H F, Ok c τ σ G H F → ∃ F', Ok c τ' σ G H F') (h : WS c ts τ' D) : WS c ts τ D := fun σ G H F o De l => by
  obtain ⟨F', o'⟩ := hw σ G H F o
  exact h σ G H F' o' De l
/-- a new list in flight goes to the pool -/
theorem w_absorb (j : Nat) (h : W c te τ fun x τ1 b1 => ∃ ds d0 L, x = .res true (ownL ds) ∧ τ1[j]? = some (some (.res true (pool d0 L))) ∧ ∀ q, Φ (.dat (atq q)) (τ1.set j (some (.res true (pool d0 (L ++ [(q, ds)]))))) b1) : W c te τ Φ := fun σ G H F o Q q =>
  h σ G H F o _ fun x G1 H1 F1 rx τ1 b1 p1 g1 s1 => by
    obtain ⟨ds, d0, L, rfl, hi, k⟩ := p1
    obtain ⟨_, A, ⟨p, vs, rfl, h2, h3, rfl⟩, h4⟩ := s1
    obtain ⟨q1, q2, q3, q4⟩ := h4 p rfl
    have hl : j < τ1.length := (List.getElem?_eq_some_iff.mp hi).1
    obtain ⟨v, hv, r1, r2, r3, r4⟩ := g1.ok.rs j _ _ hi
    have oo := g1.ok
    have hp : p ∉ L.map (·.1) := fun z => q4 j (by rw [r4]; exact z)
    have o2 : Ok c (τ1.set j (some (.res true (pool d0 (L ++ [(p, ds)]))))) σ G1 H1 (fun i a => F1 i a ∨ (i = j ∧ a = p)) := by
      refine ⟨oo.ex, oo.tu, oo.fr, by rw [List.length_set]; exact oo.len, fun i t h => ?_, fun i l R h => ?_, fun i a h => ?_, fun i i2 a n h1 h2 => ?_, fun y hy => ?_⟩
      · rw [set_at hl] at h
        by_cases e : i = j
        · subst e
          rw [if_pos rfl] at h
          cases h
          exact ⟨v, hv, True.intro⟩
        · rw [if_neg e] at h
          exact oo.sl i t h
      · rw [set_at hl] at h
        by_cases e : i = j
        · subst e
          rw [if_pos rfl] at h
          cases h
          refine ⟨v, hv, r1, ?_, fun x hx => ?_, funext fun a => propext ?_⟩
          · rw [List.map_append, List.nodup_append]
            refine ⟨r2, by simp, fun a ha b hb => ?_⟩
            have eb : b = p := by simpa using hb
            intro e
            rw [e, eb] at ha
            exact hp ha
          · rcases List.mem_append.mp hx with hx | hx
            · exact r3 x hx
            · have ex : x = (p, ds) := by simpa using hx
              rw [ex]
              exact ⟨vs, h2, h3⟩
          · rw [r4, List.map_append, List.mem_append]
            constructor
            · rintro (z | ⟨_, rfl⟩)
              · exact .inl z
              · exact .inr (by simp)
            · rintro (z | z)
              · exact .inl z
              · exact .inr ⟨rfl, by simpa using z⟩
        · rw [if_neg e] at h
          obtain ⟨w, y1, y2⟩ := oo.rs i l R h
          have ef : (fun a => F1 i a ∨ (i = j ∧ a = p)) = F1 i := funext fun a => propext ⟨fun z => z.elim id fun z => (e z.1).elim, .inl⟩
          exact ⟨w, y1, by rw [ef]; exact y2⟩
      · rcases h with h | ⟨rfl, rfl⟩
        · obtain ⟨h1, h2, l, R, h3, h4⟩ := oo.own i a h
          by_cases e : i = j
          · refine ⟨h1, h2, true, _, by rw [set_at hl, if_pos e], ?_⟩
            rw [e, hi] at h3
            cases h3
            exact h4
          · exact ⟨h1, h2, l, R, by rw [set_at hl, if_neg e]; exact h3, h4⟩
        · refine ⟨q2, q3, true, _, by rw [set_at hl, if_pos rfl], .inl ?_⟩
          cases z : c.H0 a with
          | none => rfl
          | some u => exact absurd q1 (o.fr.t a (ne_none z))
      · rcases h1 with h1 | ⟨rfl, rfl⟩
        · rcases h2 with h2 | ⟨rfl, rfl⟩
          · exact oo.dj i i2 a n h1 h2
          · exact q4 i h1
        · rcases h2 with h2 | ⟨rfl, _⟩
          · exact q4 i2 h2
          · exact n rfl
      · obtain ⟨y1, R, y2⟩ := oo.pn y hy
        refine ⟨y1, R, ?_⟩
        rw [set_at hl, if_neg (fun e => by rw [e, hi] at y2; cases y2)]
        exact y2
    refine q _ G1 H1 _ (.dat (atq p)) _ b1 (k p) ⟨o2, g1.fr, fun i a z => ?_⟩ rfl
    rcases z with z | ⟨_, rfl⟩
    · exact g1.fp i a z
    · exact .inr q1
/-- one's own list whose items stand in the pool, seen whole -/
theorem w_full (j h : Nat) (hh : W c te τ fun x τ1 b1 => ∃ l xs ys d0 L, x = .ali h ∧ τ1[h]? = some (some (.res l (ownL xs))) ∧ τ1[j]? = some (some (.res true (pool d0 L))) ∧ Full L xs ys ∧ Φ (.tmp (.lst ys)) τ1 b1) : W c te τ Φ := fun σ G H F o Q q =>
  hh σ G H F o _ fun x G1 H1 F1 rx τ1 b1 p1 g1 s1 => by
    obtain ⟨l, xs, ys, d0, L, rfl, h1, h2, h3, k⟩ := p1
    obtain ⟨u, hu, p, vs, rfl, y2, y3, _⟩ := g1.ok.rs h _ _ h1
    have e : V.ref p = x := by
      have q' : σ[h]? = some (some x) := s1
      rw [hu] at q'
      exact Option.some.inj (Option.some.inj q')
    subst e
    obtain ⟨w, _, _, _, z3, _⟩ := g1.ok.rs j _ _ h2
    exact q _ G1 H1 F1 _ τ1 b1 k g1 ⟨p, vs, rfl, y2, h3.rep g1.ok.ex z3 y3⟩
/-- isinstance(x, list) of an item -/
theorem wt_isL {q : Addr} (j : Nat) (hp : τ[p]? = some (some (.dat (atq q)))) (hj : τ[j]? = some (some (.res true (pool d0 L)))) (hq : q ∈ L.map (·.1)) (k : ΦT true τ true) : WT c (tB (tCB (rIsi K) (tCons (tVar p) (tCons (tC (.ty "list")) tNil)))) τ ΦT := fun σ G H F o Q hQ => by
  obtain ⟨v, hv, hs⟩ := o.sl p _ hp
  cases (show v = V.ref q from hs)
  obtain ⟨w, _, _, _, z3, _⟩ := o.rs j _ _ hj
  obtain ⟨x, hx, rfl⟩ := List.mem_map.mp hq
  obtain ⟨vs, y1, _⟩ := z3 x hx
  exact ⟨_, hv, _, .ty "list", .type "list", .type "list", true, rfl, .ty "list", .base (.lst y1), kit_ty (by decide +kernel), true, rfl, hQ true G H F τ true k (Go.refl o)⟩
theorem wt_isT {zs : List DD} (hp : τ[p]? = some (some (.dat (.tup zs)))) (k : ΦT false τ true) : WT c (tB (tCB (rIsi K) (tCons (tVar p) (tCons (tC (.ty "list")) tNil)))) τ ΦT := fun σ G H F o Q hQ => by
  obtain ⟨v, hv, hs⟩ := o.sl p _ hp
  exact ⟨_, hv, v, .ty "list", .type "tuple", .type "list", false, rfl, .ty "list", tyx_of (d := .tup zs) rfl (Rep.mono o.ex _ _ hs), kit_ty (by decide +kernel), false, rfl, hQ false G H F τ true k (Go.refl o)⟩
/-- x.append(number), x an item of the pool -/
theorem ws_appP {q : Addr} {n : Int} (j : Nat) (hp : τ[p]? = some (some (.dat (atq q)))) (hj : τ[j]? = some (some (.res true (pool d0 L)))) (hq : q ∈ L.map (·.1)) (hz : ∀ x ∈ L, x.2.length < 100000)
    (h : D.nx (τ.set j (some (.res true (pool d0 (L.map fun x => if x.1 = q then (x.1, x.2 ++ [.int n]) else x)))))) : WS c (tDrop (tBM K "list" rAppend (tVar p) (tCons (tC (.int n)) tNil))) τ D := fun σ G H F o De lk => by
  obtain ⟨v, hv, hs⟩ := o.sl p _ hp
  cases (show v = V.ref q from hs)
  obtain ⟨w, hw, z1, z2, z3, z4⟩ := o.rs j _ _ hj
  obtain ⟨x, hx, hxq⟩ := List.mem_map.mp hq
  obtain ⟨vs, y1, y2⟩ := z3 x hx
  rw [hxq] at y1
  have ek : (L.map fun x => if x.1 = q then (x.1, x.2 ++ [DD.int n]) else x).map (·.1) = L.map (·.1) := by
    rw [List.map_map]
    exact List.map_congr_left fun a _ => by
      show (if a.1 = q then (a.1, a.2 ++ [DD.int n]) else a).1 = a.1
      split <;> rfl
  have one : ∀ y ∈ L, y.1 = q → y = x := fun y hy e => by
    obtain ⟨i, hi⟩ := List.getElem?_of_mem hy
    obtain ⟨k, hk⟩ := List.getElem?_of_mem hx
    have a1 : (L.map (·.1))[i]? = some q := by rw [List.getElem?_map, hi, ← e]; rfl
    have a2 : (L.map (·.1))[k]? = some q := by rw [List.getElem?_map, hk, ← hxq]; rfl
    have := nodup_at z2 a1 a2
    subst this
    rw [hi] at hk
    exact Option.some.inj hk
  have gm := o.mutR (p := q) (u' := .lst (vs ++ [V.int n])) (R' := pool d0 (L.map fun x => if x.1 = q then (x.1, x.2 ++ [.int n]) else x)) hj (by rw [z4]; exact hq) (fun z => z) (fun u hu _ => by
    rw [hw] at hu
    cases hu
    refine ⟨z1, by rw [ek]; exact z2, fun y hy => ?_, by rw [ek]; exact z4⟩
    obtain ⟨y0, hy0, rfl⟩ := List.mem_map.mp hy
    by_cases e : y0.1 = q
    · rw [if_pos e]
      rw [one y0 hy0 e]
      exact ⟨_, by rw [hxq, upd_same], y2.append (RepL.cons rfl rfl)⟩
    · rw [if_neg e]
      obtain ⟨ws, b1, b2⟩ := z3 y0 hy0
      exact ⟨ws, by rw [upd_ne e]; exact b1, b2⟩)
  exact ⟨_, hv, tyV_list y1, q, vs, _, rfl, rfl, y1, by rw [y2.length]; exact sz_lt (hz x hx), lk.nx _ σ G _ F h gm.ok (Same.refl G)⟩
end
end Z
set_option Elab.async false
set_option linter.all false
set_option maxRecDepth 100000
/-! B2: the piece of code itself. -/
namespace Z
open PySem PySem.Spec PyProof.Rows L2
section
variable {c : Cfg} {K : PySem.W.Frag} {E : XK} {P I : Sem} {c0 : String} {us : TS} {n : MS}
theorem drawH_cons {d : D} {ds ys : List D} {o o2 : Ow} (h : drawH P (d :: ds) o = some (ys, o2)) : ∃ xs r l o' bs zs, d = .tup xs ∧ xs.length ≤ 1000 ∧ P [.own false o, .dat (.int 2)] = .v (.dat (.int r)) (.own l o' :: bs) ∧ drawH P ds o' = some (zs, o2) ∧ ys = (if r = 0 then .lst xs else .tup xs) :: zs := by
  unfold drawH at h
  split at h
  · rename_i e; cases e
  · rename_i e
    cases e
    split at h
    · split at h
      · split at h
        · cases h
          exact ⟨_, _, _, _, _, _, rfl, by assumption, by assumption, by assumption, rfl⟩
        · cases h
      · cases h
    · cases h
  · cases h
theorem drawH_nil {ys : List D} {o o2 : Ow} (h : drawH P [] o = some (ys, o2)) : ys = [] ∧ o = o2 := by
  unfold drawH at h
  cases h
  exact ⟨rfl, rfl⟩
/-- the lists of lists and tuples made -/
abbrev tH1 (K : PySem.W.Frag) (P : Sem) (E : XK) : TS := tAsg (tLc (iSeq K (tOp (rIx K) (tVar 3) (tC (.int 1)))) (gName 6) tYes (tIf (tTest (tOp (rEqD K) (tCall (FP (SemS K P)) [] E0 (tCons (tVar 1) (tCons (tC (.int 2)) tNil))) (tC (.int 0)))) (tCB (rListOf K) (tCons (tVar 6) tNil)) (tVar 6)) [6]) (gName 4)
abbrev tH2 (K : PySem.W.Frag) (I : Sem) (c0 : String) (E : XK) : TS := tAsg (tMake (He.ga K (Str.ofString c0)) (FP (SemS K I)) [] E (tCons (tOp (rIx K) (tVar 3) (tC (.int 0))) (tCons (tVar 4) tNil))) (gName 5)
abbrev tH3 (K : PySem.W.Frag) : TS := tDrop (tBM K "list" rAppend (tVar 4) (tCons (tTup (tCons (tC (.int 0)) (tCons (tC (.int 0)) tNil))) tNil))
abbrev tH4 (K : PySem.W.Frag) : TS := tFor (iSeq K (tLc (iSeq K (tVar 4)) (gName 6) (tB (tCB (rIsi K) (tCons (tVar 6) (tCons (tC (.ty "list")) tNil)))) (tVar 6) [6])) (gName 6) (tDrop (tBM K "list" rAppend (tVar 6) (tCons (tC (.int 0)) tNil)))
def stH (a0 : Option Tg) (b : Tg) (pl : Tg) (w : Tg) (x4 x5 x6 : Option Tg) (rest : Lc) : Lc := a0 :: some b :: some pl :: some w :: x4 :: x5 :: x6 :: rest
theorem nr_of {x : Option Tg} (h : ∀ l R, x ≠ some (.res l R)) : nr x = true := by
  cases x with
  | none => rfl
  | some t => cases t with
    | res l R => exact absurd rfl (h l R)
    | _ => rfl
theorem h1_step {l : Bool} {L : List Pl1} {d0 : DD} {a0 x4 x5 : Option Tg} {w : Tg} {rest : Lc} {o o' : Ow} {xs : List D} {r : Int} {l2 : Bool} {bs : List Vt} (hP : P [.own false o, .dat (.int 2)] = .v (.dat (.int r)) (.own l2 o' :: bs)) {Φ : Tg → Lc → Bool → Prop}
    (k1 : r = 0 → ∀ q b, Φ (.dat (atq q)) (stH a0 (.res l (ow K o')) (.res true (pool d0 (L ++ [(q, ddL K xs)]))) w x4 x5 (some (.dat (.tup (ddL K xs)))) rest) b)
    (k2 : r ≠ 0 → ∀ b, Φ (.dat (.tup (ddL K xs))) (stH a0 (.res l (ow K o')) (.res true (pool d0 L)) w x4 x5 (some (.dat (.tup (ddL K xs)))) rest) b) :
    W c (tIf (tTest (tOp (rEqD K) (tCall (FP (SemS K P)) [] E0 (tCons (tVar 1) (tCons (tC (.int 2)) tNil))) (tC (.int 0)))) (tCB (rListOf K) (tCons (tVar 6) tNil)) (tVar 6)) (stH a0 (.res l (ow K o)) (.res true (pool d0 L)) w x4 x5 (some (.dat (.tup (ddL K xs)))) rest) Φ := by
  refine w_if (wt_test (w_eqI (w_call (wa_cons (w_varR rfl (wa_cons (w_int (wa_nil ⟨stb1 _, rfl, X0, pasX0, .inr ⟨1, l, ow K o, [.dat (.int 2)], [.dat (.int 2)], rfl, rfl, .cons .dd .nil, [.own false o, .dat (.int 2)], _, _, rfl, hP, l2, ow K o', rfl, ?_⟩⟩)) ))))))
  refine w_int ⟨rfl, r, 0, .dat, .dat, decide (r = 0), rfl, ?_⟩
  by_cases h : r = 0
  · rw [decide_eq_true h, if_pos rfl]
    exact w_absorb 2 (w_listQ (w_varD rfl ⟨_, .tup, _, d0, L, rfl, rfl, fun q => k1 h q _⟩))
  · rw [decide_eq_false h, if_neg (by decide)]
    exact w_varD rfl (k2 h _)
theorem ss_hand1 {l : Bool} {a0 x4 x5 x6 : Option Tg} {rest : Lc} {o o2 : Ow} {d0 : DD} {wn : Int} {ps ys : List D} {D : AE} (h6 : ∀ l R, x6 ≠ some (.res l R)) (h4 : ∀ l R, x4 ≠ some (.res l R)) (hz : ps.length ≤ 1000) (hd : drawH P ps o = some (ys, o2))
    (k : ∀ L acc, Full L acc (ddL K ys) → (∀ x ∈ L, x.2.length ≤ 1000) → acc.length ≤ 1000 → D.nx (stH a0 (.res l (ow K o2)) (.res true (pool d0 L)) (.dat (.tup [.int wn, .tpl (ddL K ps)])) (some (.res true (ownL acc))) x5 x6 rest)) :
    WS c (tH1 K P E) (stH a0 (.res l (ow K o)) (.res true (pool d0 [])) (.dat (.tup [.int wn, .tpl (ddL K ps)])) x4 x5 x6 rest) D := by
  refine ws_asg (w_lcM (gw_name (by decide)) (wi_seqQ (w_ixQ (w_varD rfl (w_int ⟨rfl, 1, .dat (.tpl (ddL K ps)), rfl, .tup rfl, _, _, .tpl, still_of (by
      show (nres (some x6) && true) = true
      cases x6 with
      | none => rfl
      | some t => cases t with
        | res l R => exact absurd rfl (h6 l R)
        | _ => rfl), ?_⟩)))))
  refine ⟨fun k acc τ2 => ∃ L y1 y2 o1, τ2 = stH a0 (.res l (ow K o1)) (.res true (pool d0 L)) (.dat (.tup [.int wn, .tpl (ddL K ps)])) x4 x5 none rest ∧ Full L acc (ddL K y1) ∧ (∀ x ∈ L, x.2.length ≤ 1000) ∧ drawH P (ps.drop k) o1 = some (y2, o2) ∧ y1 ++ y2 = ys, ⟨[], [], ys, o, rfl, .nil, fun x hx => by simp at hx, hd, rfl⟩, fun i it acc τ2 hi hl hv => ?_, ?_⟩
  · obtain ⟨L, y1, y2, o1, rfl, q1, q2, q3, q4⟩ := hv
    obtain ⟨dd', hdd, rfl⟩ := itsS_get hi
    rw [ddL_map, List.getElem?_map] at hdd
    cases hx : ps[i]? with
    | none => rw [hx] at hdd; cases hdd
    | some x =>
      rw [hx] at hdd
      cases hdd
      have hdr : ps.drop i = x :: ps.drop (i + 1) := by
        obtain ⟨z1, z2⟩ := List.getElem?_eq_some_iff.mp hx
        rw [List.drop_eq_getElem_cons z1, z2]
      rw [hdr] at q3
      obtain ⟨xs, r, l2, o', bs, zs, rfl, z1, z2, z3, z4⟩ := drawH_cons q3
      refine wgi_dat (wg_dat (free_of (x := none) rfl rfl) (by show 6 < _ + 7; omega) (wt_yes ?_))
      rw [if_pos rfl]
      refine h1_step z2 (fun hr q b => ⟨fun j hj => ?_, _, rfl, L ++ [(q, ddL K xs)], y1 ++ [.lst xs], zs, o', rfl, ?_, ?_, z3, ?_⟩) (fun hr b => ⟨fun j hj => ?_, _, rfl, L, y1 ++ [.tup xs], zs, o', rfl, ?_, q2, z3, ?_⟩)
      · have : j = 6 := by simpa using hj
        subst this
        exact free_of rfl rfl
      · rw [ddL_append]
        exact q1.app (fun z hz => List.mem_append_left _ hz) (.own (by simp) .nil)
      · intro z hz
        rcases List.mem_append.mp hz with hz | hz
        · exact q2 z hz
        · have : z = (q, ddL K xs) := by simpa using hz
          rw [this]
          show (ddL K xs).length ≤ 1000
          rw [ddL_length]
          exact z1
      · rw [← q4, z4, if_pos hr, List.append_assoc]
        rfl
      · have : j = 6 := by simpa using hj
        subst this
        exact free_of rfl rfl
      · rw [ddL_append]
        exact q1.app (fun z hz => hz) (.tup .nil)
      · rw [← q4, z4, if_neg hr, List.append_assoc]
        rfl
  · refine ⟨by rw [itsS_len, ddL_length]; omega, fun acc τ2 hl hv => ?_⟩
    obtain ⟨L, y1, y2, o1, rfl, q1, q2, q3, q4⟩ := hv
    rw [itsS_len, ddL_length, List.drop_length] at q3
    obtain ⟨rfl, rfl⟩ := drawH_nil q3
    rw [List.append_nil] at q4
    subst q4
    refine ⟨fun j hj t z => ?_, wg_res (free_of (x := x4) rfl (nr_of h4)) (by show 4 < _ + 7; omega) ?_⟩
    · have : j = 6 := by simpa using hj
      subst this
      cases z
    · rw [itsS_len, ddL_length] at hl
      exact k L acc q1 q2 (by omega)
theorem ss_hand4 {l : Bool} {a0 x5 x6 : Option Tg} {rest : Lc} {b w : Tg} {d0 : DD} {L : List Pl1} {acc ys : List DD} {D : AE} (h6 : ∀ l R, x6 ≠ some (.res l R)) (hf : Full L acc ys) (hL : ∀ x ∈ L, x.2.length ≤ 1000) (hz : acc.length ≤ 2000)
    (k : ∀ L' y6, (∀ l R, y6 ≠ some (.res l R)) → D.nx (stH a0 b (.res true (pool d0 L')) w (some (.dat (.lst acc))) x5 y6 rest)) :
    WS c (tH4 K) (stH a0 b (.res true (pool d0 L)) w (some (.res true (ownL acc))) x5 x6 rest) D := by
  refine ws_frz 4 rfl ?_
  show WS c (tH4 K) (stH a0 b (.res true (pool d0 L)) w (some (.dat (.lst acc))) x5 x6 rest) D
  refine ws_for (wi_seqQ (w_frz (w_lcM (gw_name (by decide)) (wi_seqQ (w_varD rfl ⟨_, _, .lst, still_of (by
      show (nres (some x6) && true) = true
      cases x6 with
      | none => rfl
      | some t => cases t with
        | res l R => exact absurd rfl (h6 l R)
        | _ => rfl), ?_⟩)))))
  refine ⟨fun k a2 τ2 => τ2 = stH a0 b (.res true (pool d0 L)) w (some (.dat (.lst acc))) x5 none rest ∧ ∀ x ∈ a2, ∃ q, x = atq q ∧ q ∈ L.map (·.1), ⟨rfl, fun x hx => by simp at hx⟩, fun i it a2 τ2 hi hl hv => ?_, ?_⟩
  · obtain ⟨rfl, hv⟩ := hv
    obtain ⟨x, hx, rfl⟩ := itsS_get hi
    refine wgi_dat (wg_dat (free_of (x := none) rfl rfl) (by show 6 < _ + 7; omega) ?_)
    have fr6 : ∀ {y : DD}, ∀ i ∈ [6], free (stH a0 b (.res true (pool d0 L)) w (some (.dat (.lst acc))) x5 (some (.dat y)) rest) i := fun {y} j hj => by
      have : j = 6 := by simpa using hj
      subst this
      exact free_of rfl rfl
    rcases hf.items x (List.mem_of_getElem? hx) with ⟨zs, rfl⟩ | ⟨q, rfl, hq⟩
    · refine wt_isT rfl ?_
      rw [if_neg (by decide)]
      exact ⟨fr6, rfl, hv⟩
    · refine wt_isL (d0 := d0) (L := L) 2 rfl rfl hq ?_
      rw [if_pos rfl]
      refine w_varD rfl ⟨fr6, _, rfl, rfl, fun y hy => ?_⟩
      rcases List.mem_append.mp hy with hy | hy
      · exact hv y hy
      · have : y = atq q := by simpa using hy
        exact ⟨q, this, hq⟩
  · refine ⟨by rw [itsS_len]; omega, fun a2 τ2 hl hv => ?_⟩
    obtain ⟨rfl, hv⟩ := hv
    rw [itsS_len] at hl
    refine ⟨fun j hj t z => ?_, a2, rfl, _, a2, .lst, ?_⟩
    · have : j = 6 := by simpa using hj
      subst this
      cases z
    refine ⟨fun k τ2 => ∃ L' y6, τ2 = stH a0 b (.res true (pool d0 L')) w (some (.dat (.lst acc))) x5 y6 rest ∧ (∀ l R, y6 ≠ some (.res l R)) ∧ L'.map (·.1) = L.map (·.1) ∧ ∀ x ∈ L', x.2.length ≤ 1000 + k, ⟨L, x6, rfl, h6, rfl, hL⟩, fun i it τ2 hi hv2 => ?_, fun τ2 hv2 => ?_⟩
    · obtain ⟨L', y6, rfl, r1, r2, r3⟩ := hv2
      obtain ⟨x, hx, rfl⟩ := itsS_get hi
      obtain ⟨q, rfl, hq⟩ := hv x (List.mem_of_getElem? hx)
      have hi2 : i < a2.length := (List.getElem?_eq_some_iff.mp hx).1
      refine wgi_dat (wg_dat (free_of (x := y6) rfl (nr_of r1)) (by show 6 < _ + 7; omega) ?_)
      refine ws_appP (d0 := d0) (L := L') 2 rfl rfl (by rw [r2]; exact hq) (fun x hx => by have := r3 x hx; omega) ⟨_, some (.dat (atq q)), rfl, fun _ _ z => (nomatch z), ?_, fun x hx => ?_⟩
      · rw [← r2, List.map_map]
        exact List.map_congr_left fun a _ => by
          show (if a.1 = q then (a.1, a.2 ++ [DD.int 0]) else a).1 = a.1
          split <;> rfl
      · obtain ⟨y, hy, rfl⟩ := List.mem_map.mp hx
        have := r3 y hy
        split
        · show (y.2 ++ [DD.int 0]).length ≤ _
          rw [List.length_append]
          show y.2.length + 1 ≤ _
          omega
        · omega
    · obtain ⟨L', y6, rfl, r1, r2, r3⟩ := hv2
      exact k L' y6 r1
theorem nresV_lc {x : Option Vt} (h : nresV (some x) = true) : ∀ l R, x.map (tg K) ≠ some (.res l R) := fun l R z => by
  cases x with
  | none => cases z
  | some x => cases x with
    | own l o => cases h
    | _ => cases z
theorem mHand_inv {τ σ : Ls} (h : mHand c0 P I τ = .nx σ) : ∃ a0 l o d0 wn ps x4 x5 x6 rest ys o' l2 ns xs bs, τ = a0 :: some (.own l o) :: some (.dat d0) :: some (.dat (.tup [.int wn, .tpl ps])) :: x4 :: x5 :: x6 :: rest ∧
    nresV (some x4) = true ∧ nresV (some x5) = true ∧ nresV (some x6) = true ∧ ps.length ≤ 1000 ∧ drawH P ps o = some (ys, o') ∧ I [.own false (.ins c0 [] []), .dat (.int wn), .vol (.lst ys)] = .v (.dat .non) (.own l2 (.ins c0 ns xs) :: bs) ∧
    σ = a0 :: some (.own l o') :: some (.dat d0) :: some (.dat (.tup [.int wn, .tpl ps])) :: none :: some (.dat (.obj c0 ns xs)) :: none :: rest := by
  unfold mHand at h
  split at h
  · split at h
    · rename_i hh
      simp only [Bool.and_eq_true, decide_eq_true_eq] at hh
      split at h
      · split at h
        · split at h
          · cases h
            subst_vars
            exact ⟨_, _, _, _, _, _, _, _, _, _, _, _, _, _, _, _, rfl, hh.1.1.1, hh.1.1.2, hh.1.2, hh.2, by assumption, by assumption, rfl⟩
          · cases h
        · cases h
      · cases h
    · cases h
  · cases h
theorem mHand_only {τ : Ls} (h : mHand c0 P I τ ≠ .no) : ∃ σ, mHand c0 P I τ = .nx σ := by
  cases e : mHand c0 P I τ with
  | nx σ => exact ⟨σ, rfl⟩
  | no => exact absurd e h
  | rt r σ => unfold mHand at e; (repeat' (split at e)) <;> cases e
  | bk σ => unfold mHand at e; (repeat' (split at e)) <;> cases e
  | ct σ => unfold mHand at e; (repeat' (split at e)) <;> cases e
theorem ss_hand (hr : SS K c us n) : SS K c (tSeq (tH1 K P E) (tSeq (tH2 K I c0 E) (tSeq (tH3 K) (tSeq (tH4 K) us)))) (mSeq (mHand c0 P I) n) := fun τ hn => by
  have key : mSeq (mHand c0 P I) n τ = match mHand c0 P I τ with
    | .nx τ1 => n τ1
    | o => o := rfl
  have hm : mHand c0 P I τ ≠ .no := fun z => by rw [key, z] at hn; exact hn rfl
  obtain ⟨σ, hs⟩ := mHand_only hm
  rw [key, hs] at hn ⊢
  dsimp only at hn ⊢
  obtain ⟨a0, l, o, d0, wn, ps, x4, x5, x6, rest, ys, o', l2, ns, xs, bs, rfl, h4, h5, h6, hz, hd, hI, rfl⟩ := mHand_inv hs
  have y4 := nresV_lc (K := K) h4
  have y5 := nresV_lc (K := K) h5
  have y6 := nresV_lc (K := K) h6
  refine ws_weak (τ' := stH (a0.map (tg K)) (.res l (ow K o)) (.res true (pool (dd K d0) [])) (.dat (.tup [.int wn, .tpl (ddL K ps)])) (x4.map (tg K)) (x5.map (tg K)) (x6.map (tg K)) (lc K rest)) (fun σ G H F o => ⟨F, o.attach (j := 2) rfl⟩) ?_
  refine ws_seq (ss_hand1 y6 y4 hz hd fun L acc q1 q2 q3 => ?_)
  refine ws_seq (ws_asg (w_make (wa_cons (w_ixQ (w_varD rfl (w_int ⟨rfl, 0, .dat (.int wn), rfl, .tup rfl, wa_cons (w_full 2 4 (w_varR rfl ⟨true, acc, ddL K ys, dd K d0, L, rfl, rfl, rfl, q1, wa_nil ⟨rfl, rfl, X0, [.dat (.int wn), .vol (.lst (ddL K ys))], pasX0, .cons .dd (.cons (.dv .tmp) .nil), [.own false (.ins c0 [] []), .dat (.int wn), .vol (.lst ys)], _, _, rfl, hI, rfl, l2, _, _, rfl, ?_⟩⟩))⟩))))))
  refine wg_dat (free_of (x := x5.map (tg K)) rfl (nr_of y5)) (by show 5 < _ + 7; omega) ?_
  refine ws_seq (ws_app (i := 4) rfl (w_tup (wa_cons (w_int (wa_cons (w_int (wa_nil ⟨rfl, rfl, [.int 0, .int 0], .cons (.cons .nil), by show 2 ≤ 100000; decide, acc, _, rfl, rfl, by omega, ?_⟩)))))))
  refine ws_seq (ss_hand4 (l := true) (ys := ddL K ys ++ [.tup [.int 0, .int 0]]) y6 (q1.app (fun z hz => hz) (.tup .nil)) q2 (by rw [List.length_append]; show acc.length + 1 ≤ 2000; omega) fun L' z6 r1 => ?_)
  refine ws_weak (fun σ G H F o => ?_) (hr _ hn)
  have o1 := o.detach (j := 2) rfl
  have o2 := o1.forget (j := 4) rfl (fun _ _ z => by cases z)
  exact ⟨_, o2.forget (j := 6) rfl r1⟩
end
end Z
set_option Elab.async false
set_option linter.all false
set_option maxRecDepth 100000
set_option maxHeartbeats 0
namespace Z
open PySem PySem.Spec PyProof.Rows L2
def topS (i : Nat) : Stmt := PySem.Challenge.pw_aheadfold_k01_webs_made.main.body.getD i (.Pass ⟨0, 0, 0, 0⟩)
structure KWeb (K : PySem.W.Frag) : Prop where
  k : KCls K (He.ga K "Web")
  coming : NoAttr K (He.ga K "Web") "coming"
  leaving : NoAttr K (He.ga K "Web") "leaving"
  pairs : NoAttr K (He.ga K "Web") "pairs"
  size : NoAttr K (He.ga K "Web") "size"
structure Tx (K : PySem.W.Frag) (mg : Str → Option Value) : Prop where
  c_Web : Cls K (He.ga K "Web")
  f_all : mg "all" = none
  f_bool : mg "bool" = none
  f_enumerate : mg "enumerate" = none
  f_int : mg "int" = none
  f_isinstance : mg "isinstance" = none
  f_len : mg "len" = none
  f_list : mg "list" = none
  f_range : mg "range" = none
  f_repr : mg "repr" = none
  f_str : mg "str" = none
  f_tuple : mg "tuple" = none
  f_zip : mg "zip" = none
  g_Web : mg "Web" = some (.ref (He.ga K "Web"))
  g__law_bag : mg "_law_bag" = some (.ref (He.ga K "_law_bag"))
  g__law_count : mg "_law_count" = some (.ref (He.ga K "_law_count"))
  g__law_ins : mg "_law_ins" = some (.ref (He.ga K "_law_ins"))
  g__law_made : mg "_law_made" = some (.ref (He.ga K "_law_made"))
  g__law_mixed : mg "_law_mixed" = some (.ref (He.ga K "_law_mixed"))
  g__law_named : mg "_law_named" = some (.ref (He.ga K "_law_named"))
  g__law_naming : mg "_law_naming" = some (.ref (He.ga K "_law_naming"))
  g__law_outs : mg "_law_outs" = some (.ref (He.ga K "_law_outs"))
  g__law_pull : mg "_law_pull" = some (.ref (He.ga K "_law_pull"))
  g__law_same : mg "_law_same" = some (.ref (He.ga K "_law_same"))
  g__law_web : mg "_law_web" = some (.ref (He.ga K "_law_web"))
  g_is_listed : mg "is_listed" = some (.ref (He.ga K "is_listed"))
  g_is_pair : mg "is_pair" = some (.ref (He.ga K "is_pair"))
  g_is_within : mg "is_within" = some (.ref (He.ga K "is_within"))
  i_MOST_ARROWS : ∃ t, mg "MOST_ARROWS" = some (.int 400 t)
  i_MOST_ROOMS : ∃ t, mg "MOST_ROOMS" = some (.int 100 t)
  k_Web : KWeb K
  l_Web : PySem.W.findIn K (.ref (He.ga K "Web")) "__len__" = some (some (.ref (He.fAd K ("Web", some "__len__"))))
  lf_Web : PySem.W.isFn K (.ref (He.fAd K ("Web", some "__len__"))) = true
  m_Web_arrows : Meth K (He.ga K "Web") "arrows" (He.fAd K ("Web", some "arrows"))
  m_Web_begin : Meth K (He.ga K "Web") "begin" (He.fAd K ("Web", some "begin"))
  m_Web_end : Meth K (He.ga K "Web") "end" (He.fAd K ("Web", some "end"))
  m_Web_has_arrow : Meth K (He.ga K "Web") "has_arrow" (He.fAd K ("Web", some "has_arrow"))
  m_Web_ins : Meth K (He.ga K "Web") "ins" (He.fAd K ("Web", some "ins"))
  m_Web_leading : Meth K (He.ga K "Web") "leading" (He.fAd K ("Web", some "leading"))
  m_Web_need_room : Meth K (He.ga K "Web") "need_room" (He.fAd K ("Web", some "need_room"))
  m_Web_outs : Meth K (He.ga K "Web") "outs" (He.fAd K ("Web", some "outs"))
  m_Web_rooms : Meth K (He.ga K "Web") "rooms" (He.fAd K ("Web", some "rooms"))
  mk_Web : Mk K (He.ga K "Web") (He.fAd K ("Web", some "__init__"))
  mo_Web : PySem.W.mroIn K (He.ga K "Web") (.type "object") = some true
  ne_Web : PySem.W.findIn K (.ref (He.ga K "Web")) "__ne__" = some (some (.builtin "object.__ne__"))
  q_Web : PySem.W.findIn K (.ref (He.ga K "Web")) "__eq__" = some (some (.ref (He.fAd K ("Web", some "__eq__"))))
  qf_Web : PySem.W.isFn K (.ref (He.fAd K ("Web", some "__eq__"))) = true
  r_Web : PySem.W.findIn K (.ref (He.ga K "Web")) "__repr__" = some (some (.ref (He.fAd K ("Web", some "__repr__"))))
  rf_Web : PySem.W.isFn K (.ref (He.fAd K ("Web", some "__repr__"))) = true
abbrev S__law_bag (K : PySem.W.Frag) : Spec := SemS K sem__law_bag
def t__law_bag (K : PySem.W.Frag) (E : XK) : TS := (tSeq (tAsg (tC (.int 53)) (gName 1))
    (tSeq (tFor (iSeq K (tSl (rSlL K) (tVar 0) tNoPart (tPart (tC (.int 63))))) (gName 2)
    (tAsg (tOp rModI (tOp rAddI (tOp rAddI (tOp rMulI (tVar 1) (tC (.int 69069))) (tVar 2)) (tC (.int 11))) (tC (.int 2147483629))) (gName 1)))
    (tRet (tLst (tCons (tCB (rListOf K) (tCons (tSl (rSlL K) (tVar 0) tNoPart (tPart (tC (.int 63)))) tNil)) (tCons (tC (.int 0)) (tCons (tC (.int 0)) (tCons (tVar 1) (tCons (tC (.int 0)) tNil)))))))))
theorem u__law_bag {K : PySem.W.Frag} {mg : Str → Option Value} (T : Tx K mg) (c : Cfg) (E : XK) : SS K c (t__law_bag K E) m__law_bag := by
  exact (ss_seq (ss_asg se_int sg_name)
    (ss_seq (ss_for (si_seq (se_fz (se_slL se_var so_none (so_some se_int)))) sgi_name
    (ss_asg (se_op os_mod (se_op os_add (se_op os_add (se_op os_mul se_var se_int) se_var) se_int) se_int) sg_name))
    (ss_ret (se_frz (se_lst (sa_cons (se_fz (se_list (se_slL se_var so_none (so_some se_int)))) (sa_cons se_int (sa_cons se_int (sa_cons se_var (sa_cons se_int sa_nil))))))))))
theorem r__law_bag {K : PySem.W.Frag} {mg : Str → Option Value} (T : Tx K mg) : ∀ vs H Q E, FP (S__law_bag K) vs H Q E → t__law_bag K E { nx := fun _ H' => Q .non H', rt := Q } (start ["_law_script", "_law_seed", "_law_cell"] vs) H := r_body (N := ["_law_script", "_law_seed", "_law_cell"]) (ps := ["_law_script"]) (by decide) fun c E => u__law_bag T c E
abbrev S__law_pull (K : PySem.W.Frag) : Spec := SemS K sem__law_pull
def t__law_pull (K : PySem.W.Frag) (E : XK) : TS := (tSeq (tAugS (tVar 0) (tC (.int 4)) (tC (.int 1)) rGetL (ipI fun i j => i + j) rSetL)
    (tSeq (tIfS (tTest (tOp rGtI (tOp (rIx K) (tVar 0) (tC (.int 2))) (tC (.int 0))))
    (tSeq (tAsg (tOp (rIx K) (tVar 0) (tC (.int 2))) (gName 2))
    (tSeq (tAsg (tOp rDivI (tVar 2) (tVar 1)) (gSub (tVar 0) (tC (.int 2)) rSetL))
    (tRet (tOp rModI (tVar 2) (tVar 1)))))
    tNext)
    (tSeq (tAsg (tOp (rIx K) (tVar 0) (tC (.int 3))) (gName 3))
    (tSeq (tIfS (tTest (tOp rLtI (tOp (rIx K) (tVar 0) (tC (.int 1))) (tCB (rLen K) (tCons (tOp (rIx K) (tVar 0) (tC (.int 0))) tNil))))
    (tSeq (tAsg (tOp (rIx K) (tOp (rIx K) (tVar 0) (tC (.int 0))) (tOp (rIx K) (tVar 0) (tC (.int 1)))) (gName 3))
    (tAugS (tVar 0) (tC (.int 1)) (tC (.int 1)) rGetL (ipI fun i j => i + j) rSetL))
    tNext)
    (tSeq (tIfS (tTest (tOp rGeI (tVar 3) (tOp rPowI (tC (.int 10)) (tC (.int 18)))))
    (tSeq (tAsg (tOp rDivI (tVar 3) (tVar 1)) (gSub (tVar 0) (tC (.int 2)) rSetL))
    (tRet (tOp rModI (tVar 3) (tVar 1))))
    tNext)
    (tSeq (tAsg (tOp rModI (tOp rAddI (tOp rAddI (tOp rAddI (tOp rMulI (tVar 3) (tC (.int 48271))) (tOp rMulI (tOp (rIx K) (tVar 0) (tC (.int 3))) (tC (.int 40503)))) (tOp rMulI (tOp (rIx K) (tVar 0) (tC (.int 4))) (tC (.int 69621)))) (tC (.int 9176))) (tC (.int 2147483629))) (gName 4))
    (tSeq (tAsg (tOp rModI (tOp rAddI (tOp rAddI (tOp rMulI (tVar 4) (tOp rAddI (tOp rModI (tVar 4) (tC (.int 65521))) (tC (.int 13)))) (tOp rMulI (tOp (rIx K) (tVar 0) (tC (.int 4))) (tC (.int 40692)))) (tOp rModI (tOp (rIx K) (tVar 0) (tC (.int 3))) (tC (.int 104729)))) (tC (.int 998244353))) (gName 5))
    (tSeq (tAsg (tOp rModI (tOp rAddI (tOp rMulI (tOp (rIx K) (tVar 0) (tC (.int 3))) (tC (.int 16807))) (tVar 5)) (tC (.int 2147483563))) (gSub (tVar 0) (tC (.int 3)) rSetL))
    (tRet (tOp rModI (tOp rDivI (tVar 5) (tC (.int 7))) (tVar 1)))))))))))
theorem u__law_pull {K : PySem.W.Frag} {mg : Str → Option Value} (T : Tx K mg) (c : Cfg) (E : XK) : SS K c (t__law_pull K E) m__law_pull := by
  exact (ss_seq (ss_augI (x := 4) se_int)
    (ss_seq (ss_if (st_test (se_op os_gt (se_ix se_var se_int) se_int)) (ss_seq (ss_asg (se_ix se_var se_int) sg_name)
    (ss_seq (ss_setI (se_fz (se_op os_div se_var se_var)) se_int)
    (ss_ret (se_op os_mod se_var se_var)))) ss_next)
    (ss_seq (ss_asg (se_ix se_var se_int) sg_name)
    (ss_seq (ss_if (st_test (se_op os_lt (se_ix se_var se_int) (se_cb cs_len (sa_cons (se_ix se_var se_int) sa_nil)))) (ss_seq (ss_asg (se_ix (se_ix se_var se_int) (se_ix se_var se_int)) sg_name)
    (ss_augI (x := 1) se_int)) ss_next)
    (ss_seq (ss_if (st_test (se_op os_ge se_var (se_op os_pow se_int se_int))) (ss_seq (ss_setI (se_fz (se_op os_div se_var se_var)) se_int)
    (ss_ret (se_op os_mod se_var se_var))) ss_next)
    (ss_seq (ss_asg (se_op os_mod (se_op os_add (se_op os_add (se_op os_add (se_op os_mul se_var se_int) (se_op os_mul (se_ix se_var se_int) se_int)) (se_op os_mul (se_ix se_var se_int) se_int)) se_int) se_int) sg_name)
    (ss_seq (ss_asg (se_op os_mod (se_op os_add (se_op os_add (se_op os_mul se_var (se_op os_add (se_op os_mod se_var se_int) se_int)) (se_op os_mul (se_ix se_var se_int) se_int)) (se_op os_mod (se_ix se_var se_int) se_int)) se_int) sg_name)
    (ss_seq (ss_setI (se_fz (se_op os_mod (se_op os_add (se_op os_mul (se_ix se_var se_int) se_int) se_var) se_int)) se_int)
    (ss_ret (se_op os_mod (se_op os_div se_var se_int) se_var))))))))))
theorem r__law_pull {K : PySem.W.Frag} {mg : Str → Option Value} (T : Tx K mg) : ∀ vs H Q E, FP (S__law_pull K) vs H Q E → t__law_pull K E { nx := fun _ H' => Q .non H', rt := Q } (start ["_law_bag_here", "_law_many", "_law_rest", "_law_cell", "_law_one", "_law_two"] vs) H := r_body (N := ["_law_bag_here", "_law_many", "_law_rest", "_law_cell", "_law_one", "_law_two"]) (ps := ["_law_bag_here", "_law_many"]) (by decide) fun c E => u__law_pull T c E
abbrev S__law_mixed (K : PySem.W.Frag) : Spec := SemS K sem__law_mixed
def t__law_mixed (K : PySem.W.Frag) (E : XK) : TS := (tSeq (tPar 2 3 (tCons (tCB (rListOf K) (tCons (tVar 1) tNil)) (tCons (tLst tNil) tNil)))
    (tSeq (tFor (iRng1 (tCons (tCB (rLen K) (tCons (tVar 1) tNil)) tNil)) (gName 4)
    (tDrop (tBM K "list" rAppend (tVar 3) (tCons (tBM K "list" rPopAt (tVar 2) (tCons (tCall (FP (S__law_pull K)) [] E (tCons (tVar 0) (tCons (tCB (rLen K) (tCons (tVar 2) tNil)) tNil))) tNil)) tNil))))
    (tRet (tVar 3))))
theorem u__law_mixed {K : PySem.W.Frag} {mg : Str → Option Value} (T : Tx K mg) (c : Cfg) (E : XK) : SS K c (t__law_mixed K E) m__law_mixed := by
  exact (ss_seq (ss_par (se_list se_var) (se_lst sa_nil))
    (ss_seq (ss_for (si_rng1 (sa_cons (se_fz (se_cb cs_len (sa_cons se_var sa_nil))) sa_nil)) sgi_name
    (ss_app (se_fz (se_popAt (se_call (sa_cons se_var (sa_cons (se_fz (se_cb cs_len (sa_cons se_var sa_nil))) sa_nil)))))))
    (ss_ret se_var)))
theorem r__law_mixed {K : PySem.W.Frag} {mg : Str → Option Value} (T : Tx K mg) : ∀ vs H Q E, FP (S__law_mixed K) vs H Q E → t__law_mixed K E { nx := fun _ H' => Q .non H', rt := Q } (start ["_law_bag_here", "_law_some", "_law_left", "_law_found", "_law_k"] vs) H := r_body (N := ["_law_bag_here", "_law_some", "_law_left", "_law_found", "_law_k"]) (ps := ["_law_bag_here", "_law_some"]) (by decide) fun c E => u__law_mixed T c E
abbrev S__law_web (K : PySem.W.Frag) : Spec := SemS K sem__law_web
def t__law_web (K : PySem.W.Frag) (E : XK) : TS := (tSeq (tAsg (tOp rAddI (tC (.int 1)) (tCall (FP (S__law_pull K)) [] E (tCons (tVar 0) (tCons (tVar 1) tNil)))) (gName 3))
    (tSeq (tAsg (tLc (iRng1 (tCons (tVar 3) tNil)) (gName 6) tYes (tTup (tCons (tVar 6) (tCons (tCall (FP (S__law_pull K)) [] E0 (tCons (tVar 0) (tCons (tVar 3) tNil))) tNil))) [6]) (gName 4))
    (tSeq (tFor (iRng1 (tCons (tCall (FP (S__law_pull K)) [] E (tCons (tVar 0) (tCons (tOp rAddI (tVar 2) (tC (.int 1))) tNil))) tNil)) (gName 5)
    (tDrop (tBM K "list" rAppend (tVar 4) (tCons (tTup (tCons (tCall (FP (S__law_pull K)) [] E (tCons (tVar 0) (tCons (tVar 3) tNil))) (tCons (tCall (FP (S__law_pull K)) [] E (tCons (tVar 0) (tCons (tVar 3) tNil))) tNil))) tNil))))
    (tRet (tTup (tCons (tVar 3) (tCons (tCB (rTupN K) (tCons (tCall (FP (S__law_mixed K)) [] E (tCons (tVar 0) (tCons (tVar 4) tNil))) tNil)) tNil)))))))
theorem u__law_web {K : PySem.W.Frag} {mg : Str → Option Value} (T : Tx K mg) (c : Cfg) (E : XK) : SS K c (t__law_web K E) m__law_web := by
  exact (ss_seq (ss_asg (se_op os_add se_int (se_call (sa_cons se_var (sa_cons se_var sa_nil)))) sg_name)
    (ss_seq (ss_asg (se_lc (gw_name (by decide)) (si_rng1 (sa_cons se_var sa_nil)) sgi_name st_yes (se_tup (sa_cons se_var (sa_cons (se_fz (se_call (sa_cons se_var (sa_cons se_var sa_nil)))) sa_nil)))) sg_name)
    (ss_seq (ss_for (si_rng1 (sa_cons (se_fz (se_call (sa_cons se_var (sa_cons (se_fz (se_op os_add se_var se_int)) sa_nil)))) sa_nil)) sgi_name
    (ss_app (se_tup (sa_cons (se_fz (se_call (sa_cons se_var (sa_cons se_var sa_nil)))) (sa_cons (se_fz (se_call (sa_cons se_var (sa_cons se_var sa_nil)))) sa_nil)))))
    (ss_ret (se_frz (se_frz (se_tup (sa_cons se_var (sa_cons (se_fz (se_tupN (se_call (sa_cons se_var (sa_cons se_var sa_nil))))) sa_nil)))))))))
theorem r__law_web {K : PySem.W.Frag} {mg : Str → Option Value} (T : Tx K mg) : ∀ vs H Q E, FP (S__law_web K) vs H Q E → t__law_web K E { nx := fun _ H' => Q .non H', rt := Q } (start ["_law_bag_here", "_law_rooms_most", "_law_more_most", "_law_rooms", "_law_pairs", "_law_k", "_law_room"] vs) H := r_body (N := ["_law_bag_here", "_law_rooms_most", "_law_more_most", "_law_rooms", "_law_pairs", "_law_k", "_law_room"]) (ps := ["_law_bag_here", "_law_rooms_most", "_law_more_most"]) (by decide) fun c E => u__law_web T c E
abbrev S_is_within (K : PySem.W.Frag) : Spec := SemS K sem_is_within
def t_is_within (K : PySem.W.Frag) (E : XK) : TS := (tRet (tAndV (tCB (rIsi K) (tCons (tVar 0) (tCons (tC (.ty "int")) tNil))) (tAndV (tNotV (tCB (rIsi K) (tCons (tVar 0) (tCons (tC (.ty "bool")) tNil)))) (tChain rLeI rLeI (tVar 1) (tVar 0) (tVar 2)))))
theorem u_is_within {K : PySem.W.Frag} {mg : Str → Option Value} (T : Tx K mg) (c : Cfg) (E : XK) : SS K c (t_is_within K E) m_is_within := by
  exact (ss_ret (se_andV (se_cb cs_isi (sa_cons se_var (sa_cons se_ty sa_nil))) (se_andV (se_notV (se_cb cs_isi (sa_cons se_var (sa_cons se_ty sa_nil)))) (se_chain os_le os_le se_var se_var se_var))))
theorem r_is_within {K : PySem.W.Frag} {mg : Str → Option Value} (T : Tx K mg) : ∀ vs H Q E, FP (S_is_within K) vs H Q E → t_is_within K E { nx := fun _ H' => Q .non H', rt := Q } (start ["thing", "low", "high"] vs) H := r_body (N := ["thing", "low", "high"]) (ps := ["thing", "low", "high"]) (by decide) fun c E => u_is_within T c E
abbrev S_is_listed (K : PySem.W.Frag) : Spec := SemS K sem_is_listed
def t_is_listed (K : PySem.W.Frag) (E : XK) : TS := (tRet (tCB (rIsiT K) (tCons (tVar 0) (tCons (tTup (tCons (tC (.ty "list")) (tCons (tC (.ty "tuple")) tNil))) tNil))))
theorem u_is_listed {K : PySem.W.Frag} {mg : Str → Option Value} (T : Tx K mg) (c : Cfg) (E : XK) : SS K c (t_is_listed K E) m_is_listed := by
  exact (ss_ret (se_isi2 se_var))
theorem r_is_listed {K : PySem.W.Frag} {mg : Str → Option Value} (T : Tx K mg) : ∀ vs H Q E, FP (S_is_listed K) vs H Q E → t_is_listed K E { nx := fun _ H' => Q .non H', rt := Q } (start ["thing"] vs) H := r_body (N := ["thing"]) (ps := ["thing"]) (by decide) fun c E => u_is_listed T c E
abbrev S_is_pair (K : PySem.W.Frag) : Spec := SemS K sem_is_pair
def t_is_pair (K : PySem.W.Frag) (E : XK) : TS := (tRet (tAndV (tCall (FP (S_is_listed K)) [] E (tCons (tVar 0) tNil)) (tAndV (tOp (rEqD K) (tCB (rLen K) (tCons (tVar 0) tNil)) (tC (.int 2))) (tCB (rAll K) (tCons (tLc (iSeq K (tVar 0)) (gName 2) tYes (tCall (FP (S_is_within K)) [] E0 (tCons (tVar 2) (tCons (tC (.int 0)) (tCons (tOp rSubI (tVar 1) (tC (.int 1))) tNil)))) [2]) tNil)))))
theorem u_is_pair {K : PySem.W.Frag} {mg : Str → Option Value} (T : Tx K mg) (c : Cfg) (E : XK) : SS K c (t_is_pair K E) m_is_pair := by
  exact (ss_ret (se_andV (se_call (sa_cons se_var sa_nil)) (se_andV (se_op os_eq (se_cb cs_len (sa_cons se_var sa_nil)) se_int) (se_cb cs_all (sa_cons (se_lc (gw_name (by decide)) (si_seq se_var) sgi_name st_yes (se_fz (se_call (sa_cons se_var (sa_cons se_int (sa_cons (se_fz (se_op os_sub se_var se_int)) sa_nil)))))) sa_nil)))))
theorem r_is_pair {K : PySem.W.Frag} {mg : Str → Option Value} (T : Tx K mg) : ∀ vs H Q E, FP (S_is_pair K) vs H Q E → t_is_pair K E { nx := fun _ H' => Q .non H', rt := Q } (start ["thing", "rooms", "one"] vs) H := r_body (N := ["thing", "rooms", "one"]) (ps := ["thing", "rooms"]) (by decide) fun c E => u_is_pair T c E
abbrev S_Web___init__ (K : PySem.W.Frag) : Spec := SemS K sem_Web___init__
def t_Web___init__ (K : PySem.W.Frag) (E : XK) : TS := (tSeq (tIfS (tNot (tB (tCall (FP (S_is_within K)) [] E (tCons (tVar 1) (tCons (tC (.int 1)) (tCons (tC (.int 100)) tNil))))))
    tNever
    tNext)
    (tSeq (tFor (iEnumA K (tCons (tVar 2) tNil)) (gTup K 2 (gCons (gName 3) (gCons (gName 4) gNil)))
    (tIfS (tOr (tTest (tOp (rEqD K) (tVar 3) (tC (.int 400)))) (tNot (tB (tCall (FP (S_is_pair K)) [] E (tCons (tVar 4) (tCons (tVar 1) tNil))))))
    tNever
    tNext))
    (tSeq (sFld K (tVar 0) (tVar 1) "size")
    (tSeq (sFld K (tVar 0) (tCB (rTupN K) (tCons (tLc (iSeq K (tVar 2)) (gName 4) tYes (tCB (rTupN K) (tCons (tVar 4) tNil)) [4]) tNil)) "pairs")
    (tSeq (sFld K (tVar 0) (tLc (iRng1 (tCons (tVar 1) tNil)) (gName 5) tYes (tLc (iEnumA K (tCons (tFld K (tVar 0) "pairs") tNil)) (gTup K 2 (gCons (gName 3) (gCons (gName 4) gNil))) (tTest (tOp (rEqD K) (tOp (rIx K) (tVar 4) (tC (.int 0))) (tVar 5))) (tVar 3) [3, 4]) [5]) "leaving")
    (tSeq (sFld K (tVar 0) (tLc (iRng1 (tCons (tVar 1) tNil)) (gName 5) tYes (tLc (iEnumA K (tCons (tFld K (tVar 0) "pairs") tNil)) (gTup K 2 (gCons (gName 3) (gCons (gName 4) gNil))) (tTest (tOp (rEqD K) (tOp (rIx K) (tVar 4) (tC (.int 1))) (tVar 5))) (tVar 3) [3, 4]) [5]) "coming")
    (tIfS (tTest (tOp (rInD K) (tLst tNil) (tFld K (tVar 0) "leaving")))
    tNever
    tNext)))))))
theorem u_Web___init__ {K : PySem.W.Frag} {mg : Str → Option Value} (T : Tx K mg) (c : Cfg) (E : XK) : SS K c (t_Web___init__ K E) m_Web___init__ := by
  exact (ss_seq (ss_if (st_not (st_B (se_call (sa_cons se_var (sa_cons se_int (sa_cons se_int sa_nil)))))) ss_never ss_next)
    (ss_seq (ss_for (si_enum (sa_cons se_var sa_nil)) (sgi_tup2 sg_name sg_name)
    (ss_if (st_or (st_test (se_op os_eq se_var se_int)) (st_not (st_B (se_call (sa_cons se_var (sa_cons se_var sa_nil)))))) ss_never ss_next))
    (ss_seq (ss_fld T.k_Web.k.c T.k_Web.size se_var)
    (ss_seq (ss_fld T.k_Web.k.c T.k_Web.pairs (se_fz (se_tupN (se_lc (gw_name (by decide)) (si_seq se_var) sgi_name st_yes (se_fz (se_tupN se_var))))))
    (ss_seq (ss_fld T.k_Web.k.c T.k_Web.leaving (se_fz (se_lc (gw_name (by decide)) (si_rng1 (sa_cons se_var sa_nil)) sgi_name st_yes (se_fz (se_lc (gw_tup (gws_name (by decide) (gws_name (by decide) gws_nil))) (si_enum (sa_cons (se_fld T.k_Web.k.c T.k_Web.pairs se_var) sa_nil)) (sgi_tup2 sg_name sg_name) (st_test (se_op os_eq (se_ix se_var se_int) se_var)) se_var)))))
    (ss_seq (ss_fld T.k_Web.k.c T.k_Web.coming (se_fz (se_lc (gw_name (by decide)) (si_rng1 (sa_cons se_var sa_nil)) sgi_name st_yes (se_fz (se_lc (gw_tup (gws_name (by decide) (gws_name (by decide) gws_nil))) (si_enum (sa_cons (se_fld T.k_Web.k.c T.k_Web.pairs se_var) sa_nil)) (sgi_tup2 sg_name sg_name) (st_test (se_op os_eq (se_ix se_var se_int) se_var)) se_var)))))
    (ss_if (st_test (se_op os_in (se_lst sa_nil) (se_fld T.k_Web.k.c T.k_Web.leaving se_var))) ss_never ss_next)))))))
theorem r_Web___init__ {K : PySem.W.Frag} {mg : Str → Option Value} (T : Tx K mg) : ∀ vs H Q E, FP (S_Web___init__ K) vs H Q E → t_Web___init__ K E { nx := fun _ H' => Q .non H', rt := Q } (start ["self", "rooms", "arrows", "at", "pair", "room"] vs) H := r_body (N := ["self", "rooms", "arrows", "at", "pair", "room"]) (ps := ["self", "rooms", "arrows"]) (by decide) fun c E => u_Web___init__ T c E
abbrev S_Web_arrows (K : PySem.W.Frag) : Spec := SemS K sem_Web_arrows
def t_Web_arrows (K : PySem.W.Frag) (E : XK) : TS := (tRet (tCB (rListOf K) (tCons (tFld K (tVar 0) "pairs") tNil)))
theorem u_Web_arrows {K : PySem.W.Frag} {mg : Str → Option Value} (T : Tx K mg) (c : Cfg) (E : XK) : SS K c (t_Web_arrows K E) m_Web_arrows := by
  exact (ss_ret (se_list (se_fld T.k_Web.k.c T.k_Web.pairs se_var)))
theorem r_Web_arrows {K : PySem.W.Frag} {mg : Str → Option Value} (T : Tx K mg) : ∀ vs H Q E, FP (S_Web_arrows K) vs H Q E → t_Web_arrows K E { nx := fun _ H' => Q .non H', rt := Q } (start ["self"] vs) H := r_body (N := ["self"]) (ps := ["self"]) (by decide) fun c E => u_Web_arrows T c E
abbrev S__law_same (K : PySem.W.Frag) (n : Nat) : Spec := SemS K (sem__law_same n)
def t__law_same (K : PySem.W.Frag) (n : Nat) (E : XK) : TS := (tSeq (tIfS (tB (tCB (rIsiT K) (tCons (tVar 1) (tCons (tTup (tCons (tC (.ty "list")) (tCons (tC (.ty "tuple")) tNil))) tNil))))
    (tSeq (tIfS (tOr (tTest (tOp (rNeD K) (tCB (rIsi K) (tCons (tVar 0) (tCons (tC (.ty "list")) tNil))) (tCB (rIsi K) (tCons (tVar 1) (tCons (tC (.ty "list")) tNil))))) (tTest (tOp (rNeD K) (tCB (rIsi K) (tCons (tVar 0) (tCons (tC (.ty "tuple")) tNil))) (tCB (rIsi K) (tCons (tVar 1) (tCons (tC (.ty "tuple")) tNil))))))
    (tRet (tC (.bl false)))
    tNext)
    (tRet (tAndV (tOp (rEqD K) (tCB (rLen K) (tCons (tVar 0) tNil)) (tCB (rLen K) (tCons (tVar 1) tNil))) (tCB (rAll K) (tCons (tLc (RZ.iZipA K (tCons (tVar 0) (tCons (tVar 1) tNil))) (gTup K 2 (gCons (gName 2) (gCons (gName 3) gNil))) tYes (tCall (FP (S__law_same K n)) [] E0 (tCons (tVar 2) (tCons (tVar 3) tNil))) [2, 3]) tNil)))))
    tNext)
    (tSeq (tIfS (tOr (tTest (tOp rIsN (tVar 1) (tC .non))) (tTest (tOp rIsN (tVar 0) (tC .non))))
    (tRet (tAndV (tOp rIsN (tVar 0) (tC .non)) (tOp rIsN (tVar 1) (tC .non))))
    tNext)
    (tSeq (tIfS (tOr (tTest (tOp (rNeD K) (tCB (rIsi K) (tCons (tVar 0) (tCons (tC (.ty "bool")) tNil))) (tCB (rIsi K) (tCons (tVar 1) (tCons (tC (.ty "bool")) tNil))))) (tTest (tOp (rNeD K) (tCB (rIsi K) (tCons (tVar 0) (tCons (tC (.ty "int")) tNil))) (tCB (rIsi K) (tCons (tVar 1) (tCons (tC (.ty "int")) tNil))))))
    (tRet (tC (.bl false)))
    tNext)
    (tRet (tAndV (tOp (rEqD K) (tCB (rIsi K) (tCons (tVar 0) (tCons (tC (.ty "str")) tNil))) (tCB (rIsi K) (tCons (tVar 1) (tCons (tC (.ty "str")) tNil)))) (tOp (rEqD K) (tVar 0) (tVar 1)))))))
theorem u__law_same {K : PySem.W.Frag} {mg : Str → Option Value} (T : Tx K mg) (n : Nat) (c : Cfg) (E : XK) : SS K c (t__law_same K n E) (m__law_same (sem__law_same n)) := by
  exact (ss_seq (ss_if (st_B (se_isi2 se_var)) (ss_seq (ss_if (st_or (st_test (se_op os_ne (se_cb cs_isi (sa_cons se_var (sa_cons se_ty sa_nil))) (se_cb cs_isi (sa_cons se_var (sa_cons se_ty sa_nil))))) (st_test (se_op os_ne (se_cb cs_isi (sa_cons se_var (sa_cons se_ty sa_nil))) (se_cb cs_isi (sa_cons se_var (sa_cons se_ty sa_nil)))))) (ss_ret se_bl) ss_next)
    (ss_ret (se_andV (se_op os_eq (se_cb cs_len (sa_cons se_var sa_nil)) (se_cb cs_len (sa_cons se_var sa_nil))) (se_cb cs_all (sa_cons (se_lc (gw_tup (gws_name (by decide) (gws_name (by decide) gws_nil))) (si_zip (sa_cons se_var (sa_cons se_var sa_nil))) (sgi_tup2 sg_name sg_name) st_yes (se_fz (se_call (sa_cons se_var (sa_cons se_var sa_nil))))) sa_nil))))) ss_next)
    (ss_seq (ss_if (st_or (st_test (se_op os_is se_var se_non)) (st_test (se_op os_is se_var se_non))) (ss_ret (se_andV (se_op os_is se_var se_non) (se_op os_is se_var se_non))) ss_next)
    (ss_seq (ss_if (st_or (st_test (se_op os_ne (se_cb cs_isi (sa_cons se_var (sa_cons se_ty sa_nil))) (se_cb cs_isi (sa_cons se_var (sa_cons se_ty sa_nil))))) (st_test (se_op os_ne (se_cb cs_isi (sa_cons se_var (sa_cons se_ty sa_nil))) (se_cb cs_isi (sa_cons se_var (sa_cons se_ty sa_nil)))))) (ss_ret se_bl) ss_next)
    (ss_ret (se_andV (se_op os_eq (se_cb cs_isi (sa_cons se_var (sa_cons se_ty sa_nil))) (se_cb cs_isi (sa_cons se_var (sa_cons se_ty sa_nil)))) (se_op os_eq se_var se_var))))))
theorem r__law_same {K : PySem.W.Frag} {mg : Str → Option Value} (T : Tx K mg) (n : Nat) : ∀ vs H Q E, FP (S__law_same K (n + 1)) vs H Q E → t__law_same K n E { nx := fun _ H' => Q .non H', rt := Q } (start ["_law_found", "_law_due", "_law_a", "_law_b"] vs) H := r_body (N := ["_law_found", "_law_due", "_law_a", "_law_b"]) (ps := ["_law_found", "_law_due"]) (by decide) fun c E => u__law_same T n c E
theorem no__law_same (K : PySem.W.Frag) {vs : List V} {H : Hp} {Q : VK} {E : XK} (h : FP (S__law_same K 0) vs H Q E) : False := by
  obtain ⟨_, _, _, _, _, _, ⟨_, _, _, _, h, _⟩, _⟩ := h
  cases h
abbrev S_Web___len__ (K : PySem.W.Frag) : Spec := SemS K sem_Web___len__
def t_Web___len__ (K : PySem.W.Frag) (E : XK) : TS := (tRet (tCB (rLen K) (tCons (tFld K (tVar 0) "pairs") tNil)))
theorem u_Web___len__ {K : PySem.W.Frag} {mg : Str → Option Value} (T : Tx K mg) (c : Cfg) (E : XK) : SS K c (t_Web___len__ K E) m_Web___len__ := by
  exact (ss_ret (se_cb cs_len (sa_cons (se_fld T.k_Web.k.c T.k_Web.pairs se_var) sa_nil)))
theorem r_Web___len__ {K : PySem.W.Frag} {mg : Str → Option Value} (T : Tx K mg) : ∀ vs H Q E, FP (S_Web___len__ K) vs H Q E → t_Web___len__ K E { nx := fun _ H' => Q .non H', rt := Q } (start ["self"] vs) H := r_body (N := ["self"]) (ps := ["self"]) (by decide) fun c E => u_Web___len__ T c E
abbrev S_Web_rooms (K : PySem.W.Frag) : Spec := SemS K sem_Web_rooms
def t_Web_rooms (K : PySem.W.Frag) (E : XK) : TS := (tRet (tFld K (tVar 0) "size"))
theorem u_Web_rooms {K : PySem.W.Frag} {mg : Str → Option Value} (T : Tx K mg) (c : Cfg) (E : XK) : SS K c (t_Web_rooms K E) m_Web_rooms := by
  exact (ss_ret (se_fld T.k_Web.k.c T.k_Web.size se_var))
theorem r_Web_rooms {K : PySem.W.Frag} {mg : Str → Option Value} (T : Tx K mg) : ∀ vs H Q E, FP (S_Web_rooms K) vs H Q E → t_Web_rooms K E { nx := fun _ H' => Q .non H', rt := Q } (start ["self"] vs) H := r_body (N := ["self"]) (ps := ["self"]) (by decide) fun c E => u_Web_rooms T c E
abbrev S_Web_need_room (K : PySem.W.Frag) : Spec := SemS K sem_Web_need_room
def t_Web_need_room (K : PySem.W.Frag) (E : XK) : TS := (tIfS (tNot (tB (tCall (FP (S_is_within K)) [] E (tCons (tVar 1) (tCons (tC (.int 0)) (tCons (tOp rSubI (tFld K (tVar 0) "size") (tC (.int 1))) tNil))))))
    tNever
    tNext)
theorem u_Web_need_room {K : PySem.W.Frag} {mg : Str → Option Value} (T : Tx K mg) (c : Cfg) (E : XK) : SS K c (t_Web_need_room K E) m_Web_need_room := by
  exact (ss_if (st_not (st_B (se_call (sa_cons se_var (sa_cons se_int (sa_cons (se_fz (se_op os_sub (se_fld T.k_Web.k.c T.k_Web.size se_var) se_int)) sa_nil)))))) ss_never ss_next)
theorem r_Web_need_room {K : PySem.W.Frag} {mg : Str → Option Value} (T : Tx K mg) : ∀ vs H Q E, FP (S_Web_need_room K) vs H Q E → t_Web_need_room K E { nx := fun _ H' => Q .non H', rt := Q } (start ["self", "room"] vs) H := r_body (N := ["self", "room"]) (ps := ["self", "room"]) (by decide) fun c E => u_Web_need_room T c E
abbrev S_Web_ins (K : PySem.W.Frag) : Spec := SemS K sem_Web_ins
def t_Web_ins (K : PySem.W.Frag) (E : XK) : TS := (tSeq (tDrop (tMeth (He.ga K "Web") "need_room" (FP (S_Web_need_room K)) [] E (tVar 0) (tCons (tVar 1) tNil)))
    (tRet (tCB (rListOf K) (tCons (tOp (rIx K) (tFld K (tVar 0) "coming") (tVar 1)) tNil))))
theorem u_Web_ins {K : PySem.W.Frag} {mg : Str → Option Value} (T : Tx K mg) (c : Cfg) (E : XK) : SS K c (t_Web_ins K E) m_Web_ins := by
  exact (ss_seq (ss_drop (se_meth se_var (sa_cons se_var sa_nil)))
    (ss_ret (se_list (se_ix (se_fld T.k_Web.k.c T.k_Web.coming se_var) se_var))))
theorem r_Web_ins {K : PySem.W.Frag} {mg : Str → Option Value} (T : Tx K mg) : ∀ vs H Q E, FP (S_Web_ins K) vs H Q E → t_Web_ins K E { nx := fun _ H' => Q .non H', rt := Q } (start ["self", "room"] vs) H := r_body (N := ["self", "room"]) (ps := ["self", "room"]) (by decide) fun c E => u_Web_ins T c E
abbrev S_Web_outs (K : PySem.W.Frag) : Spec := SemS K sem_Web_outs
def t_Web_outs (K : PySem.W.Frag) (E : XK) : TS := (tSeq (tDrop (tMeth (He.ga K "Web") "need_room" (FP (S_Web_need_room K)) [] E (tVar 0) (tCons (tVar 1) tNil)))
    (tRet (tCB (rListOf K) (tCons (tOp (rIx K) (tFld K (tVar 0) "leaving") (tVar 1)) tNil))))
theorem u_Web_outs {K : PySem.W.Frag} {mg : Str → Option Value} (T : Tx K mg) (c : Cfg) (E : XK) : SS K c (t_Web_outs K E) m_Web_outs := by
  exact (ss_seq (ss_drop (se_meth se_var (sa_cons se_var sa_nil)))
    (ss_ret (se_list (se_ix (se_fld T.k_Web.k.c T.k_Web.leaving se_var) se_var))))
theorem r_Web_outs {K : PySem.W.Frag} {mg : Str → Option Value} (T : Tx K mg) : ∀ vs H Q E, FP (S_Web_outs K) vs H Q E → t_Web_outs K E { nx := fun _ H' => Q .non H', rt := Q } (start ["self", "room"] vs) H := r_body (N := ["self", "room"]) (ps := ["self", "room"]) (by decide) fun c E => u_Web_outs T c E
abbrev S__law_ins (K : PySem.W.Frag) : Spec := SemS K sem__law_ins
def t__law_ins (K : PySem.W.Frag) (E : XK) : TS := (tRet (tLc (iEnumA K (tCons (tOp (rIx K) (tVar 0) (tC (.int 1))) tNil)) (gTup K 2 (gCons (gName 2) (gCons (gName 3) gNil))) (tTest (tOp (rEqD K) (tOp (rIx K) (tVar 3) (tC (.int 1))) (tVar 1))) (tVar 2) [2, 3]))
theorem u__law_ins {K : PySem.W.Frag} {mg : Str → Option Value} (T : Tx K mg) (c : Cfg) (E : XK) : SS K c (t__law_ins K E) m__law_ins := by
  exact (ss_ret (se_lc (gw_tup (gws_name (by decide) (gws_name (by decide) gws_nil))) (si_enum (sa_cons (se_fz (se_ix se_var se_int)) sa_nil)) (sgi_tup2 sg_name sg_name) (st_test (se_op os_eq (se_ix se_var se_int) se_var)) se_var))
theorem r__law_ins {K : PySem.W.Frag} {mg : Str → Option Value} (T : Tx K mg) : ∀ vs H Q E, FP (S__law_ins K) vs H Q E → t__law_ins K E { nx := fun _ H' => Q .non H', rt := Q } (start ["_law_w", "_law_room", "_law_at", "_law_pair"] vs) H := r_body (N := ["_law_w", "_law_room", "_law_at", "_law_pair"]) (ps := ["_law_w", "_law_room"]) (by decide) fun c E => u__law_ins T c E
abbrev S__law_outs (K : PySem.W.Frag) : Spec := SemS K sem__law_outs
def t__law_outs (K : PySem.W.Frag) (E : XK) : TS := (tRet (tLc (iEnumA K (tCons (tOp (rIx K) (tVar 0) (tC (.int 1))) tNil)) (gTup K 2 (gCons (gName 2) (gCons (gName 3) gNil))) (tTest (tOp (rEqD K) (tOp (rIx K) (tVar 3) (tC (.int 0))) (tVar 1))) (tVar 2) [2, 3]))
theorem u__law_outs {K : PySem.W.Frag} {mg : Str → Option Value} (T : Tx K mg) (c : Cfg) (E : XK) : SS K c (t__law_outs K E) m__law_outs := by
  exact (ss_ret (se_lc (gw_tup (gws_name (by decide) (gws_name (by decide) gws_nil))) (si_enum (sa_cons (se_fz (se_ix se_var se_int)) sa_nil)) (sgi_tup2 sg_name sg_name) (st_test (se_op os_eq (se_ix se_var se_int) se_var)) se_var))
theorem r__law_outs {K : PySem.W.Frag} {mg : Str → Option Value} (T : Tx K mg) : ∀ vs H Q E, FP (S__law_outs K) vs H Q E → t__law_outs K E { nx := fun _ H' => Q .non H', rt := Q } (start ["_law_w", "_law_room", "_law_at", "_law_pair"] vs) H := r_body (N := ["_law_w", "_law_room", "_law_at", "_law_pair"]) (ps := ["_law_w", "_law_room"]) (by decide) fun c E => u__law_outs T c E
abbrev S_Web_leading (K : PySem.W.Frag) : Spec := SemS K sem_Web_leading
def t_Web_leading (K : PySem.W.Frag) (E : XK) : TS := (tSeq (tDrop (tMeth (He.ga K "Web") "need_room" (FP (S_Web_need_room K)) [] E (tVar 0) (tCons (tVar 1) tNil)))
    (tSeq (tDrop (tMeth (He.ga K "Web") "need_room" (FP (S_Web_need_room K)) [] E (tVar 0) (tCons (tVar 2) tNil)))
    (tRet (tBMT (rCntD K) (tFld K (tVar 0) "pairs") (tCons (tTup (tCons (tVar 1) (tCons (tVar 2) tNil))) tNil)))))
theorem u_Web_leading {K : PySem.W.Frag} {mg : Str → Option Value} (T : Tx K mg) (c : Cfg) (E : XK) : SS K c (t_Web_leading K E) m_Web_leading := by
  exact (ss_seq (ss_drop (se_meth se_var (sa_cons se_var sa_nil)))
    (ss_seq (ss_drop (se_meth se_var (sa_cons se_var sa_nil)))
    (ss_ret (se_count (se_fld T.k_Web.k.c T.k_Web.pairs se_var) (se_tup (sa_cons se_var (sa_cons se_var sa_nil)))))))
theorem r_Web_leading {K : PySem.W.Frag} {mg : Str → Option Value} (T : Tx K mg) : ∀ vs H Q E, FP (S_Web_leading K) vs H Q E → t_Web_leading K E { nx := fun _ H' => Q .non H', rt := Q } (start ["self", "one", "other"] vs) H := r_body (N := ["self", "one", "other"]) (ps := ["self", "one", "other"]) (by decide) fun c E => u_Web_leading T c E
abbrev S__law_count (K : PySem.W.Frag) : Spec := SemS K sem__law_count
def t__law_count (K : PySem.W.Frag) (E : XK) : TS := (tRet (tBMT (rCntD K) (tOp (rIx K) (tVar 0) (tC (.int 1))) (tCons (tTup (tCons (tVar 1) (tCons (tVar 2) tNil))) tNil)))
theorem u__law_count {K : PySem.W.Frag} {mg : Str → Option Value} (T : Tx K mg) (c : Cfg) (E : XK) : SS K c (t__law_count K E) m__law_count := by
  exact (ss_ret (se_count (se_ix se_var se_int) (se_tup (sa_cons se_var (sa_cons se_var sa_nil)))))
theorem r__law_count {K : PySem.W.Frag} {mg : Str → Option Value} (T : Tx K mg) : ∀ vs H Q E, FP (S__law_count K) vs H Q E → t__law_count K E { nx := fun _ H' => Q .non H', rt := Q } (start ["_law_w", "_law_one", "_law_other"] vs) H := r_body (N := ["_law_w", "_law_one", "_law_other"]) (ps := ["_law_w", "_law_one", "_law_other"]) (by decide) fun c E => u__law_count T c E
abbrev S_Web_has_arrow (K : PySem.W.Frag) : Spec := SemS K sem_Web_has_arrow
def t_Web_has_arrow (K : PySem.W.Frag) (E : XK) : TS := (tRet (tCall (FP (S_is_within K)) [] E (tCons (tVar 1) (tCons (tC (.int 0)) (tCons (tOp rSubI (tCB (rLen K) (tCons (tFld K (tVar 0) "pairs") tNil)) (tC (.int 1))) tNil)))))
theorem u_Web_has_arrow {K : PySem.W.Frag} {mg : Str → Option Value} (T : Tx K mg) (c : Cfg) (E : XK) : SS K c (t_Web_has_arrow K E) m_Web_has_arrow := by
  exact (ss_ret (se_call (sa_cons se_var (sa_cons se_int (sa_cons (se_fz (se_op os_sub (se_cb cs_len (sa_cons (se_fld T.k_Web.k.c T.k_Web.pairs se_var) sa_nil)) se_int)) sa_nil)))))
theorem r_Web_has_arrow {K : PySem.W.Frag} {mg : Str → Option Value} (T : Tx K mg) : ∀ vs H Q E, FP (S_Web_has_arrow K) vs H Q E → t_Web_has_arrow K E { nx := fun _ H' => Q .non H', rt := Q } (start ["self", "arrow"] vs) H := r_body (N := ["self", "arrow"]) (ps := ["self", "arrow"]) (by decide) fun c E => u_Web_has_arrow T c E
abbrev S_Web_end (K : PySem.W.Frag) : Spec := SemS K sem_Web_end
def t_Web_end (K : PySem.W.Frag) (E : XK) : TS := (tSeq (tIfS (tNot (tB (tMeth (He.ga K "Web") "has_arrow" (FP (S_Web_has_arrow K)) [] E (tVar 0) (tCons (tVar 1) tNil))))
    tNever
    tNext)
    (tRet (tOp (rIx K) (tOp (rIx K) (tFld K (tVar 0) "pairs") (tVar 1)) (tC (.int 1)))))
theorem u_Web_end {K : PySem.W.Frag} {mg : Str → Option Value} (T : Tx K mg) (c : Cfg) (E : XK) : SS K c (t_Web_end K E) m_Web_end := by
  exact (ss_seq (ss_if (st_not (st_B (se_meth se_var (sa_cons se_var sa_nil)))) ss_never ss_next)
    (ss_ret (se_ix (se_ix (se_fld T.k_Web.k.c T.k_Web.pairs se_var) se_var) se_int)))
theorem r_Web_end {K : PySem.W.Frag} {mg : Str → Option Value} (T : Tx K mg) : ∀ vs H Q E, FP (S_Web_end K) vs H Q E → t_Web_end K E { nx := fun _ H' => Q .non H', rt := Q } (start ["self", "arrow"] vs) H := r_body (N := ["self", "arrow"]) (ps := ["self", "arrow"]) (by decide) fun c E => u_Web_end T c E
abbrev S_Web_begin (K : PySem.W.Frag) : Spec := SemS K sem_Web_begin
def t_Web_begin (K : PySem.W.Frag) (E : XK) : TS := (tSeq (tIfS (tNot (tB (tMeth (He.ga K "Web") "has_arrow" (FP (S_Web_has_arrow K)) [] E (tVar 0) (tCons (tVar 1) tNil))))
    tNever
    tNext)
    (tRet (tOp (rIx K) (tOp (rIx K) (tFld K (tVar 0) "pairs") (tVar 1)) (tC (.int 0)))))
theorem u_Web_begin {K : PySem.W.Frag} {mg : Str → Option Value} (T : Tx K mg) (c : Cfg) (E : XK) : SS K c (t_Web_begin K E) m_Web_begin := by
  exact (ss_seq (ss_if (st_not (st_B (se_meth se_var (sa_cons se_var sa_nil)))) ss_never ss_next)
    (ss_ret (se_ix (se_ix (se_fld T.k_Web.k.c T.k_Web.pairs se_var) se_var) se_int)))
theorem r_Web_begin {K : PySem.W.Frag} {mg : Str → Option Value} (T : Tx K mg) : ∀ vs H Q E, FP (S_Web_begin K) vs H Q E → t_Web_begin K E { nx := fun _ H' => Q .non H', rt := Q } (start ["self", "arrow"] vs) H := r_body (N := ["self", "arrow"]) (ps := ["self", "arrow"]) (by decide) fun c E => u_Web_begin T c E
abbrev S__law_naming (K : PySem.W.Frag) : Spec := SemS K sem__law_naming
def t__law_naming (K : PySem.W.Frag) (E : XK) : TS := (tRet (tTup (tCons (tCall (FP (S__law_mixed K)) [] E (tCons (tVar 0) (tCons (tLstRg (tRg1 (tOp (rIx K) (tVar 1) (tC (.int 0))))) tNil))) (tCons (tCall (FP (S__law_mixed K)) [] E (tCons (tVar 0) (tCons (tLstRg (tRg1 (tCB (rLen K) (tCons (tOp (rIx K) (tVar 1) (tC (.int 1))) tNil)))) tNil))) tNil))))
theorem u__law_naming {K : PySem.W.Frag} {mg : Str → Option Value} (T : Tx K mg) (c : Cfg) (E : XK) : SS K c (t__law_naming K E) m__law_naming := by
  exact (ss_ret (se_tup (sa_cons (se_fz (se_call (sa_cons se_var (sa_cons (se_fz (se_listRg (se_ix se_var se_int))) sa_nil)))) (sa_cons (se_fz (se_call (sa_cons se_var (sa_cons (se_fz (se_listRg (se_cb cs_len (sa_cons (se_ix se_var se_int) sa_nil)))) sa_nil)))) sa_nil))))
theorem r__law_naming {K : PySem.W.Frag} {mg : Str → Option Value} (T : Tx K mg) : ∀ vs H Q E, FP (S__law_naming K) vs H Q E → t__law_naming K E { nx := fun _ H' => Q .non H', rt := Q } (start ["_law_bag_here", "_law_w"] vs) H := r_body (N := ["_law_bag_here", "_law_w"]) (ps := ["_law_bag_here", "_law_w"]) (by decide) fun c E => u__law_naming T c E
abbrev S__law_named (K : PySem.W.Frag) : Spec := SemS K sem__law_named
def t__law_named (K : PySem.W.Frag) (E : XK) : TS := (tSeq (tAsg (tOp rRep (tLst (tCons (tTup (tCons (tC (.int 0)) (tCons (tC (.int 0)) tNil))) tNil)) (tCB (rLen K) (tCons (tOp (rIx K) (tVar 0) (tC (.int 1))) tNil))) (gName 3))
    (tSeq (tFor (iEnumA K (tCons (tOp (rIx K) (tVar 0) (tC (.int 1))) tNil)) (gTup K 2 (gCons (gName 4) (gCons (gName 5) gNil)))
    (tAsg (tTup (tCons (tOp (rIx K) (tVar 1) (tOp (rIx K) (tVar 5) (tC (.int 0)))) (tCons (tOp (rIx K) (tVar 1) (tOp (rIx K) (tVar 5) (tC (.int 1)))) tNil))) (gSub (tVar 3) (tOp (rIx K) (tVar 2) (tVar 4)) rSetL)))
    (tRet (tTup (tCons (tOp (rIx K) (tVar 0) (tC (.int 0))) (tCons (tCB (rTupN K) (tCons (tVar 3) tNil)) tNil))))))
theorem u__law_named {K : PySem.W.Frag} {mg : Str → Option Value} (T : Tx K mg) (c : Cfg) (E : XK) : SS K c (t__law_named K E) m__law_named := by
  exact (ss_seq (ss_asg (se_rep (se_lst (sa_cons (se_tup (sa_cons se_int (sa_cons se_int sa_nil))) sa_nil)) (se_cb cs_len (sa_cons (se_ix se_var se_int) sa_nil))) sg_name)
    (ss_seq (ss_for (si_enum (sa_cons (se_fz (se_ix se_var se_int)) sa_nil)) (sgi_tup2 sg_name sg_name)
    (ss_setI (se_tup (sa_cons (se_fz (se_ix se_var (se_ix se_var se_int))) (sa_cons (se_fz (se_ix se_var (se_ix se_var se_int))) sa_nil))) (se_ix se_var se_var)))
    (ss_ret (se_frz (se_tup (sa_cons (se_fz (se_ix se_var se_int)) (sa_cons (se_fz (se_tupN se_var)) sa_nil)))))))
theorem r__law_named {K : PySem.W.Frag} {mg : Str → Option Value} (T : Tx K mg) : ∀ vs H Q E, FP (S__law_named K) vs H Q E → t__law_named K E { nx := fun _ H' => Q .non H', rt := Q } (start ["_law_w", "_law_rooms", "_law_arrows", "_law_pairs", "_law_at", "_law_pair"] vs) H := r_body (N := ["_law_w", "_law_rooms", "_law_arrows", "_law_pairs", "_law_at", "_law_pair"]) (ps := ["_law_w", "_law_rooms", "_law_arrows"]) (by decide) fun c E => u__law_named T c E
abbrev S_Web___eq__ (K : PySem.W.Frag) : Spec := SemS K sem_Web___eq__
def t_Web___eq__ (K : PySem.W.Frag) (E : XK) : TS := (tRet (tAndV (tCB (rIsi K) (tCons (tVar 1) (tCons (tC (.ref (He.ga K "Web"))) tNil))) (tAndV (tOp (rEqD K) (tFld K (tVar 0) "size") (tFld K (tVar 1) "size")) (tOp (rEqD K) (tFld K (tVar 0) "pairs") (tFld K (tVar 1) "pairs")))))
theorem u_Web___eq__ {K : PySem.W.Frag} {mg : Str → Option Value} (T : Tx K mg) (c : Cfg) (E : XK) : SS K c (t_Web___eq__ K E) m_Web___eq__ := by
  exact (ss_ret (se_andV (se_isiO T.k_Web.k se_var) (se_andV (se_op os_eq (se_fld T.k_Web.k.c T.k_Web.size se_var) (se_fld T.k_Web.k.c T.k_Web.size se_var)) (se_op os_eq (se_fld T.k_Web.k.c T.k_Web.pairs se_var) (se_fld T.k_Web.k.c T.k_Web.pairs se_var)))))
theorem r_Web___eq__ {K : PySem.W.Frag} {mg : Str → Option Value} (T : Tx K mg) : ∀ vs H Q E, FP (S_Web___eq__ K) vs H Q E → t_Web___eq__ K E { nx := fun _ H' => Q .non H', rt := Q } (start ["self", "other"] vs) H := r_body (N := ["self", "other"]) (ps := ["self", "other"]) (by decide) fun c E => u_Web___eq__ T c E
abbrev S__law_made (K : PySem.W.Frag) : Spec := SemS K sem__law_made
def t__law_made (K : PySem.W.Frag) (E : XK) : TS := (tRet (tMake (He.ga K "Web") (FP (S_Web___init__ K)) [] E (tCons (tOp (rIx K) (tVar 0) (tC (.int 0))) (tCons (tCB (rListOf K) (tCons (tOp (rIx K) (tVar 0) (tC (.int 1))) tNil)) tNil))))
theorem u__law_made {K : PySem.W.Frag} {mg : Str → Option Value} (T : Tx K mg) (c : Cfg) (E : XK) : SS K c (t__law_made K E) m__law_made := by
  exact (ss_ret (se_make (sa_cons (se_fz (se_ix se_var se_int)) (sa_cons (se_fz (se_list (se_ix se_var se_int))) sa_nil))))
theorem r__law_made {K : PySem.W.Frag} {mg : Str → Option Value} (T : Tx K mg) : ∀ vs H Q E, FP (S__law_made K) vs H Q E → t__law_made K E { nx := fun _ H' => Q .non H', rt := Q } (start ["_law_w"] vs) H := r_body (N := ["_law_w"]) (ps := ["_law_w"]) (by decide) fun c E => u__law_made T c E
abbrev S_Web___repr__ (K : PySem.W.Frag) : Spec := SemS K sem_Web___repr__
def t_Web___repr__ (K : PySem.W.Frag) (E : XK) : TS := (tRet (tJoined [(tC (.str "Web(")), (tFmt (tFld K (tVar 0) "size")), (tC (.str " rooms, ")), (tFmt (tCB (rLen K) (tCons (tFld K (tVar 0) "pairs") tNil))), (tC (.str " arrows)"))]))
theorem u_Web___repr__ {K : PySem.W.Frag} {mg : Str → Option Value} (T : Tx K mg) (c : Cfg) (E : XK) : SS K c (t_Web___repr__ K E) m_Web___repr__ := by
  exact (ss_ret (se_joined (sj_cons se_str (sj_cons (se_fmt (se_fld T.k_Web.k.c T.k_Web.size se_var)) (sj_cons se_str (sj_cons (se_fmt (se_cb cs_len (sa_cons (se_fld T.k_Web.k.c T.k_Web.pairs se_var) sa_nil))) (sj_cons se_str sj_nil)))))))
theorem r_Web___repr__ {K : PySem.W.Frag} {mg : Str → Option Value} (T : Tx K mg) : ∀ vs H Q E, FP (S_Web___repr__ K) vs H Q E → t_Web___repr__ K E { nx := fun _ H' => Q .non H', rt := Q } (start ["self"] vs) H := r_body (N := ["self"]) (ps := ["self"]) (by decide) fun c E => u_Web___repr__ T c E
abbrev S_law (K : PySem.W.Frag) : Spec := SemS K sem_law
def t_law (K : PySem.W.Frag) (E : XK) : TS := (tSeq (tAsg (tCall (FP (S__law_bag K)) [] E (tCons (tVar 0) tNil)) (gName 1))
    (tSeq (tFor (iRng1 (tCons (tC (.int 4)) tNil)) (gName 2)
    (tSeq (tAsg (tCall (FP (S__law_web K)) [] E (tCons (tVar 1) (tCons (tC (.int 6)) (tCons (tC (.int 8)) tNil)))) (gName 3))
    (tSeq (tAsg (tLc (iSeq K (tOp (rIx K) (tVar 3) (tC (.int 1)))) (gName 6) tYes (tIf (tTest (tOp (rEqD K) (tCall (FP (S__law_pull K)) [] E0 (tCons (tVar 1) (tCons (tC (.int 2)) tNil))) (tC (.int 0)))) (tCB (rListOf K) (tCons (tVar 6) tNil)) (tVar 6)) [6]) (gName 4))
    (tSeq (tAsg (tMake (He.ga K "Web") (FP (S_Web___init__ K)) [] E (tCons (tOp (rIx K) (tVar 3) (tC (.int 0))) (tCons (tVar 4) tNil))) (gName 5))
    (tSeq (tDrop (tBM K "list" rAppend (tVar 4) (tCons (tTup (tCons (tC (.int 0)) (tCons (tC (.int 0)) tNil))) tNil)))
    (tSeq (tFor (iSeq K (tLc (iSeq K (tVar 4)) (gName 6) (tB (tCB (rIsi K) (tCons (tVar 6) (tCons (tC (.ty "list")) tNil)))) (tVar 6) [6])) (gName 6)
    (tDrop (tBM K "list" rAppend (tVar 6) (tCons (tC (.int 0)) tNil))))
    (tSeq (tFor (iRng1 (tCons (tC (.int 2)) tNil)) (gName 7)
    (tSeq (tAsg (tMeth (He.ga K "Web") "arrows" (FP (S_Web_arrows K)) [] E (tVar 5) tNil) (gName 8))
    (tSeq (tIfS (tNot (tB (tCall (FP (S__law_same K 6)) [] E (tCons (tLst (tCons (tMeth (He.ga K "Web") "rooms" (FP (S_Web_rooms K)) [] E (tVar 5) tNil) (tCons (tVar 8) (tCons (tCB (rOwnLen (He.ga K "Web") (FP (S_Web___len__ K)) E) (tCons (tVar 5) tNil)) tNil)))) (tCons (tLst (tCons (tOp (rIx K) (tVar 3) (tC (.int 0))) (tCons (tCB (rListOf K) (tCons (tOp (rIx K) (tVar 3) (tC (.int 1))) tNil)) (tCons (tCB (rLen K) (tCons (tOp (rIx K) (tVar 3) (tC (.int 1))) tNil)) tNil)))) tNil)))))
    (tRet (tC (.bl false)))
    tNext)
    (tSeq (tDrop (tBM0 K "list" rPop (tVar 8)))
    (tFor (iRng1 (tCons (tOp (rIx K) (tVar 3) (tC (.int 0))) tNil)) (gName 9)
    (tSeq (tPar 10 11 (tCons (tMeth (He.ga K "Web") "outs" (FP (S_Web_outs K)) [] E (tVar 5) (tCons (tVar 9) tNil)) (tCons (tMeth (He.ga K "Web") "ins" (FP (S_Web_ins K)) [] E (tVar 5) (tCons (tVar 9) tNil)) tNil)))
    (tSeq (tIfS (tNot (tB (tCall (FP (S__law_same K 6)) [] E (tCons (tLst (tCons (tVar 10) (tCons (tVar 11) tNil))) (tCons (tLst (tCons (tCall (FP (S__law_outs K)) [] E (tCons (tVar 3) (tCons (tVar 9) tNil))) (tCons (tCall (FP (S__law_ins K)) [] E (tCons (tVar 3) (tCons (tVar 9) tNil))) tNil))) tNil)))))
    (tRet (tC (.bl false)))
    tNext)
    (tSeq (tDrop (tBM K "list" rAppend (tVar 10) (tCons (tC (.int 0)) tNil)))
    (tSeq (tDrop (tBM K "list" rAppend (tVar 11) (tCons (tC (.int 0)) tNil)))
    (tSeq (tAsg (tLc (iRng1 (tCons (tOp (rIx K) (tVar 3) (tC (.int 0))) tNil)) (gName 17) tYes (tMeth (He.ga K "Web") "leading" (FP (S_Web_leading K)) [] E0 (tVar 5) (tCons (tVar 9) (tCons (tVar 17) tNil))) [17]) (gName 12))
    (tIfS (tNot (tB (tCall (FP (S__law_same K 6)) [] E (tCons (tVar 12) (tCons (tLc (iRng1 (tCons (tOp (rIx K) (tVar 3) (tC (.int 0))) tNil)) (gName 17) tYes (tCall (FP (S__law_count K)) [] E0 (tCons (tVar 3) (tCons (tVar 9) (tCons (tVar 17) tNil)))) [17]) tNil)))))
    (tRet (tC (.bl false)))
    tNext)))))))))))
    (tSeq (tFor (iEnumA K (tCons (tOp (rIx K) (tVar 3) (tC (.int 1))) tNil)) (gTup K 2 (gCons (gName 13) (gCons (gName 6) gNil)))
    (tIfS (tNot (tB (tCall (FP (S__law_same K 6)) [] E (tCons (tTup (tCons (tMeth (He.ga K "Web") "begin" (FP (S_Web_begin K)) [] E (tVar 5) (tCons (tVar 13) tNil)) (tCons (tMeth (He.ga K "Web") "end" (FP (S_Web_end K)) [] E (tVar 5) (tCons (tVar 13) tNil)) tNil))) (tCons (tVar 6) tNil)))))
    (tRet (tC (.bl false)))
    tNext))
    (tSeq (tAsg (tCall (FP (S__law_naming K)) [] E (tCons (tVar 1) (tCons (tVar 3) tNil))) (gTup K 2 (gCons (gName 14) (gCons (gName 15) gNil))))
    (tSeq (tAsg (tCall (FP (S__law_named K)) [] E (tCons (tVar 3) (tCons (tVar 14) (tCons (tVar 15) tNil)))) (gName 16))
    (tSeq (tIfS (tOr (tTest (tOp (rNeD K) (tOp (rOwnEq K (He.ga K "Web") (FP (S_Web___eq__ K)) E) (tVar 5) (tCall (FP (S__law_made K)) [] E (tCons (tVar 16) tNil))) (tOp (rEqD K) (tVar 3) (tVar 16)))) (tOr (tTest (tOp (rOwnNe K (He.ga K "Web") (FP (S_Web___eq__ K)) E) (tVar 5) (tCall (FP (S__law_made K)) [] E (tCons (tVar 3) tNil)))) (tTest (tOp (rOwnEq K (He.ga K "Web") (FP (S_Web___eq__ K)) E) (tVar 5) (tOp (rIx K) (tVar 3) (tC (.int 1)))))))
    (tRet (tC (.bl false)))
    tNext)
    (tSeq (tIfS (tTest (tOp (rOwnEq K (He.ga K "Web") (FP (S_Web___eq__ K)) E) (tVar 5) (tMake (He.ga K "Web") (FP (S_Web___init__ K)) [] E (tCons (tOp rAddI (tOp (rIx K) (tVar 3) (tC (.int 0))) (tC (.int 1))) (tCons (tOp rCat (tCB (rListOf K) (tCons (tOp (rIx K) (tVar 3) (tC (.int 1))) tNil)) (tLst (tCons (tTup (tCons (tOp (rIx K) (tVar 3) (tC (.int 0))) (tCons (tC (.int 0)) tNil))) tNil))) tNil)))))
    (tRet (tC (.bl false)))
    tNext)
    (tIfS (tTest (tOp (rNeD K) (tCB (rOwnRepr (He.ga K "Web") (FP (S_Web___repr__ K)) E) (tCons (tVar 5) tNil)) (tOp rAddS (tOp rAddS (tOp rAddS (tOp rAddS (tC (.str "Web(")) (tCB rStrI (tCons (tOp (rIx K) (tVar 3) (tC (.int 0))) tNil))) (tC (.str " rooms, "))) (tCB rStrI (tCons (tCB (rLen K) (tCons (tOp (rIx K) (tVar 3) (tC (.int 1))) tNil)) tNil))) (tC (.str " arrows)")))))
    (tRet (tC (.bl false)))
    tNext)))))))))))))
    (tRet (tC (.bl true)))))
theorem u_law {K : PySem.W.Frag} {mg : Str → Option Value} (T : Tx K mg) (c : Cfg) (E : XK) : SS K c (t_law K E) m_law := by
  exact (ss_seq (ss_asg (se_call (sa_cons se_var sa_nil)) sg_name)
    (ss_seq (ss_for (si_rng1 (sa_cons se_int sa_nil)) sgi_name
    (ss_seq (ss_asg (se_call (sa_cons se_var (sa_cons se_int (sa_cons se_int sa_nil)))) sg_name)
    (ss_hand (ss_seq (ss_for (si_rng1 (sa_cons se_int sa_nil)) sgi_name
    (ss_seq (ss_asg (se_meth se_var sa_nil) sg_name)
    (ss_seq (ss_if (st_not (st_B (se_call (sa_cons (se_fz (se_lst (sa_cons (se_fz (se_meth se_var sa_nil)) (sa_cons se_var (sa_cons (se_fz (se_ownLen se_var)) sa_nil))))) (sa_cons (se_fz (se_lst (sa_cons (se_fz (se_ix se_var se_int)) (sa_cons (se_fz (se_list (se_ix se_var se_int))) (sa_cons (se_fz (se_cb cs_len (sa_cons (se_ix se_var se_int) sa_nil))) sa_nil))))) sa_nil))))) (ss_ret se_bl) ss_next)
    (ss_seq (ss_drop se_pop)
    (ss_for (si_rng1 (sa_cons (se_fz (se_ix se_var se_int)) sa_nil)) sgi_name
    (ss_seq (ss_par (se_meth se_var (sa_cons se_var sa_nil)) (se_meth se_var (sa_cons se_var sa_nil)))
    (ss_seq (ss_if (st_not (st_B (se_call (sa_cons (se_fz (se_lst (sa_cons se_var (sa_cons se_var sa_nil)))) (sa_cons (se_fz (se_lst (sa_cons (se_fz (se_call (sa_cons se_var (sa_cons se_var sa_nil)))) (sa_cons (se_fz (se_call (sa_cons se_var (sa_cons se_var sa_nil)))) sa_nil)))) sa_nil))))) (ss_ret se_bl) ss_next)
    (ss_seq (ss_app se_int)
    (ss_seq (ss_app se_int)
    (ss_seq (ss_asg (se_lc (gw_name (by decide)) (si_rng1 (sa_cons (se_fz (se_ix se_var se_int)) sa_nil)) sgi_name st_yes (se_fz (se_meth se_var (sa_cons se_var (sa_cons se_var sa_nil))))) sg_name)
    (ss_if (st_not (st_B (se_call (sa_cons se_var (sa_cons (se_fz (se_lc (gw_name (by decide)) (si_rng1 (sa_cons (se_fz (se_ix se_var se_int)) sa_nil)) sgi_name st_yes (se_fz (se_call (sa_cons se_var (sa_cons se_var (sa_cons se_var sa_nil))))))) sa_nil))))) (ss_ret se_bl) ss_next)))))))))))
    (ss_seq (ss_for (si_enum (sa_cons (se_fz (se_ix se_var se_int)) sa_nil)) (sgi_tup2 sg_name sg_name)
    (ss_if (st_not (st_B (se_call (sa_cons (se_tup (sa_cons (se_fz (se_meth se_var (sa_cons se_var sa_nil))) (sa_cons (se_fz (se_meth se_var (sa_cons se_var sa_nil))) sa_nil))) (sa_cons se_var sa_nil))))) (ss_ret se_bl) ss_next))
    (ss_seq (ss_asg (se_call (sa_cons se_var (sa_cons se_var sa_nil))) (sg_tup2 sg_name sg_name))
    (ss_seq (ss_asg (se_call (sa_cons se_var (sa_cons se_var (sa_cons se_var sa_nil)))) sg_name)
    (ss_seq (ss_if (st_or (st_test (se_op os_ne (se_ownEq T.k_Web.k.sub se_var (se_call (sa_cons se_var sa_nil))) (se_op os_eq se_var se_var))) (st_or (st_test (se_ownNe T.k_Web.k.sub se_var (se_call (sa_cons se_var sa_nil)))) (st_test (se_ownEq T.k_Web.k.sub se_var (se_ix se_var se_int))))) (ss_ret se_bl) ss_next)
    (ss_seq (ss_if (st_test (se_ownEq T.k_Web.k.sub se_var (se_make (sa_cons (se_fz (se_op os_add (se_ix se_var se_int) se_int)) (sa_cons (se_fz (se_cat (se_list (se_ix se_var se_int)) (se_lst (sa_cons (se_tup (sa_cons (se_fz (se_ix se_var se_int)) (sa_cons se_int sa_nil))) sa_nil)))) sa_nil))))) (ss_ret se_bl) ss_next)
    (ss_if (st_test (se_op os_ne (se_ownRepr se_var) (se_op os_adds (se_op os_adds (se_op os_adds (se_op os_adds se_str (se_cb cs_strI (sa_cons (se_ix se_var se_int) sa_nil))) se_str) (se_cb cs_strI (sa_cons (se_cb cs_len (sa_cons (se_ix se_var se_int) sa_nil)) sa_nil))) se_str))) (ss_ret se_bl) ss_next))))))))))
    (ss_ret se_bl)))
theorem r_law {K : PySem.W.Frag} {mg : Str → Option Value} (T : Tx K mg) : ∀ vs H Q E, FP (S_law K) vs H Q E → t_law K E { nx := fun _ H' => Q .non H', rt := Q } (start ["_law_script", "_law_bag_here", "_law_turn", "_law_w", "_law_handed", "_law_web_here", "_law_pair", "_law_again_z", "_law_some", "_law_room", "_law_outs_here", "_law_ins_here", "_law_counts", "_law_at", "_law_rooms", "_law_arrows", "_law_other", "_law_one"] vs) H := r_body (N := ["_law_script", "_law_bag_here", "_law_turn", "_law_w", "_law_handed", "_law_web_here", "_law_pair", "_law_again_z", "_law_some", "_law_room", "_law_outs_here", "_law_ins_here", "_law_counts", "_law_at", "_law_rooms", "_law_arrows", "_law_other", "_law_one"]) (ps := ["_law_script"]) (by decide) fun c E => u_law T c E
section
variable {P : Program} {w : World} {K : PySem.W.Frag} {mg : Str → Option Value}
abbrev s__law_bag : Stmt := topS 19
theorem sc__law_bag : FnScope ["_law_script", "_law_seed", "_law_cell"] ["_law_script"] (defScope s__law_bag) := ⟨rfl, rfl, rfl, by decide +kernel, rfl, by decide +kernel, by decide +kernel⟩
theorem ok__law_bag (T : Tx K mg) {fd : FuncData} (F : FnP K "_law_bag" "_law_bag" s__law_bag (He.fAd K ("_law_bag", none)) fd) : FO P w K mg 1 ("_law_bag", none) ["_law_script"] (S__law_bag K) := by
  refine ⟨⟨fd, F.kp, F.bindsN (fun _ _ _ _ _ _ us hl => match us, hl with | [_], _ => rfl), fun base => F.ok sc__law_bag (fp_len (ps := ["_law_script"]) (fun as Ψ Ξ h => good_body as Ψ Ξ h)) (fun cdv A outer s H vs Q E hr h => ⟨t__law_bag K E, ?_, r__law_bag T vs H Q E h⟩)⟩⟩
  have tkD := L2N.takes_of (X := cxOf (CXZ P w) P w K mg base ["_law_script", "_law_seed", "_law_cell"] "_law_bag" (defScope s__law_bag) (He.fAd K ("_law_bag", none)) cdv A outer s H E) (E := E) rfl rfl rfl rfl
  exact (pss_cons (ps_set (i := 1) sc__law_bag.nd rfl (.inl rfl) pe_int)
    (pss_cons (ps_for (L2.passes_of rfl) rfl (pi_seq (pe_slice sl_list (pv 0) po_none (po_some pe_int))) (pg_name (i := 2) sc__law_bag.nd rfl (.inl rfl))
    (pss_one (ps_set (i := 1) sc__law_bag.nd rfl (.inl rfl) (pe_op op_mod (pe_op op_add (pe_op op_add (pe_op op_mul (pv 1) pe_int) (pv 2)) pe_int) pe_int))))
    (pss_one (ps_ret (pe_lst (pa_cons (pe_callTy call_list_of (by rfl) T.f_list (by decide +kernel) (pa_cons (pe_slice sl_list (pv 0) po_none (po_some pe_int)) pa_nil)) (pa_cons pe_int (pa_cons pe_int (pa_cons (pv 1) (pa_cons pe_int pa_nil))))))))))
abbrev s__law_pull : Stmt := topS 20
theorem sc__law_pull : FnScope ["_law_bag_here", "_law_many", "_law_rest", "_law_cell", "_law_one", "_law_two"] ["_law_bag_here", "_law_many"] (defScope s__law_pull) := ⟨rfl, rfl, rfl, by decide +kernel, rfl, by decide +kernel, by decide +kernel⟩
theorem ok__law_pull (T : Tx K mg) {fd : FuncData} (F : FnP K "_law_pull" "_law_pull" s__law_pull (He.fAd K ("_law_pull", none)) fd) : FO P w K mg 1 ("_law_pull", none) ["_law_bag_here", "_law_many"] (S__law_pull K) := by
  refine ⟨⟨fd, F.kp, F.bindsN (fun _ _ _ _ _ _ us hl => match us, hl with | [_, _], _ => rfl), fun base => F.ok sc__law_pull (fp_len (ps := ["_law_bag_here", "_law_many"]) (fun as Ψ Ξ h => good_body as Ψ Ξ h)) (fun cdv A outer s H vs Q E hr h => ⟨t__law_pull K E, ?_, r__law_pull T vs H Q E h⟩)⟩⟩
  have tkD := L2N.takes_of (X := cxOf (CXZ P w) P w K mg base ["_law_bag_here", "_law_many", "_law_rest", "_law_cell", "_law_one", "_law_two"] "_law_pull" (defScope s__law_pull) (He.fAd K ("_law_pull", none)) cdv A outer s H E) (E := E) rfl rfl rfl rfl
  exact (pss_cons (ps_augS (pv 0) pe_int pget_list pe_int ip_add set_list (fun _ _ _ => rfl))
    (pss_cons (ps_if (pt_cmpR op_gt (pe_ix ix_seq (pv 0) pe_int (fun _ _ => rfl)) pe_int (nomark _)) (pss_cons (ps_set (i := 2) sc__law_pull.nd rfl (.inl rfl) (pe_ix ix_seq (pv 0) pe_int (fun _ _ => rfl)))
    (pss_cons (ps_asg (pe_op op_fdivW (pv 2) (pv 1)) (pg_sub (pv 0) pe_int set_list))
    (pss_one (ps_ret (pe_op op_mod (pv 2) (pv 1)))))) pss_nil)
    (pss_cons (ps_set (i := 3) sc__law_pull.nd rfl (.inl rfl) (pe_ix ix_seq (pv 0) pe_int (fun _ _ => rfl)))
    (pss_cons (ps_if (pt_cmpR op_lt (pe_ix ix_seq (pv 0) pe_int (fun _ _ => rfl)) (pe_callB call_len_seq (by rfl) T.f_len (by decide +kernel) (pa_cons (pe_ix ix_seq (pv 0) pe_int (fun _ _ => rfl)) pa_nil)) (nomark _)) (pss_cons (ps_set (i := 3) sc__law_pull.nd rfl (.inl rfl) (pe_ix ix_seq (pe_ix ix_seq (pv 0) pe_int (fun _ _ => rfl)) (pe_ix ix_seq (pv 0) pe_int (fun _ _ => rfl)) (fun _ _ => rfl)))
    (pss_one (ps_augS (pv 0) pe_int pget_list pe_int ip_add set_list (fun _ _ _ => rfl)))) pss_nil)
    (pss_cons (ps_if (pt_cmpR op_ge (pv 3) (pe_op op_pow pe_int pe_int) (nomark _)) (pss_cons (ps_asg (pe_op op_fdivW (pv 3) (pv 1)) (pg_sub (pv 0) pe_int set_list))
    (pss_one (ps_ret (pe_op op_mod (pv 3) (pv 1))))) pss_nil)
    (pss_cons (ps_set (i := 4) sc__law_pull.nd rfl (.inl rfl) (pe_op op_mod (pe_op op_add (pe_op op_add (pe_op op_add (pe_op op_mul (pv 3) pe_int) (pe_op op_mul (pe_ix ix_seq (pv 0) pe_int (fun _ _ => rfl)) pe_int)) (pe_op op_mul (pe_ix ix_seq (pv 0) pe_int (fun _ _ => rfl)) pe_int)) pe_int) pe_int))
    (pss_cons (ps_set (i := 5) sc__law_pull.nd rfl (.inl rfl) (pe_op op_mod (pe_op op_add (pe_op op_add (pe_op op_mul (pv 4) (pe_op op_add (pe_op op_mod (pv 4) pe_int) pe_int)) (pe_op op_mul (pe_ix ix_seq (pv 0) pe_int (fun _ _ => rfl)) pe_int)) (pe_op op_mod (pe_ix ix_seq (pv 0) pe_int (fun _ _ => rfl)) pe_int)) pe_int))
    (pss_cons (ps_asg (pe_op op_mod (pe_op op_add (pe_op op_mul (pe_ix ix_seq (pv 0) pe_int (fun _ _ => rfl)) pe_int) (pv 5)) pe_int) (pg_sub (pv 0) pe_int set_list))
    (pss_one (ps_ret (pe_op op_mod (pe_op op_fdivW (pv 5) pe_int) (pv 1))))))))))))
abbrev s__law_mixed : Stmt := topS 22
theorem sc__law_mixed : FnScope ["_law_bag_here", "_law_some", "_law_left", "_law_found", "_law_k"] ["_law_bag_here", "_law_some"] (defScope s__law_mixed) := ⟨rfl, rfl, rfl, by decide +kernel, rfl, by decide +kernel, by decide +kernel⟩
theorem ok__law_mixed (T : Tx K mg) {fd : FuncData} (F : FnP K "_law_mixed" "_law_mixed" s__law_mixed (He.fAd K ("_law_mixed", none)) fd) (D__law_pull : FO P w K mg 1 ("_law_pull", none) ["_law_bag_here", "_law_many"] (S__law_pull K)) : FO P w K mg 2 ("_law_mixed", none) ["_law_bag_here", "_law_some"] (S__law_mixed K) := by
  obtain ⟨fd__law_pull, k__law_pull, b__law_pull, G__law_pull⟩ := D__law_pull.ex
  refine ⟨⟨fd, F.kp, F.bindsN (fun _ _ _ _ _ _ us hl => match us, hl with | [_, _], _ => rfl), fun base => F.ok sc__law_mixed (fp_len (ps := ["_law_bag_here", "_law_some"]) (fun as Ψ Ξ h => good_body as Ψ Ξ h)) (fun cdv A outer s H vs Q E hr h => ⟨t__law_mixed K E, ?_, r__law_mixed T vs H Q E h⟩)⟩⟩
  have G__law_pull := G__law_pull base
  have tkD := L2N.takes_of (X := cxOf (CXZ P w) P w K mg base ["_law_bag_here", "_law_some", "_law_left", "_law_found", "_law_k"] "_law_mixed" (defScope s__law_mixed) (He.fAd K ("_law_mixed", none)) cdv A outer s H E) (E := E) rfl rfl rfl rfl
  exact (pss_cons (ps_par (i := 2) (j := 3) (by rfl) sc__law_mixed.nd rfl rfl (by decide) rfl rfl (pa_cons (pe_callTy call_list_of (by rfl) T.f_list (by decide +kernel) (pa_cons (pv 1) pa_nil)) (pa_cons (pe_lst pa_nil) pa_nil)) (by rfl))
    (pss_cons (ps_for (L2.passes_of rfl) rfl (pi_range1 (by rfl) T.f_range (pa_cons (pe_callB call_len_seq (by rfl) T.f_len (by decide +kernel) (pa_cons (pv 1) pa_nil)) pa_nil)) (pg_name (i := 4) sc__law_mixed.nd rfl (.inl rfl))
    (pss_one (ps_expr (pe_bm PySem.F.plainAttrs_list PySem.F.slot_list_append PySem.F.type_list_append mt_append (pv 3) (pa_cons (pe_bm PySem.F.plainAttrs_list PySem.F.slot_list_pop PySem.F.type_list_pop mt_popAt (pv 2) (pa_cons (pe_call G__law_pull (hr.mono (by decide)) rfl T.g__law_pull k__law_pull b__law_pull .nil (passD tkD) (pa_cons (pv 0) (pa_cons (pe_callB call_len_seq (by rfl) T.f_len (by decide +kernel) (pa_cons (pv 2) pa_nil)) pa_nil))) pa_nil)) pa_nil)))))
    (pss_one (ps_ret (pv 3)))))
abbrev s__law_web : Stmt := topS 23
theorem sc__law_web : FnScope ["_law_bag_here", "_law_rooms_most", "_law_more_most", "_law_rooms", "_law_pairs", "_law_k", "_law_room"] ["_law_bag_here", "_law_rooms_most", "_law_more_most"] (defScope s__law_web) := ⟨rfl, rfl, rfl, by decide +kernel, rfl, by decide +kernel, by decide +kernel⟩
theorem ok__law_web (T : Tx K mg) {fd : FuncData} (F : FnP K "_law_web" "_law_web" s__law_web (He.fAd K ("_law_web", none)) fd) (D__law_pull : FO P w K mg 1 ("_law_pull", none) ["_law_bag_here", "_law_many"] (S__law_pull K)) (D__law_mixed : FO P w K mg 2 ("_law_mixed", none) ["_law_bag_here", "_law_some"] (S__law_mixed K)) : FO P w K mg 3 ("_law_web", none) ["_law_bag_here", "_law_rooms_most", "_law_more_most"] (S__law_web K) := by
  obtain ⟨fd__law_pull, k__law_pull, b__law_pull, G__law_pull⟩ := D__law_pull.ex
  obtain ⟨fd__law_mixed, k__law_mixed, b__law_mixed, G__law_mixed⟩ := D__law_mixed.ex
  refine ⟨⟨fd, F.kp, F.bindsN (fun _ _ _ _ _ _ us hl => match us, hl with | [_, _, _], _ => rfl), fun base => F.ok sc__law_web (fp_len (ps := ["_law_bag_here", "_law_rooms_most", "_law_more_most"]) (fun as Ψ Ξ h => good_body as Ψ Ξ h)) (fun cdv A outer s H vs Q E hr h => ⟨t__law_web K E, ?_, r__law_web T vs H Q E h⟩)⟩⟩
  have G__law_pull := G__law_pull base
  have G__law_mixed := G__law_mixed base
  have tkD := L2N.takes_of (X := cxOf (CXZ P w) P w K mg base ["_law_bag_here", "_law_rooms_most", "_law_more_most", "_law_rooms", "_law_pairs", "_law_k", "_law_room"] "_law_web" (defScope s__law_web) (He.fAd K ("_law_web", none)) cdv A outer s H E) (E := E) rfl rfl rfl rfl
  exact (pss_cons (ps_set (i := 3) sc__law_web.nd rfl (.inr rfl) (pe_op op_add pe_int (pe_call G__law_pull (hr.mono (by decide)) rfl T.g__law_pull k__law_pull b__law_pull .nil (passD tkD) (pa_cons (pv 0) (pa_cons (pv 1) pa_nil)))))
    (pss_cons (ps_setLc (i := 4) (own := [("_law_room", 6)]) (g := (gName 6)) (tt := tYes) (by rfl) sc__law_web.nd rfl rfl (sw_true rfl rfl rfl (by decide +kernel)) (pi_range1 (by rfl) T.f_range (pa_cons (pv 3) pa_nil)) (blkOk_by (by kernel_rfl)) (fun _ _ _ _ _ => (pg_name (i := 6) sc__law_web.nd rfl (.inl rfl))) (fun _ _ _ _ _ => pts_nil) (fun _ _ _ _ _ => (pe_tup (pa_cons (pv 6) (pa_cons (pe_call G__law_pull (hr.mono (by decide)) rfl T.g__law_pull k__law_pull b__law_pull .nil passL0 (pa_cons (pv 0) (pa_cons (pv 3) pa_nil))) pa_nil)))))
    (pss_cons (ps_for (L2.passes_of rfl) rfl (pi_range1 (by rfl) T.f_range (pa_cons (pe_call G__law_pull (hr.mono (by decide)) rfl T.g__law_pull k__law_pull b__law_pull .nil (passD tkD) (pa_cons (pv 0) (pa_cons (pe_op op_add (pv 2) pe_int) pa_nil))) pa_nil)) (pg_name (i := 5) sc__law_web.nd rfl (.inl rfl))
    (pss_one (ps_expr (pe_bm PySem.F.plainAttrs_list PySem.F.slot_list_append PySem.F.type_list_append mt_append (pv 4) (pa_cons (pe_tup (pa_cons (pe_call G__law_pull (hr.mono (by decide)) rfl T.g__law_pull k__law_pull b__law_pull .nil (passD tkD) (pa_cons (pv 0) (pa_cons (pv 3) pa_nil))) (pa_cons (pe_call G__law_pull (hr.mono (by decide)) rfl T.g__law_pull k__law_pull b__law_pull .nil (passD tkD) (pa_cons (pv 0) (pa_cons (pv 3) pa_nil))) pa_nil))) pa_nil)))))
    (pss_one (ps_ret (pe_tup (pa_cons (pv 3) (pa_cons (pe_callTy call_tupleN (by rfl) T.f_tuple (by decide +kernel) (pa_cons (pe_call G__law_mixed (hr.mono (by decide)) rfl T.g__law_mixed k__law_mixed b__law_mixed .nil (passD tkD) (pa_cons (pv 0) (pa_cons (pv 4) pa_nil))) pa_nil)) pa_nil))))))))
abbrev s_is_within : Stmt := topS 14
theorem sc_is_within : FnScope ["thing", "low", "high"] ["thing", "low", "high"] (defScope s_is_within) := ⟨rfl, rfl, rfl, by decide +kernel, rfl, by decide +kernel, by decide +kernel⟩
theorem ok_is_within (T : Tx K mg) {fd : FuncData} (F : FnP K "is_within" "is_within" s_is_within (He.fAd K ("is_within", none)) fd) : FO P w K mg 1 ("is_within", none) ["thing", "low", "high"] (S_is_within K) := by
  refine ⟨⟨fd, F.kp, F.bindsN (fun _ _ _ _ _ _ us hl => match us, hl with | [_, _, _], _ => rfl), fun base => F.ok sc_is_within (fp_len (ps := ["thing", "low", "high"]) (fun as Ψ Ξ h => good_body as Ψ Ξ h)) (fun cdv A outer s H vs Q E hr h => ⟨t_is_within K E, ?_, r_is_within T vs H Q E h⟩)⟩⟩
  have tkD := L2N.takes_of (X := cxOf (CXZ P w) P w K mg base ["thing", "low", "high"] "is_within" (defScope s_is_within) (He.fAd K ("is_within", none)) cdv A outer s H E) (E := E) rfl rfl rfl rfl
  exact (pss_one (ps_ret (pe_and (pe_callB call_isi (by rfl) T.f_isinstance (by decide +kernel) (pa_cons (pv 0) (pa_cons (pe_bltn (v := .ty "int") (by rfl) T.f_int (by decide +kernel) rfl) pa_nil))) (pe_and (pe_not (pe_callB call_isi (by rfl) T.f_isinstance (by decide +kernel) (pa_cons (pv 0) (pa_cons (pe_bltn (v := .ty "bool") (by rfl) T.f_bool (by decide +kernel) rfl) pa_nil)))) (pe_one (pe_chain op_le op_le (pv 1) (pv 0) (pv 2)))))))
abbrev s_is_listed : Stmt := topS 15
theorem sc_is_listed : FnScope ["thing"] ["thing"] (defScope s_is_listed) := ⟨rfl, rfl, rfl, by decide +kernel, rfl, by decide +kernel, by decide +kernel⟩
theorem ok_is_listed (T : Tx K mg) {fd : FuncData} (F : FnP K "is_listed" "is_listed" s_is_listed (He.fAd K ("is_listed", none)) fd) : FO P w K mg 1 ("is_listed", none) ["thing"] (S_is_listed K) := by
  refine ⟨⟨fd, F.kp, F.bindsN (fun _ _ _ _ _ _ us hl => match us, hl with | [_], _ => rfl), fun base => F.ok sc_is_listed (fp_len (ps := ["thing"]) (fun as Ψ Ξ h => good_body as Ψ Ξ h)) (fun cdv A outer s H vs Q E hr h => ⟨t_is_listed K E, ?_, r_is_listed T vs H Q E h⟩)⟩⟩
  have tkD := L2N.takes_of (X := cxOf (CXZ P w) P w K mg base ["thing"] "is_listed" (defScope s_is_listed) (He.fAd K ("is_listed", none)) cdv A outer s H E) (E := E) rfl rfl rfl rfl
  exact (pss_one (ps_ret (pe_callB call_isiT (by rfl) T.f_isinstance (by decide +kernel) (pa_cons (pv 0) (pa_cons (pe_tup (pa_cons (pe_bltn (v := .ty "list") (by rfl) T.f_list (by decide +kernel) rfl) (pa_cons (pe_bltn (v := .ty "tuple") (by rfl) T.f_tuple (by decide +kernel) rfl) pa_nil))) pa_nil)))))
abbrev s_is_pair : Stmt := topS 16
theorem sc_is_pair : FnScope ["thing", "rooms", "one"] ["thing", "rooms"] (defScope s_is_pair) := ⟨rfl, rfl, rfl, by decide +kernel, rfl, by decide +kernel, by decide +kernel⟩
theorem ok_is_pair (T : Tx K mg) {fd : FuncData} (F : FnP K "is_pair" "is_pair" s_is_pair (He.fAd K ("is_pair", none)) fd) (D_is_within : FO P w K mg 1 ("is_within", none) ["thing", "low", "high"] (S_is_within K)) (D_is_listed : FO P w K mg 1 ("is_listed", none) ["thing"] (S_is_listed K)) : FO P w K mg 2 ("is_pair", none) ["thing", "rooms"] (S_is_pair K) := by
  obtain ⟨fd_is_within, k_is_within, b_is_within, G_is_within⟩ := D_is_within.ex
  obtain ⟨fd_is_listed, k_is_listed, b_is_listed, G_is_listed⟩ := D_is_listed.ex
  refine ⟨⟨fd, F.kp, F.bindsN (fun _ _ _ _ _ _ us hl => match us, hl with | [_, _], _ => rfl), fun base => F.ok sc_is_pair (fp_len (ps := ["thing", "rooms"]) (fun as Ψ Ξ h => good_body as Ψ Ξ h)) (fun cdv A outer s H vs Q E hr h => ⟨t_is_pair K E, ?_, r_is_pair T vs H Q E h⟩)⟩⟩
  have G_is_within := G_is_within base
  have G_is_listed := G_is_listed base
  have tkD := L2N.takes_of (X := cxOf (CXZ P w) P w K mg base ["thing", "rooms", "one"] "is_pair" (defScope s_is_pair) (He.fAd K ("is_pair", none)) cdv A outer s H E) (E := E) rfl rfl rfl rfl
  exact (pss_one (ps_ret (pe_and (pe_call G_is_listed (hr.mono (by decide)) rfl T.g_is_listed k_is_listed b_is_listed .nil (passD tkD) (pa_cons (pv 0) pa_nil)) (pe_and (pe_cmpR (op_eqD hr.units) (pe_callB call_len_seq (by rfl) T.f_len (by decide +kernel) (pa_cons (pv 0) pa_nil)) pe_int (nomark _)) (pe_one (pe_callB (cr_all (by rfl)) (by rfl) T.f_all (by decide +kernel) (pa_cons (pe_lc (own := [("one", 2)]) (g := (gName 2)) (tt := tYes) (by rfl) sc_is_pair.nd (pi_seq (pv 0)) (blkOk_by (by kernel_rfl)) (fun _ _ _ _ _ => (pg_name (i := 2) sc_is_pair.nd rfl (.inl rfl))) (fun _ _ _ _ _ => pts_nil) (fun _ _ _ _ _ => (pe_call G_is_within (hr.mono (by decide)) rfl T.g_is_within k_is_within b_is_within .nil passL0 (pa_cons (pv 2) (pa_cons pe_int (pa_cons (pe_op op_sub (pv 1) pe_int) pa_nil)))))) pa_nil)))))))
abbrev s_Web___init__ : Stmt := inClass (topS 17) 0
theorem sc_Web___init__ : FnScope ["self", "rooms", "arrows", "at", "pair", "room"] ["self", "rooms", "arrows"] (defScope s_Web___init__) := ⟨rfl, rfl, rfl, by decide +kernel, rfl, by decide +kernel, by decide +kernel⟩
theorem ok_Web___init__ (T : Tx K mg) {fd : FuncData} (F : FnP K "__init__" "Web.__init__" s_Web___init__ (He.fAd K ("Web", some "__init__")) fd) (D_is_within : FO P w K mg 1 ("is_within", none) ["thing", "low", "high"] (S_is_within K)) (D_is_pair : FO P w K mg 2 ("is_pair", none) ["thing", "rooms"] (S_is_pair K)) : FO P w K mg 3 ("Web", some "__init__") ["self", "rooms", "arrows"] (S_Web___init__ K) := by
  obtain ⟨fd_is_within, k_is_within, b_is_within, G_is_within⟩ := D_is_within.ex
  obtain ⟨fd_is_pair, k_is_pair, b_is_pair, G_is_pair⟩ := D_is_pair.ex
  refine ⟨⟨fd, F.kp, F.bindsN (fun _ _ _ _ _ _ us hl => match us, hl with | [_, _, _], _ => rfl), fun base => F.ok sc_Web___init__ (fp_len (ps := ["self", "rooms", "arrows"]) (fun as Ψ Ξ h => good_body as Ψ Ξ h)) (fun cdv A outer s H vs Q E hr h => ⟨t_Web___init__ K E, ?_, r_Web___init__ T vs H Q E h⟩)⟩⟩
  have G_is_within := G_is_within base
  have G_is_pair := G_is_pair base
  have tkD := L2N.takes_of (X := cxOf (CXZ P w) P w K mg base ["self", "rooms", "arrows", "at", "pair", "room"] "Web.__init__" (defScope s_Web___init__) (He.fAd K ("Web", some "__init__")) cdv A outer s H E) (E := E) rfl rfl rfl rfl
  exact (pss_cons (ps_if (pt_not (pt_val (pe_call G_is_within (hr.mono (by decide)) rfl T.g_is_within k_is_within b_is_within .nil (passD tkD) (pa_cons (pv 1) (pa_cons pe_int (pa_cons (pe_glob (by rfl) T.i_MOST_ROOMS.choose_spec ⟨_, rfl⟩) pa_nil)))))) (pss_one ps_never) pss_nil)
    (pss_cons (ps_for (L2.passes_of rfl) rfl (pi_enumA (by rfl) T.f_enumerate (pa_cons (pv 2) pa_nil)) (pg_tup (by rfl) (pgs_cons (pg_name (i := 3) sc_Web___init__.nd rfl (.inl rfl)) (pgs_cons (pg_name (i := 4) sc_Web___init__.nd rfl (.inl rfl)) pgs_nil)))
    (pss_one (ps_if (PW.pt (pw_or (pt_cmpR (op_eqD hr.units) (pv 3) (pe_glob (by rfl) T.i_MOST_ARROWS.choose_spec ⟨_, rfl⟩) (nomark _)) (pw_or1 (pt_not (pt_val (pe_call G_is_pair (hr.mono (by decide)) rfl T.g_is_pair k_is_pair b_is_pair .nil (passD tkD) (pa_cons (pv 4) (pa_cons (pv 1) pa_nil)))))))) (pss_one ps_never) pss_nil)))
    (pss_cons (ps_fld (pv 0) (pv 1) rfl)
    (pss_cons (ps_fld (pv 0) (pe_callTy call_tupleN (by rfl) T.f_tuple (by decide +kernel) (pa_cons (pe_lc (own := [("pair", 4)]) (g := (gName 4)) (tt := tYes) (by rfl) sc_Web___init__.nd (pi_seq (pv 2)) (blkOk_by (by kernel_rfl)) (fun _ _ _ _ _ => (pg_name (i := 4) sc_Web___init__.nd rfl (.inl rfl))) (fun _ _ _ _ _ => pts_nil) (fun _ _ _ _ _ => (pe_callTy call_tupleN (by rfl) T.f_tuple (by decide +kernel) (pa_cons (pv 4) pa_nil)))) pa_nil)) rfl)
    (pss_cons (ps_fld (pv 0) (pe_lc (own := [("room", 5)]) (g := (gName 5)) (tt := tYes) (by rfl) sc_Web___init__.nd (pi_range1 (by rfl) T.f_range (pa_cons (pv 1) pa_nil)) (blkOk_by (by kernel_rfl)) (fun _ _ _ _ _ => (pg_name (i := 5) sc_Web___init__.nd rfl (.inr rfl))) (fun _ _ _ _ _ => pts_nil) (fun _ _ _ _ _ => (pe_lc (own := [("at", 3), ("pair", 4)]) (g := (gTup K 2 (gCons (gName 3) (gCons (gName 4) gNil)))) (tt := (tTest (tOp (rEqD K) (tOp (rIx K) (tVar 4) (tC (.int 0))) (tVar 5)))) (by rfl) sc_Web___init__.nd (pi_enumA (by rfl) T.f_enumerate (pa_cons (pe_fld (pv 0) rfl) pa_nil)) (blkOk_by (by kernel_rfl)) (fun _ _ _ _ _ => (pg_tup (by rfl) (pgs_cons (pg_name (i := 3) sc_Web___init__.nd rfl (.inl rfl)) (pgs_cons (pg_name (i := 4) sc_Web___init__.nd rfl (.inl rfl)) pgs_nil)))) (fun _ _ _ _ _ => (pts_one (pt_cmpR (op_eqD hr.units) (pe_ix ix_seq (pv 4) pe_int (fun _ _ => rfl)) (pv 5) (nomark _)))) (fun _ _ _ _ _ => (pv 3))))) rfl)
    (pss_cons (ps_fld (pv 0) (pe_lc (own := [("room", 5)]) (g := (gName 5)) (tt := tYes) (by rfl) sc_Web___init__.nd (pi_range1 (by rfl) T.f_range (pa_cons (pv 1) pa_nil)) (blkOk_by (by kernel_rfl)) (fun _ _ _ _ _ => (pg_name (i := 5) sc_Web___init__.nd rfl (.inr rfl))) (fun _ _ _ _ _ => pts_nil) (fun _ _ _ _ _ => (pe_lc (own := [("at", 3), ("pair", 4)]) (g := (gTup K 2 (gCons (gName 3) (gCons (gName 4) gNil)))) (tt := (tTest (tOp (rEqD K) (tOp (rIx K) (tVar 4) (tC (.int 1))) (tVar 5)))) (by rfl) sc_Web___init__.nd (pi_enumA (by rfl) T.f_enumerate (pa_cons (pe_fld (pv 0) rfl) pa_nil)) (blkOk_by (by kernel_rfl)) (fun _ _ _ _ _ => (pg_tup (by rfl) (pgs_cons (pg_name (i := 3) sc_Web___init__.nd rfl (.inl rfl)) (pgs_cons (pg_name (i := 4) sc_Web___init__.nd rfl (.inl rfl)) pgs_nil)))) (fun _ _ _ _ _ => (pts_one (pt_cmpR (op_eqD hr.units) (pe_ix ix_seq (pv 4) pe_int (fun _ _ => rfl)) (pv 5) (nomark _)))) (fun _ _ _ _ _ => (pv 3))))) rfl)
    (pss_one (ps_if (pt_cmpR (op_inD (un65 hr)) (pe_lst pa_nil) (pe_fld (pv 0) rfl) (by rfl)) (pss_one ps_never) pss_nil))))))))
abbrev s_Web_arrows : Stmt := inClass (topS 17) 5
theorem sc_Web_arrows : FnScope ["self"] ["self"] (defScope s_Web_arrows) := ⟨rfl, rfl, rfl, by decide +kernel, rfl, by decide +kernel, by decide +kernel⟩
theorem ok_Web_arrows (T : Tx K mg) {fd : FuncData} (F : FnP K "arrows" "Web.arrows" s_Web_arrows (He.fAd K ("Web", some "arrows")) fd) : FO P w K mg 1 ("Web", some "arrows") ["self"] (S_Web_arrows K) := by
  refine ⟨⟨fd, F.kp, F.bindsN (fun _ _ _ _ _ _ us hl => match us, hl with | [_], _ => rfl), fun base => F.ok sc_Web_arrows (fp_len (ps := ["self"]) (fun as Ψ Ξ h => good_body as Ψ Ξ h)) (fun cdv A outer s H vs Q E hr h => ⟨t_Web_arrows K E, ?_, r_Web_arrows T vs H Q E h⟩)⟩⟩
  have tkD := L2N.takes_of (X := cxOf (CXZ P w) P w K mg base ["self"] "Web.arrows" (defScope s_Web_arrows) (He.fAd K ("Web", some "arrows")) cdv A outer s H E) (E := E) rfl rfl rfl rfl
  exact (pss_one (ps_ret (pe_callTy call_list_of (by rfl) T.f_list (by decide +kernel) (pa_cons (pe_fld (pv 0) rfl) pa_nil))))
abbrev s__law_same : Stmt := topS 21
theorem sc__law_same : FnScope ["_law_found", "_law_due", "_law_a", "_law_b"] ["_law_found", "_law_due"] (defScope s__law_same) := ⟨rfl, rfl, rfl, by decide +kernel, rfl, by decide +kernel, by decide +kernel⟩
theorem okr__law_same (T : Tx K mg) {fd : FuncData} (F : FnP K "_law_same" "_law_same" s__law_same (He.fAd K ("_law_same", none)) fd) : ∀ n : Nat, FO P w K mg (1 + n) ("_law_same", none) ["_law_found", "_law_due"] (S__law_same K n)
  | 0 => ⟨⟨fd, F.kp, F.bindsN (fun _ _ _ _ _ _ us hl => match us, hl with | [_, _], _ => rfl), fun base => ⟨fun vs H Q E h => (no__law_same K h).elim, fun A outer s H args us vs Q E hr e0 hb r h => (no__law_same K h).elim⟩⟩⟩
  | n + 1 => by
    obtain ⟨fd__law_same, k__law_same, b__law_same, G__law_same⟩ := (okr__law_same T F n).ex
    refine ⟨⟨fd, F.kp, F.bindsN (fun _ _ _ _ _ _ us hl => match us, hl with | [_, _], _ => rfl), fun base => F.ok sc__law_same (fp_len (ps := ["_law_found", "_law_due"]) (fun as Ψ Ξ h => good_body as Ψ Ξ h)) (fun cdv A outer s H vs Q E hr h => ⟨t__law_same K n E, ?_, r__law_same T n vs H Q E h⟩)⟩⟩
    have G__law_same := G__law_same base
    have tkD := L2N.takes_of (X := cxOf (CXZ P w) P w K mg base ["_law_found", "_law_due", "_law_a", "_law_b"] "_law_same" (defScope s__law_same) (He.fAd K ("_law_same", none)) cdv A outer s H E) (E := E) rfl rfl rfl rfl
    exact (pss_cons (ps_if (pt_val (pe_callB call_isiT (by rfl) T.f_isinstance (by decide +kernel) (pa_cons (pv 1) (pa_cons (pe_tup (pa_cons (pe_bltn (v := .ty "list") (by rfl) T.f_list (by decide +kernel) rfl) (pa_cons (pe_bltn (v := .ty "tuple") (by rfl) T.f_tuple (by decide +kernel) rfl) pa_nil))) pa_nil)))) (pss_cons (ps_if (PW.pt (pw_or (pt_cmpR (op_neD hr.units) (pe_callB call_isi (by rfl) T.f_isinstance (by decide +kernel) (pa_cons (pv 0) (pa_cons (pe_bltn (v := .ty "list") (by rfl) T.f_list (by decide +kernel) rfl) pa_nil))) (pe_callB call_isi (by rfl) T.f_isinstance (by decide +kernel) (pa_cons (pv 1) (pa_cons (pe_bltn (v := .ty "list") (by rfl) T.f_list (by decide +kernel) rfl) pa_nil))) (nomark _)) (pw_or1 (pt_cmpR (op_neD hr.units) (pe_callB call_isi (by rfl) T.f_isinstance (by decide +kernel) (pa_cons (pv 0) (pa_cons (pe_bltn (v := .ty "tuple") (by rfl) T.f_tuple (by decide +kernel) rfl) pa_nil))) (pe_callB call_isi (by rfl) T.f_isinstance (by decide +kernel) (pa_cons (pv 1) (pa_cons (pe_bltn (v := .ty "tuple") (by rfl) T.f_tuple (by decide +kernel) rfl) pa_nil))) (nomark _))))) (pss_one (ps_ret pe_bl)) pss_nil)
    (pss_one (ps_ret (pe_and (pe_cmpR (op_eqD hr.units) (pe_callB call_len_seq (by rfl) T.f_len (by decide +kernel) (pa_cons (pv 0) pa_nil)) (pe_callB call_len_seq (by rfl) T.f_len (by decide +kernel) (pa_cons (pv 1) pa_nil)) (nomark _)) (pe_one (pe_callB (cr_all (by rfl)) (by rfl) T.f_all (by decide +kernel) (pa_cons (pe_lc (own := [("_law_a", 2), ("_law_b", 3)]) (g := (gTup K 2 (gCons (gName 2) (gCons (gName 3) gNil)))) (tt := tYes) (by rfl) sc__law_same.nd (RZ.pi_zipA (by rfl) T.f_zip (pa_cons (pv 0) (pa_cons (pv 1) pa_nil))) (blkOk_by (by kernel_rfl)) (fun _ _ _ _ _ => (pg_tup (by rfl) (pgs_cons (pg_name (i := 2) sc__law_same.nd rfl (.inl rfl)) (pgs_cons (pg_name (i := 3) sc__law_same.nd rfl (.inl rfl)) pgs_nil)))) (fun _ _ _ _ _ => pts_nil) (fun _ _ _ _ _ => (pe_call G__law_same (hr.mono (by first | omega | (simp only [Nat.add_eq]; omega))) rfl T.g__law_same k__law_same b__law_same .nil passL0 (pa_cons (pv 2) (pa_cons (pv 3) pa_nil))))) pa_nil))))))) pss_nil)
    (pss_cons (ps_if (PW.pt (pw_or (pt_cmpR op_isN (pv 1) pe_non (nomark _)) (pw_or1 (pt_cmpR op_isN (pv 0) pe_non (nomark _))))) (pss_one (ps_ret (pe_and (pe_cmpR op_isN (pv 0) pe_non (nomark _)) (pe_one (pe_cmpR op_isN (pv 1) pe_non (nomark _)))))) pss_nil)
    (pss_cons (ps_if (PW.pt (pw_or (pt_cmpR (op_neD hr.units) (pe_callB call_isi (by rfl) T.f_isinstance (by decide +kernel) (pa_cons (pv 0) (pa_cons (pe_bltn (v := .ty "bool") (by rfl) T.f_bool (by decide +kernel) rfl) pa_nil))) (pe_callB call_isi (by rfl) T.f_isinstance (by decide +kernel) (pa_cons (pv 1) (pa_cons (pe_bltn (v := .ty "bool") (by rfl) T.f_bool (by decide +kernel) rfl) pa_nil))) (nomark _)) (pw_or1 (pt_cmpR (op_neD hr.units) (pe_callB call_isi (by rfl) T.f_isinstance (by decide +kernel) (pa_cons (pv 0) (pa_cons (pe_bltn (v := .ty "int") (by rfl) T.f_int (by decide +kernel) rfl) pa_nil))) (pe_callB call_isi (by rfl) T.f_isinstance (by decide +kernel) (pa_cons (pv 1) (pa_cons (pe_bltn (v := .ty "int") (by rfl) T.f_int (by decide +kernel) rfl) pa_nil))) (nomark _))))) (pss_one (ps_ret pe_bl)) pss_nil)
    (pss_one (ps_ret (pe_and (pe_cmpR (op_eqD hr.units) (pe_callB call_isi (by rfl) T.f_isinstance (by decide +kernel) (pa_cons (pv 0) (pa_cons (pe_bltn (v := .ty "str") (by rfl) T.f_str (by decide +kernel) rfl) pa_nil))) (pe_callB call_isi (by rfl) T.f_isinstance (by decide +kernel) (pa_cons (pv 1) (pa_cons (pe_bltn (v := .ty "str") (by rfl) T.f_str (by decide +kernel) rfl) pa_nil))) (nomark _)) (pe_one (pe_cmpR (op_eqD hr.units) (pv 0) (pv 1) (nomark _)))))))))
theorem ok__law_same (T : Tx K mg) {fd : FuncData} (F : FnP K "_law_same" "_law_same" s__law_same (He.fAd K ("_law_same", none)) fd) : FO P w K mg 7 ("_law_same", none) ["_law_found", "_law_due"] (S__law_same K 6) := okr__law_same T F 6
abbrev s_Web___len__ : Stmt := inClass (topS 17) 2
theorem sc_Web___len__ : FnScope ["self"] ["self"] (defScope s_Web___len__) := ⟨rfl, rfl, rfl, by decide +kernel, rfl, by decide +kernel, by decide +kernel⟩
theorem ok_Web___len__ (T : Tx K mg) {fd : FuncData} (F : FnP K "__len__" "Web.__len__" s_Web___len__ (He.fAd K ("Web", some "__len__")) fd) : FO P w K mg 1 ("Web", some "__len__") ["self"] (S_Web___len__ K) := by
  refine ⟨⟨fd, F.kp, F.bindsN (fun _ _ _ _ _ _ us hl => match us, hl with | [_], _ => rfl), fun base => F.ok sc_Web___len__ (fp_len (ps := ["self"]) (fun as Ψ Ξ h => good_body as Ψ Ξ h)) (fun cdv A outer s H vs Q E hr h => ⟨t_Web___len__ K E, ?_, r_Web___len__ T vs H Q E h⟩)⟩⟩
  have tkD := L2N.takes_of (X := cxOf (CXZ P w) P w K mg base ["self"] "Web.__len__" (defScope s_Web___len__) (He.fAd K ("Web", some "__len__")) cdv A outer s H E) (E := E) rfl rfl rfl rfl
  exact (pss_one (ps_ret (pe_callB call_len_seq (by rfl) T.f_len (by decide +kernel) (pa_cons (pe_fld (pv 0) rfl) pa_nil))))
abbrev s_Web_rooms : Stmt := inClass (topS 17) 4
theorem sc_Web_rooms : FnScope ["self"] ["self"] (defScope s_Web_rooms) := ⟨rfl, rfl, rfl, by decide +kernel, rfl, by decide +kernel, by decide +kernel⟩
theorem ok_Web_rooms (T : Tx K mg) {fd : FuncData} (F : FnP K "rooms" "Web.rooms" s_Web_rooms (He.fAd K ("Web", some "rooms")) fd) : FO P w K mg 1 ("Web", some "rooms") ["self"] (S_Web_rooms K) := by
  refine ⟨⟨fd, F.kp, F.bindsN (fun _ _ _ _ _ _ us hl => match us, hl with | [_], _ => rfl), fun base => F.ok sc_Web_rooms (fp_len (ps := ["self"]) (fun as Ψ Ξ h => good_body as Ψ Ξ h)) (fun cdv A outer s H vs Q E hr h => ⟨t_Web_rooms K E, ?_, r_Web_rooms T vs H Q E h⟩)⟩⟩
  have tkD := L2N.takes_of (X := cxOf (CXZ P w) P w K mg base ["self"] "Web.rooms" (defScope s_Web_rooms) (He.fAd K ("Web", some "rooms")) cdv A outer s H E) (E := E) rfl rfl rfl rfl
  exact (pss_one (ps_ret (pe_fld (pv 0) rfl)))
abbrev s_Web_need_room : Stmt := inClass (topS 17) 7
theorem sc_Web_need_room : FnScope ["self", "room"] ["self", "room"] (defScope s_Web_need_room) := ⟨rfl, rfl, rfl, by decide +kernel, rfl, by decide +kernel, by decide +kernel⟩
theorem ok_Web_need_room (T : Tx K mg) {fd : FuncData} (F : FnP K "need_room" "Web.need_room" s_Web_need_room (He.fAd K ("Web", some "need_room")) fd) (D_is_within : FO P w K mg 1 ("is_within", none) ["thing", "low", "high"] (S_is_within K)) : FO P w K mg 2 ("Web", some "need_room") ["self", "room"] (S_Web_need_room K) := by
  obtain ⟨fd_is_within, k_is_within, b_is_within, G_is_within⟩ := D_is_within.ex
  refine ⟨⟨fd, F.kp, F.bindsN (fun _ _ _ _ _ _ us hl => match us, hl with | [_, _], _ => rfl), fun base => F.ok sc_Web_need_room (fp_len (ps := ["self", "room"]) (fun as Ψ Ξ h => good_body as Ψ Ξ h)) (fun cdv A outer s H vs Q E hr h => ⟨t_Web_need_room K E, ?_, r_Web_need_room T vs H Q E h⟩)⟩⟩
  have G_is_within := G_is_within base
  have tkD := L2N.takes_of (X := cxOf (CXZ P w) P w K mg base ["self", "room"] "Web.need_room" (defScope s_Web_need_room) (He.fAd K ("Web", some "need_room")) cdv A outer s H E) (E := E) rfl rfl rfl rfl
  exact (pss_one (ps_if (pt_not (pt_val (pe_call G_is_within (hr.mono (by decide)) rfl T.g_is_within k_is_within b_is_within .nil (passD tkD) (pa_cons (pv 1) (pa_cons pe_int (pa_cons (pe_op op_sub (pe_fld (pv 0) rfl) pe_int) pa_nil)))))) (pss_one ps_never) pss_nil))
abbrev s_Web_ins : Stmt := inClass (topS 17) 11
theorem sc_Web_ins : FnScope ["self", "room"] ["self", "room"] (defScope s_Web_ins) := ⟨rfl, rfl, rfl, by decide +kernel, rfl, by decide +kernel, by decide +kernel⟩
theorem ok_Web_ins (T : Tx K mg) {fd : FuncData} (F : FnP K "ins" "Web.ins" s_Web_ins (He.fAd K ("Web", some "ins")) fd) (D_Web_need_room : FO P w K mg 2 ("Web", some "need_room") ["self", "room"] (S_Web_need_room K)) : FO P w K mg 3 ("Web", some "ins") ["self", "room"] (S_Web_ins K) := by
  obtain ⟨fd_Web_need_room, k_Web_need_room, b_Web_need_room, G_Web_need_room⟩ := D_Web_need_room.ex
  refine ⟨⟨fd, F.kp, F.bindsN (fun _ _ _ _ _ _ us hl => match us, hl with | [_, _], _ => rfl), fun base => F.ok sc_Web_ins (fp_len (ps := ["self", "room"]) (fun as Ψ Ξ h => good_body as Ψ Ξ h)) (fun cdv A outer s H vs Q E hr h => ⟨t_Web_ins K E, ?_, r_Web_ins T vs H Q E h⟩)⟩⟩
  have G_Web_need_room := G_Web_need_room base
  have tkD := L2N.takes_of (X := cxOf (CXZ P w) P w K mg base ["self", "room"] "Web.ins" (defScope s_Web_ins) (He.fAd K ("Web", some "ins")) cdv A outer s H E) (E := E) rfl rfl rfl rfl
  exact (pss_cons (ps_expr (pe_meth (pv 0) T.k_Web.k.c T.m_Web_need_room G_Web_need_room (hr.mono (by decide)) b_Web_need_room .nil (passD tkD) (pa_cons (pv 1) pa_nil)))
    (pss_one (ps_ret (pe_callTy call_list_of (by rfl) T.f_list (by decide +kernel) (pa_cons (pe_ix ix_seq (pe_fld (pv 0) rfl) (pv 1) (fun _ _ => rfl)) pa_nil)))))
abbrev s_Web_outs : Stmt := inClass (topS 17) 10
theorem sc_Web_outs : FnScope ["self", "room"] ["self", "room"] (defScope s_Web_outs) := ⟨rfl, rfl, rfl, by decide +kernel, rfl, by decide +kernel, by decide +kernel⟩
theorem ok_Web_outs (T : Tx K mg) {fd : FuncData} (F : FnP K "outs" "Web.outs" s_Web_outs (He.fAd K ("Web", some "outs")) fd) (D_Web_need_room : FO P w K mg 2 ("Web", some "need_room") ["self", "room"] (S_Web_need_room K)) : FO P w K mg 3 ("Web", some "outs") ["self", "room"] (S_Web_outs K) := by
  obtain ⟨fd_Web_need_room, k_Web_need_room, b_Web_need_room, G_Web_need_room⟩ := D_Web_need_room.ex
  refine ⟨⟨fd, F.kp, F.bindsN (fun _ _ _ _ _ _ us hl => match us, hl with | [_, _], _ => rfl), fun base => F.ok sc_Web_outs (fp_len (ps := ["self", "room"]) (fun as Ψ Ξ h => good_body as Ψ Ξ h)) (fun cdv A outer s H vs Q E hr h => ⟨t_Web_outs K E, ?_, r_Web_outs T vs H Q E h⟩)⟩⟩
  have G_Web_need_room := G_Web_need_room base
  have tkD := L2N.takes_of (X := cxOf (CXZ P w) P w K mg base ["self", "room"] "Web.outs" (defScope s_Web_outs) (He.fAd K ("Web", some "outs")) cdv A outer s H E) (E := E) rfl rfl rfl rfl
  exact (pss_cons (ps_expr (pe_meth (pv 0) T.k_Web.k.c T.m_Web_need_room G_Web_need_room (hr.mono (by decide)) b_Web_need_room .nil (passD tkD) (pa_cons (pv 1) pa_nil)))
    (pss_one (ps_ret (pe_callTy call_list_of (by rfl) T.f_list (by decide +kernel) (pa_cons (pe_ix ix_seq (pe_fld (pv 0) rfl) (pv 1) (fun _ _ => rfl)) pa_nil)))))
abbrev s__law_ins : Stmt := topS 26
theorem sc__law_ins : FnScope ["_law_w", "_law_room", "_law_at", "_law_pair"] ["_law_w", "_law_room"] (defScope s__law_ins) := ⟨rfl, rfl, rfl, by decide +kernel, rfl, by decide +kernel, by decide +kernel⟩
theorem ok__law_ins (T : Tx K mg) {fd : FuncData} (F : FnP K "_law_ins" "_law_ins" s__law_ins (He.fAd K ("_law_ins", none)) fd) : FO P w K mg 1 ("_law_ins", none) ["_law_w", "_law_room"] (S__law_ins K) := by
  refine ⟨⟨fd, F.kp, F.bindsN (fun _ _ _ _ _ _ us hl => match us, hl with | [_, _], _ => rfl), fun base => F.ok sc__law_ins (fp_len (ps := ["_law_w", "_law_room"]) (fun as Ψ Ξ h => good_body as Ψ Ξ h)) (fun cdv A outer s H vs Q E hr h => ⟨t__law_ins K E, ?_, r__law_ins T vs H Q E h⟩)⟩⟩
  have tkD := L2N.takes_of (X := cxOf (CXZ P w) P w K mg base ["_law_w", "_law_room", "_law_at", "_law_pair"] "_law_ins" (defScope s__law_ins) (He.fAd K ("_law_ins", none)) cdv A outer s H E) (E := E) rfl rfl rfl rfl
  exact (pss_one (ps_ret (pe_lc (own := [("_law_at", 2), ("_law_pair", 3)]) (g := (gTup K 2 (gCons (gName 2) (gCons (gName 3) gNil)))) (tt := (tTest (tOp (rEqD K) (tOp (rIx K) (tVar 3) (tC (.int 1))) (tVar 1)))) (by rfl) sc__law_ins.nd (pi_enumA (by rfl) T.f_enumerate (pa_cons (pe_ix ix_seq (pv 0) pe_int (fun _ _ => rfl)) pa_nil)) (blkOk_by (by kernel_rfl)) (fun _ _ _ _ _ => (pg_tup (by rfl) (pgs_cons (pg_name (i := 2) sc__law_ins.nd rfl (.inl rfl)) (pgs_cons (pg_name (i := 3) sc__law_ins.nd rfl (.inl rfl)) pgs_nil)))) (fun _ _ _ _ _ => (pts_one (pt_cmpR (op_eqD hr.units) (pe_ix ix_seq (pv 3) pe_int (fun _ _ => rfl)) (pv 1) (nomark _)))) (fun _ _ _ _ _ => (pv 2)))))
abbrev s__law_outs : Stmt := topS 25
theorem sc__law_outs : FnScope ["_law_w", "_law_room", "_law_at", "_law_pair"] ["_law_w", "_law_room"] (defScope s__law_outs) := ⟨rfl, rfl, rfl, by decide +kernel, rfl, by decide +kernel, by decide +kernel⟩
theorem ok__law_outs (T : Tx K mg) {fd : FuncData} (F : FnP K "_law_outs" "_law_outs" s__law_outs (He.fAd K ("_law_outs", none)) fd) : FO P w K mg 1 ("_law_outs", none) ["_law_w", "_law_room"] (S__law_outs K) := by
  refine ⟨⟨fd, F.kp, F.bindsN (fun _ _ _ _ _ _ us hl => match us, hl with | [_, _], _ => rfl), fun base => F.ok sc__law_outs (fp_len (ps := ["_law_w", "_law_room"]) (fun as Ψ Ξ h => good_body as Ψ Ξ h)) (fun cdv A outer s H vs Q E hr h => ⟨t__law_outs K E, ?_, r__law_outs T vs H Q E h⟩)⟩⟩
  have tkD := L2N.takes_of (X := cxOf (CXZ P w) P w K mg base ["_law_w", "_law_room", "_law_at", "_law_pair"] "_law_outs" (defScope s__law_outs) (He.fAd K ("_law_outs", none)) cdv A outer s H E) (E := E) rfl rfl rfl rfl
  exact (pss_one (ps_ret (pe_lc (own := [("_law_at", 2), ("_law_pair", 3)]) (g := (gTup K 2 (gCons (gName 2) (gCons (gName 3) gNil)))) (tt := (tTest (tOp (rEqD K) (tOp (rIx K) (tVar 3) (tC (.int 0))) (tVar 1)))) (by rfl) sc__law_outs.nd (pi_enumA (by rfl) T.f_enumerate (pa_cons (pe_ix ix_seq (pv 0) pe_int (fun _ _ => rfl)) pa_nil)) (blkOk_by (by kernel_rfl)) (fun _ _ _ _ _ => (pg_tup (by rfl) (pgs_cons (pg_name (i := 2) sc__law_outs.nd rfl (.inl rfl)) (pgs_cons (pg_name (i := 3) sc__law_outs.nd rfl (.inl rfl)) pgs_nil)))) (fun _ _ _ _ _ => (pts_one (pt_cmpR (op_eqD hr.units) (pe_ix ix_seq (pv 3) pe_int (fun _ _ => rfl)) (pv 1) (nomark _)))) (fun _ _ _ _ _ => (pv 2)))))
abbrev s_Web_leading : Stmt := inClass (topS 17) 12
theorem sc_Web_leading : FnScope ["self", "one", "other"] ["self", "one", "other"] (defScope s_Web_leading) := ⟨rfl, rfl, rfl, by decide +kernel, rfl, by decide +kernel, by decide +kernel⟩
theorem ok_Web_leading (T : Tx K mg) {fd : FuncData} (F : FnP K "leading" "Web.leading" s_Web_leading (He.fAd K ("Web", some "leading")) fd) (D_Web_need_room : FO P w K mg 2 ("Web", some "need_room") ["self", "room"] (S_Web_need_room K)) : FO P w K mg 3 ("Web", some "leading") ["self", "one", "other"] (S_Web_leading K) := by
  obtain ⟨fd_Web_need_room, k_Web_need_room, b_Web_need_room, G_Web_need_room⟩ := D_Web_need_room.ex
  refine ⟨⟨fd, F.kp, F.bindsN (fun _ _ _ _ _ _ us hl => match us, hl with | [_, _, _], _ => rfl), fun base => F.ok sc_Web_leading (fp_len (ps := ["self", "one", "other"]) (fun as Ψ Ξ h => good_body as Ψ Ξ h)) (fun cdv A outer s H vs Q E hr h => ⟨t_Web_leading K E, ?_, r_Web_leading T vs H Q E h⟩)⟩⟩
  have G_Web_need_room := G_Web_need_room base
  have tkD := L2N.takes_of (X := cxOf (CXZ P w) P w K mg base ["self", "one", "other"] "Web.leading" (defScope s_Web_leading) (He.fAd K ("Web", some "leading")) cdv A outer s H E) (E := E) rfl rfl rfl rfl
  exact (pss_cons (ps_expr (pe_meth (pv 0) T.k_Web.k.c T.m_Web_need_room G_Web_need_room (hr.mono (by decide)) b_Web_need_room .nil (passD tkD) (pa_cons (pv 1) pa_nil)))
    (pss_cons (ps_expr (pe_meth (pv 0) T.k_Web.k.c T.m_Web_need_room G_Web_need_room (hr.mono (by decide)) b_Web_need_room .nil (passD tkD) (pa_cons (pv 2) pa_nil)))
    (pss_one (ps_ret (pe_bmT PySem.F.plainAttrs_tuple PySem.F.slot_tuple_count PySem.F.type_tuple_count (mt_tcount (un65 hr)) (pe_fld (pv 0) rfl) (pa_cons (pe_tup (pa_cons (pv 1) (pa_cons (pv 2) pa_nil))) pa_nil))))))
abbrev s__law_count : Stmt := topS 29
theorem sc__law_count : FnScope ["_law_w", "_law_one", "_law_other"] ["_law_w", "_law_one", "_law_other"] (defScope s__law_count) := ⟨rfl, rfl, rfl, by decide +kernel, rfl, by decide +kernel, by decide +kernel⟩
theorem ok__law_count (T : Tx K mg) {fd : FuncData} (F : FnP K "_law_count" "_law_count" s__law_count (He.fAd K ("_law_count", none)) fd) : FO P w K mg 1 ("_law_count", none) ["_law_w", "_law_one", "_law_other"] (S__law_count K) := by
  refine ⟨⟨fd, F.kp, F.bindsN (fun _ _ _ _ _ _ us hl => match us, hl with | [_, _, _], _ => rfl), fun base => F.ok sc__law_count (fp_len (ps := ["_law_w", "_law_one", "_law_other"]) (fun as Ψ Ξ h => good_body as Ψ Ξ h)) (fun cdv A outer s H vs Q E hr h => ⟨t__law_count K E, ?_, r__law_count T vs H Q E h⟩)⟩⟩
  have tkD := L2N.takes_of (X := cxOf (CXZ P w) P w K mg base ["_law_w", "_law_one", "_law_other"] "_law_count" (defScope s__law_count) (He.fAd K ("_law_count", none)) cdv A outer s H E) (E := E) rfl rfl rfl rfl
  exact (pss_one (ps_ret (pe_bmT PySem.F.plainAttrs_tuple PySem.F.slot_tuple_count PySem.F.type_tuple_count (mt_tcount (un65 hr)) (pe_ix ix_seq (pv 0) pe_int (fun _ _ => rfl)) (pa_cons (pe_tup (pa_cons (pv 1) (pa_cons (pv 2) pa_nil))) pa_nil))))
abbrev s_Web_has_arrow : Stmt := inClass (topS 17) 6
theorem sc_Web_has_arrow : FnScope ["self", "arrow"] ["self", "arrow"] (defScope s_Web_has_arrow) := ⟨rfl, rfl, rfl, by decide +kernel, rfl, by decide +kernel, by decide +kernel⟩
theorem ok_Web_has_arrow (T : Tx K mg) {fd : FuncData} (F : FnP K "has_arrow" "Web.has_arrow" s_Web_has_arrow (He.fAd K ("Web", some "has_arrow")) fd) (D_is_within : FO P w K mg 1 ("is_within", none) ["thing", "low", "high"] (S_is_within K)) : FO P w K mg 2 ("Web", some "has_arrow") ["self", "arrow"] (S_Web_has_arrow K) := by
  obtain ⟨fd_is_within, k_is_within, b_is_within, G_is_within⟩ := D_is_within.ex
  refine ⟨⟨fd, F.kp, F.bindsN (fun _ _ _ _ _ _ us hl => match us, hl with | [_, _], _ => rfl), fun base => F.ok sc_Web_has_arrow (fp_len (ps := ["self", "arrow"]) (fun as Ψ Ξ h => good_body as Ψ Ξ h)) (fun cdv A outer s H vs Q E hr h => ⟨t_Web_has_arrow K E, ?_, r_Web_has_arrow T vs H Q E h⟩)⟩⟩
  have G_is_within := G_is_within base
  have tkD := L2N.takes_of (X := cxOf (CXZ P w) P w K mg base ["self", "arrow"] "Web.has_arrow" (defScope s_Web_has_arrow) (He.fAd K ("Web", some "has_arrow")) cdv A outer s H E) (E := E) rfl rfl rfl rfl
  exact (pss_one (ps_ret (pe_call G_is_within (hr.mono (by decide)) rfl T.g_is_within k_is_within b_is_within .nil (passD tkD) (pa_cons (pv 1) (pa_cons pe_int (pa_cons (pe_op op_sub (pe_callB call_len_seq (by rfl) T.f_len (by decide +kernel) (pa_cons (pe_fld (pv 0) rfl) pa_nil)) pe_int) pa_nil))))))
abbrev s_Web_end : Stmt := inClass (topS 17) 9
theorem sc_Web_end : FnScope ["self", "arrow"] ["self", "arrow"] (defScope s_Web_end) := ⟨rfl, rfl, rfl, by decide +kernel, rfl, by decide +kernel, by decide +kernel⟩
theorem ok_Web_end (T : Tx K mg) {fd : FuncData} (F : FnP K "end" "Web.end" s_Web_end (He.fAd K ("Web", some "end")) fd) (D_Web_has_arrow : FO P w K mg 2 ("Web", some "has_arrow") ["self", "arrow"] (S_Web_has_arrow K)) : FO P w K mg 3 ("Web", some "end") ["self", "arrow"] (S_Web_end K) := by
  obtain ⟨fd_Web_has_arrow, k_Web_has_arrow, b_Web_has_arrow, G_Web_has_arrow⟩ := D_Web_has_arrow.ex
  refine ⟨⟨fd, F.kp, F.bindsN (fun _ _ _ _ _ _ us hl => match us, hl with | [_, _], _ => rfl), fun base => F.ok sc_Web_end (fp_len (ps := ["self", "arrow"]) (fun as Ψ Ξ h => good_body as Ψ Ξ h)) (fun cdv A outer s H vs Q E hr h => ⟨t_Web_end K E, ?_, r_Web_end T vs H Q E h⟩)⟩⟩
  have G_Web_has_arrow := G_Web_has_arrow base
  have tkD := L2N.takes_of (X := cxOf (CXZ P w) P w K mg base ["self", "arrow"] "Web.end" (defScope s_Web_end) (He.fAd K ("Web", some "end")) cdv A outer s H E) (E := E) rfl rfl rfl rfl
  exact (pss_cons (ps_if (pt_not (pt_val (pe_meth (pv 0) T.k_Web.k.c T.m_Web_has_arrow G_Web_has_arrow (hr.mono (by decide)) b_Web_has_arrow .nil (passD tkD) (pa_cons (pv 1) pa_nil)))) (pss_one ps_never) pss_nil)
    (pss_one (ps_ret (pe_ix ix_seq (pe_ix ix_seq (pe_fld (pv 0) rfl) (pv 1) (fun _ _ => rfl)) pe_int (fun _ _ => rfl)))))
abbrev s_Web_begin : Stmt := inClass (topS 17) 8
theorem sc_Web_begin : FnScope ["self", "arrow"] ["self", "arrow"] (defScope s_Web_begin) := ⟨rfl, rfl, rfl, by decide +kernel, rfl, by decide +kernel, by decide +kernel⟩
theorem ok_Web_begin (T : Tx K mg) {fd : FuncData} (F : FnP K "begin" "Web.begin" s_Web_begin (He.fAd K ("Web", some "begin")) fd) (D_Web_has_arrow : FO P w K mg 2 ("Web", some "has_arrow") ["self", "arrow"] (S_Web_has_arrow K)) : FO P w K mg 3 ("Web", some "begin") ["self", "arrow"] (S_Web_begin K) := by
  obtain ⟨fd_Web_has_arrow, k_Web_has_arrow, b_Web_has_arrow, G_Web_has_arrow⟩ := D_Web_has_arrow.ex
  refine ⟨⟨fd, F.kp, F.bindsN (fun _ _ _ _ _ _ us hl => match us, hl with | [_, _], _ => rfl), fun base => F.ok sc_Web_begin (fp_len (ps := ["self", "arrow"]) (fun as Ψ Ξ h => good_body as Ψ Ξ h)) (fun cdv A outer s H vs Q E hr h => ⟨t_Web_begin K E, ?_, r_Web_begin T vs H Q E h⟩)⟩⟩
  have G_Web_has_arrow := G_Web_has_arrow base
  have tkD := L2N.takes_of (X := cxOf (CXZ P w) P w K mg base ["self", "arrow"] "Web.begin" (defScope s_Web_begin) (He.fAd K ("Web", some "begin")) cdv A outer s H E) (E := E) rfl rfl rfl rfl
  exact (pss_cons (ps_if (pt_not (pt_val (pe_meth (pv 0) T.k_Web.k.c T.m_Web_has_arrow G_Web_has_arrow (hr.mono (by decide)) b_Web_has_arrow .nil (passD tkD) (pa_cons (pv 1) pa_nil)))) (pss_one ps_never) pss_nil)
    (pss_one (ps_ret (pe_ix ix_seq (pe_ix ix_seq (pe_fld (pv 0) rfl) (pv 1) (fun _ _ => rfl)) pe_int (fun _ _ => rfl)))))
abbrev s__law_naming : Stmt := topS 28
theorem sc__law_naming : FnScope ["_law_bag_here", "_law_w"] ["_law_bag_here", "_law_w"] (defScope s__law_naming) := ⟨rfl, rfl, rfl, by decide +kernel, rfl, by decide +kernel, by decide +kernel⟩
theorem ok__law_naming (T : Tx K mg) {fd : FuncData} (F : FnP K "_law_naming" "_law_naming" s__law_naming (He.fAd K ("_law_naming", none)) fd) (D__law_mixed : FO P w K mg 2 ("_law_mixed", none) ["_law_bag_here", "_law_some"] (S__law_mixed K)) : FO P w K mg 3 ("_law_naming", none) ["_law_bag_here", "_law_w"] (S__law_naming K) := by
  obtain ⟨fd__law_mixed, k__law_mixed, b__law_mixed, G__law_mixed⟩ := D__law_mixed.ex
  refine ⟨⟨fd, F.kp, F.bindsN (fun _ _ _ _ _ _ us hl => match us, hl with | [_, _], _ => rfl), fun base => F.ok sc__law_naming (fp_len (ps := ["_law_bag_here", "_law_w"]) (fun as Ψ Ξ h => good_body as Ψ Ξ h)) (fun cdv A outer s H vs Q E hr h => ⟨t__law_naming K E, ?_, r__law_naming T vs H Q E h⟩)⟩⟩
  have G__law_mixed := G__law_mixed base
  have tkD := L2N.takes_of (X := cxOf (CXZ P w) P w K mg base ["_law_bag_here", "_law_w"] "_law_naming" (defScope s__law_naming) (He.fAd K ("_law_naming", none)) cdv A outer s H E) (E := E) rfl rfl rfl rfl
  exact (pss_one (ps_ret (pe_tup (pa_cons (pe_call G__law_mixed (hr.mono (by decide)) rfl T.g__law_mixed k__law_mixed b__law_mixed .nil (passD tkD) (pa_cons (pv 0) (pa_cons (pe_listRg (by rfl) (by rfl) T.f_list (prg_1 (by rfl) T.f_range (pe_ix ix_seq (pv 1) pe_int (fun _ _ => rfl)))) pa_nil))) (pa_cons (pe_call G__law_mixed (hr.mono (by decide)) rfl T.g__law_mixed k__law_mixed b__law_mixed .nil (passD tkD) (pa_cons (pv 0) (pa_cons (pe_listRg (by rfl) (by rfl) T.f_list (prg_1 (by rfl) T.f_range (pe_callB call_len_seq (by rfl) T.f_len (by decide +kernel) (pa_cons (pe_ix ix_seq (pv 1) pe_int (fun _ _ => rfl)) pa_nil)))) pa_nil))) pa_nil)))))
abbrev s__law_named : Stmt := topS 27
theorem sc__law_named : FnScope ["_law_w", "_law_rooms", "_law_arrows", "_law_pairs", "_law_at", "_law_pair"] ["_law_w", "_law_rooms", "_law_arrows"] (defScope s__law_named) := ⟨rfl, rfl, rfl, by decide +kernel, rfl, by decide +kernel, by decide +kernel⟩
theorem ok__law_named (T : Tx K mg) {fd : FuncData} (F : FnP K "_law_named" "_law_named" s__law_named (He.fAd K ("_law_named", none)) fd) : FO P w K mg 1 ("_law_named", none) ["_law_w", "_law_rooms", "_law_arrows"] (S__law_named K) := by
  refine ⟨⟨fd, F.kp, F.bindsN (fun _ _ _ _ _ _ us hl => match us, hl with | [_, _, _], _ => rfl), fun base => F.ok sc__law_named (fp_len (ps := ["_law_w", "_law_rooms", "_law_arrows"]) (fun as Ψ Ξ h => good_body as Ψ Ξ h)) (fun cdv A outer s H vs Q E hr h => ⟨t__law_named K E, ?_, r__law_named T vs H Q E h⟩)⟩⟩
  have tkD := L2N.takes_of (X := cxOf (CXZ P w) P w K mg base ["_law_w", "_law_rooms", "_law_arrows", "_law_pairs", "_law_at", "_law_pair"] "_law_named" (defScope s__law_named) (He.fAd K ("_law_named", none)) cdv A outer s H E) (E := E) rfl rfl rfl rfl
  exact (pss_cons (ps_set (i := 3) sc__law_named.nd rfl (.inl rfl) (pe_op op_rep (pe_lst (pa_cons (pe_tup (pa_cons pe_int (pa_cons pe_int pa_nil))) pa_nil)) (pe_callB call_len_seq (by rfl) T.f_len (by decide +kernel) (pa_cons (pe_ix ix_seq (pv 0) pe_int (fun _ _ => rfl)) pa_nil))))
    (pss_cons (ps_for (L2.passes_of rfl) rfl (pi_enumA (by rfl) T.f_enumerate (pa_cons (pe_ix ix_seq (pv 0) pe_int (fun _ _ => rfl)) pa_nil)) (pg_tup (by rfl) (pgs_cons (pg_name (i := 4) sc__law_named.nd rfl (.inl rfl)) (pgs_cons (pg_name (i := 5) sc__law_named.nd rfl (.inl rfl)) pgs_nil)))
    (pss_one (ps_asg (pe_tup (pa_cons (pe_ix ix_seq (pv 1) (pe_ix ix_seq (pv 5) pe_int (fun _ _ => rfl)) (fun _ _ => rfl)) (pa_cons (pe_ix ix_seq (pv 1) (pe_ix ix_seq (pv 5) pe_int (fun _ _ => rfl)) (fun _ _ => rfl)) pa_nil))) (pg_sub (pv 3) (pe_ix ix_seq (pv 2) (pv 4) (fun _ _ => rfl)) set_list))))
    (pss_one (ps_ret (pe_tup (pa_cons (pe_ix ix_seq (pv 0) pe_int (fun _ _ => rfl)) (pa_cons (pe_callTy call_tupleN (by rfl) T.f_tuple (by decide +kernel) (pa_cons (pv 3) pa_nil)) pa_nil)))))))
abbrev s_Web___eq__ : Stmt := inClass (topS 17) 1
theorem sc_Web___eq__ : FnScope ["self", "other"] ["self", "other"] (defScope s_Web___eq__) := ⟨rfl, rfl, rfl, by decide +kernel, rfl, by decide +kernel, by decide +kernel⟩
theorem ok_Web___eq__ (T : Tx K mg) {fd : FuncData} (F : FnP K "__eq__" "Web.__eq__" s_Web___eq__ (He.fAd K ("Web", some "__eq__")) fd) : FO P w K mg 1 ("Web", some "__eq__") ["self", "other"] (S_Web___eq__ K) := by
  refine ⟨⟨fd, F.kp, F.bindsN (fun _ _ _ _ _ _ us hl => match us, hl with | [_, _], _ => rfl), fun base => F.ok sc_Web___eq__ (fp_len (ps := ["self", "other"]) (fun as Ψ Ξ h => good_body as Ψ Ξ h)) (fun cdv A outer s H vs Q E hr h => ⟨t_Web___eq__ K E, ?_, r_Web___eq__ T vs H Q E h⟩)⟩⟩
  have tkD := L2N.takes_of (X := cxOf (CXZ P w) P w K mg base ["self", "other"] "Web.__eq__" (defScope s_Web___eq__) (He.fAd K ("Web", some "__eq__")) cdv A outer s H E) (E := E) rfl rfl rfl rfl
  exact (pss_one (ps_ret (pe_and (pe_callB call_isi (by rfl) T.f_isinstance (by decide +kernel) (pa_cons (pv 1) (pa_cons (pe_glob (by rfl) T.g_Web rfl) pa_nil))) (pe_and (pe_cmpR (op_eqD hr.units) (pe_fld (pv 0) rfl) (pe_fld (pv 1) rfl) (nomark _)) (pe_one (pe_cmpR (op_eqD hr.units) (pe_fld (pv 0) rfl) (pe_fld (pv 1) rfl) (nomark _)))))))
abbrev s__law_made : Stmt := topS 24
theorem sc__law_made : FnScope ["_law_w"] ["_law_w"] (defScope s__law_made) := ⟨rfl, rfl, rfl, by decide +kernel, rfl, by decide +kernel, by decide +kernel⟩
theorem ok__law_made (T : Tx K mg) {fd : FuncData} (F : FnP K "_law_made" "_law_made" s__law_made (He.fAd K ("_law_made", none)) fd) (D_Web___init__ : FO P w K mg 3 ("Web", some "__init__") ["self", "rooms", "arrows"] (S_Web___init__ K)) : FO P w K mg 5 ("_law_made", none) ["_law_w"] (S__law_made K) := by
  obtain ⟨fd_Web___init__, k_Web___init__, b_Web___init__, G_Web___init__⟩ := D_Web___init__.ex
  refine ⟨⟨fd, F.kp, F.bindsN (fun _ _ _ _ _ _ us hl => match us, hl with | [_], _ => rfl), fun base => F.ok sc__law_made (fp_len (ps := ["_law_w"]) (fun as Ψ Ξ h => good_body as Ψ Ξ h)) (fun cdv A outer s H vs Q E hr h => ⟨t__law_made K E, ?_, r__law_made T vs H Q E h⟩)⟩⟩
  have G_Web___init__ := G_Web___init__ base
  have tkD := L2N.takes_of (X := cxOf (CXZ P w) P w K mg base ["_law_w"] "_law_made" (defScope s__law_made) (He.fAd K ("_law_made", none)) cdv A outer s H E) (E := E) rfl rfl rfl rfl
  exact (pss_one (ps_ret (pe_make T.mk_Web G_Web___init__ (hr.mono (by decide)) rfl T.g_Web b_Web___init__ .nil (passD tkD) (pa_cons (pe_ix ix_seq (pv 0) pe_int (fun _ _ => rfl)) (pa_cons (pe_callTy call_list_of (by rfl) T.f_list (by decide +kernel) (pa_cons (pe_ix ix_seq (pv 0) pe_int (fun _ _ => rfl)) pa_nil)) pa_nil)))))
abbrev s_Web___repr__ : Stmt := inClass (topS 17) 3
theorem sc_Web___repr__ : FnScope ["self"] ["self"] (defScope s_Web___repr__) := ⟨rfl, rfl, rfl, by decide +kernel, rfl, by decide +kernel, by decide +kernel⟩
theorem ok_Web___repr__ (T : Tx K mg) {fd : FuncData} (F : FnP K "__repr__" "Web.__repr__" s_Web___repr__ (He.fAd K ("Web", some "__repr__")) fd) : FO P w K mg 1 ("Web", some "__repr__") ["self"] (S_Web___repr__ K) := by
  refine ⟨⟨fd, F.kp, F.bindsN (fun _ _ _ _ _ _ us hl => match us, hl with | [_], _ => rfl), fun base => F.ok sc_Web___repr__ (fp_len (ps := ["self"]) (fun as Ψ Ξ h => good_body as Ψ Ξ h)) (fun cdv A outer s H vs Q E hr h => ⟨t_Web___repr__ K E, ?_, r_Web___repr__ T vs H Q E h⟩)⟩⟩
  have tkD := L2N.takes_of (X := cxOf (CXZ P w) P w K mg base ["self"] "Web.__repr__" (defScope s_Web___repr__) (He.fAd K ("Web", some "__repr__")) cdv A outer s H E) (E := E) rfl rfl rfl rfl
  exact (pss_one (ps_ret (pe_joined (PJ.cons pe_str (PJ.cons (pe_fmt (pe_fld (pv 0) rfl)) (PJ.cons pe_str (PJ.cons (pe_fmt (pe_callB call_len_seq (by rfl) T.f_len (by decide +kernel) (pa_cons (pe_fld (pv 0) rfl) pa_nil))) (PJ.cons pe_str PJ.nil))))))))
abbrev s_law : Stmt := topS 30
theorem sc_law : FnScope ["_law_script", "_law_bag_here", "_law_turn", "_law_w", "_law_handed", "_law_web_here", "_law_pair", "_law_again_z", "_law_some", "_law_room", "_law_outs_here", "_law_ins_here", "_law_counts", "_law_at", "_law_rooms", "_law_arrows", "_law_other", "_law_one"] ["_law_script"] (defScope s_law) := ⟨rfl, rfl, rfl, by decide +kernel, rfl, by decide +kernel, by decide +kernel⟩
theorem ok_law (T : Tx K mg) {fd : FuncData} (F : FnP K "law" "law" s_law (He.fAd K ("law", none)) fd) (D__law_bag : FO P w K mg 1 ("_law_bag", none) ["_law_script"] (S__law_bag K)) (D__law_web : FO P w K mg 3 ("_law_web", none) ["_law_bag_here", "_law_rooms_most", "_law_more_most"] (S__law_web K)) (D__law_pull : FO P w K mg 1 ("_law_pull", none) ["_law_bag_here", "_law_many"] (S__law_pull K)) (D_Web___init__ : FO P w K mg 3 ("Web", some "__init__") ["self", "rooms", "arrows"] (S_Web___init__ K)) (D_Web_arrows : FO P w K mg 1 ("Web", some "arrows") ["self"] (S_Web_arrows K)) (D__law_same : FO P w K mg 7 ("_law_same", none) ["_law_found", "_law_due"] (S__law_same K 6)) (D_Web___len__ : FO P w K mg 1 ("Web", some "__len__") ["self"] (S_Web___len__ K)) (D_Web_rooms : FO P w K mg 1 ("Web", some "rooms") ["self"] (S_Web_rooms K)) (D_Web_ins : FO P w K mg 3 ("Web", some "ins") ["self", "room"] (S_Web_ins K)) (D_Web_outs : FO P w K mg 3 ("Web", some "outs") ["self", "room"] (S_Web_outs K)) (D__law_ins : FO P w K mg 1 ("_law_ins", none) ["_law_w", "_law_room"] (S__law_ins K)) (D__law_outs : FO P w K mg 1 ("_law_outs", none) ["_law_w", "_law_room"] (S__law_outs K)) (D_Web_leading : FO P w K mg 3 ("Web", some "leading") ["self", "one", "other"] (S_Web_leading K)) (D__law_count : FO P w K mg 1 ("_law_count", none) ["_law_w", "_law_one", "_law_other"] (S__law_count K)) (D_Web_end : FO P w K mg 3 ("Web", some "end") ["self", "arrow"] (S_Web_end K)) (D_Web_begin : FO P w K mg 3 ("Web", some "begin") ["self", "arrow"] (S_Web_begin K)) (D__law_naming : FO P w K mg 3 ("_law_naming", none) ["_law_bag_here", "_law_w"] (S__law_naming K)) (D__law_named : FO P w K mg 1 ("_law_named", none) ["_law_w", "_law_rooms", "_law_arrows"] (S__law_named K)) (D_Web___eq__ : FO P w K mg 1 ("Web", some "__eq__") ["self", "other"] (S_Web___eq__ K)) (D__law_made : FO P w K mg 5 ("_law_made", none) ["_law_w"] (S__law_made K)) (D_Web___repr__ : FO P w K mg 1 ("Web", some "__repr__") ["self"] (S_Web___repr__ K)) : ∀ base, FnOk P w K mg base (CXZ P w) 8 (He.fAd K ("law", none)) fd ["_law_script"] (FP (S_law K)) := by
  intro base
  obtain ⟨fd__law_bag, k__law_bag, b__law_bag, G__law_bag⟩ := D__law_bag.ex
  obtain ⟨fd__law_web, k__law_web, b__law_web, G__law_web⟩ := D__law_web.ex
  obtain ⟨fd__law_pull, k__law_pull, b__law_pull, G__law_pull⟩ := D__law_pull.ex
  obtain ⟨fd_Web___init__, k_Web___init__, b_Web___init__, G_Web___init__⟩ := D_Web___init__.ex
  obtain ⟨fd_Web_arrows, k_Web_arrows, b_Web_arrows, G_Web_arrows⟩ := D_Web_arrows.ex
  obtain ⟨fd__law_same, k__law_same, b__law_same, G__law_same⟩ := D__law_same.ex
  obtain ⟨fd_Web___len__, k_Web___len__, b_Web___len__, G_Web___len__⟩ := D_Web___len__.ex
  obtain ⟨fd_Web_rooms, k_Web_rooms, b_Web_rooms, G_Web_rooms⟩ := D_Web_rooms.ex
  obtain ⟨fd_Web_ins, k_Web_ins, b_Web_ins, G_Web_ins⟩ := D_Web_ins.ex
  obtain ⟨fd_Web_outs, k_Web_outs, b_Web_outs, G_Web_outs⟩ := D_Web_outs.ex
  obtain ⟨fd__law_ins, k__law_ins, b__law_ins, G__law_ins⟩ := D__law_ins.ex
  obtain ⟨fd__law_outs, k__law_outs, b__law_outs, G__law_outs⟩ := D__law_outs.ex
  obtain ⟨fd_Web_leading, k_Web_leading, b_Web_leading, G_Web_leading⟩ := D_Web_leading.ex
  obtain ⟨fd__law_count, k__law_count, b__law_count, G__law_count⟩ := D__law_count.ex
  obtain ⟨fd_Web_end, k_Web_end, b_Web_end, G_Web_end⟩ := D_Web_end.ex
  obtain ⟨fd_Web_begin, k_Web_begin, b_Web_begin, G_Web_begin⟩ := D_Web_begin.ex
  obtain ⟨fd__law_naming, k__law_naming, b__law_naming, G__law_naming⟩ := D__law_naming.ex
  obtain ⟨fd__law_named, k__law_named, b__law_named, G__law_named⟩ := D__law_named.ex
  obtain ⟨fd_Web___eq__, k_Web___eq__, b_Web___eq__, G_Web___eq__⟩ := D_Web___eq__.ex
  obtain ⟨fd__law_made, k__law_made, b__law_made, G__law_made⟩ := D__law_made.ex
  obtain ⟨fd_Web___repr__, k_Web___repr__, b_Web___repr__, G_Web___repr__⟩ := D_Web___repr__.ex
  refine F.ok sc_law (fp_len (ps := ["_law_script"]) (fun as Ψ Ξ h => good_body as Ψ Ξ h)) (fun cdv A outer s H vs Q E hr h => ⟨t_law K E, ?_, r_law T vs H Q E h⟩)
  have G__law_bag := G__law_bag base
  have G__law_web := G__law_web base
  have G__law_pull := G__law_pull base
  have G_Web___init__ := G_Web___init__ base
  have G_Web_arrows := G_Web_arrows base
  have G__law_same := G__law_same base
  have G_Web___len__ := G_Web___len__ base
  have G_Web_rooms := G_Web_rooms base
  have G_Web_ins := G_Web_ins base
  have G_Web_outs := G_Web_outs base
  have G__law_ins := G__law_ins base
  have G__law_outs := G__law_outs base
  have G_Web_leading := G_Web_leading base
  have G__law_count := G__law_count base
  have G_Web_end := G_Web_end base
  have G_Web_begin := G_Web_begin base
  have G__law_naming := G__law_naming base
  have G__law_named := G__law_named base
  have G_Web___eq__ := G_Web___eq__ base
  have G__law_made := G__law_made base
  have G_Web___repr__ := G_Web___repr__ base
  have tkD := L2N.takes_of (X := cxOf (CXZ P w) P w K mg base ["_law_script", "_law_bag_here", "_law_turn", "_law_w", "_law_handed", "_law_web_here", "_law_pair", "_law_again_z", "_law_some", "_law_room", "_law_outs_here", "_law_ins_here", "_law_counts", "_law_at", "_law_rooms", "_law_arrows", "_law_other", "_law_one"] "law" (defScope s_law) (He.fAd K ("law", none)) cdv A outer s H E) (E := E) rfl rfl rfl rfl
  exact (pss_cons (ps_set (i := 1) sc_law.nd rfl (.inr rfl) (pe_call G__law_bag (hr.mono (by decide)) rfl T.g__law_bag k__law_bag b__law_bag .nil (passD tkD) (pa_cons (pv 0) pa_nil)))
    (pss_cons (ps_for (L2.passes_of rfl) rfl (pi_range1 (by rfl) T.f_range (pa_cons pe_int pa_nil)) (pg_name (i := 2) sc_law.nd rfl (.inl rfl))
    (pss_cons (ps_set (i := 3) sc_law.nd rfl (.inr rfl) (pe_call G__law_web (hr.mono (by decide)) rfl T.g__law_web k__law_web b__law_web .nil (passD tkD) (pa_cons (pv 1) (pa_cons pe_int (pa_cons pe_int pa_nil)))))
    (pss_cons (ps_setLc (i := 4) (own := [("_law_pair", 6)]) (g := (gName 6)) (tt := tYes) (by rfl) sc_law.nd rfl rfl (sw_true rfl rfl rfl (by decide +kernel)) (pi_seq (pe_ix ix_seq (pv 3) pe_int (fun _ _ => rfl))) (blkOk_by (by kernel_rfl)) (fun _ _ _ _ _ => (pg_name (i := 6) sc_law.nd rfl (.inl rfl))) (fun _ _ _ _ _ => pts_nil) (fun _ _ _ _ _ => (pe_ifExp (pt_cmpR (op_eqD hr.units) (pe_call G__law_pull (hr.mono (by decide)) rfl T.g__law_pull k__law_pull b__law_pull .nil passL0 (pa_cons (pv 1) (pa_cons pe_int pa_nil))) pe_int (nomark _)) (pe_callTy call_list_of (by rfl) T.f_list (by decide +kernel) (pa_cons (pv 6) pa_nil)) (pv 6))))
    (pss_cons (ps_set (i := 5) sc_law.nd rfl (.inr rfl) (pe_make T.mk_Web G_Web___init__ (hr.mono (by decide)) rfl T.g_Web b_Web___init__ .nil (passD tkD) (pa_cons (pe_ix ix_seq (pv 3) pe_int (fun _ _ => rfl)) (pa_cons (pv 4) pa_nil))))
    (pss_cons (ps_expr (pe_bm PySem.F.plainAttrs_list PySem.F.slot_list_append PySem.F.type_list_append mt_append (pv 4) (pa_cons (pe_tup (pa_cons pe_int (pa_cons pe_int pa_nil))) pa_nil)))
    (pss_cons (ps_for (L2.passes_of rfl) rfl (pi_seq (pe_lc (own := [("_law_pair", 6)]) (g := (gName 6)) (tt := (tB (tCB (rIsi K) (tCons (tVar 6) (tCons (tC (.ty "list")) tNil))))) (by rfl) sc_law.nd (pi_seq (pv 4)) (blkOk_by (by kernel_rfl)) (fun _ _ _ _ _ => (pg_name (i := 6) sc_law.nd rfl (.inl rfl))) (fun _ _ _ _ _ => (pts_one (pt_val (pe_callB call_isi (by rfl) T.f_isinstance (by decide +kernel) (pa_cons (pv 6) (pa_cons (pe_bltn (v := .ty "list") (by rfl) T.f_list (by decide +kernel) rfl) pa_nil)))))) (fun _ _ _ _ _ => (pv 6)))) (pg_name (i := 6) sc_law.nd rfl (.inl rfl))
    (pss_one (ps_expr (pe_bm PySem.F.plainAttrs_list PySem.F.slot_list_append PySem.F.type_list_append mt_append (pv 6) (pa_cons pe_int pa_nil)))))
    (pss_cons (ps_for (L2.passes_of rfl) rfl (pi_range1 (by rfl) T.f_range (pa_cons pe_int pa_nil)) (pg_name (i := 7) sc_law.nd rfl (.inl rfl))
    (pss_cons (ps_set (i := 8) sc_law.nd rfl (.inl rfl) (pe_meth0 (pv 5) T.k_Web.k.c T.m_Web_arrows G_Web_arrows (hr.mono (by decide)) b_Web_arrows .nil (passD tkD)))
    (pss_cons (ps_if (pt_not (pt_val (pe_call G__law_same (hr.mono (by decide)) rfl T.g__law_same k__law_same b__law_same .nil (passD tkD) (pa_cons (pe_lst (pa_cons (pe_meth0 (pv 5) T.k_Web.k.c T.m_Web_rooms G_Web_rooms (hr.mono (by decide)) b_Web_rooms .nil (passD tkD)) (pa_cons (pv 8) (pa_cons (pe_callB (call_ownlen G_Web___len__ (hr.mono (by decide)) b_Web___len__ (passD tkD) T.l_Web T.lf_Web) (by rfl) T.f_len (by decide +kernel) (pa_cons (pv 5) pa_nil)) pa_nil)))) (pa_cons (pe_lst (pa_cons (pe_ix ix_seq (pv 3) pe_int (fun _ _ => rfl)) (pa_cons (pe_callTy call_list_of (by rfl) T.f_list (by decide +kernel) (pa_cons (pe_ix ix_seq (pv 3) pe_int (fun _ _ => rfl)) pa_nil)) (pa_cons (pe_callB call_len_seq (by rfl) T.f_len (by decide +kernel) (pa_cons (pe_ix ix_seq (pv 3) pe_int (fun _ _ => rfl)) pa_nil)) pa_nil)))) pa_nil))))) (pss_one (ps_ret pe_bl)) pss_nil)
    (pss_cons (ps_expr (pe_bm0 PySem.F.plainAttrs_list PySem.F.slot_list_pop PySem.F.type_list_pop mt_pop (pv 8)))
    (pss_one (ps_for (L2.passes_of rfl) rfl (pi_range1 (by rfl) T.f_range (pa_cons (pe_ix ix_seq (pv 3) pe_int (fun _ _ => rfl)) pa_nil)) (pg_name (i := 9) sc_law.nd rfl (.inr rfl))
    (pss_cons (ps_par (i := 10) (j := 11) (by rfl) sc_law.nd rfl rfl (by decide) rfl rfl (pa_cons (pe_meth (pv 5) T.k_Web.k.c T.m_Web_outs G_Web_outs (hr.mono (by decide)) b_Web_outs .nil (passD tkD) (pa_cons (pv 9) pa_nil)) (pa_cons (pe_meth (pv 5) T.k_Web.k.c T.m_Web_ins G_Web_ins (hr.mono (by decide)) b_Web_ins .nil (passD tkD) (pa_cons (pv 9) pa_nil)) pa_nil)) (by rfl))
    (pss_cons (ps_if (pt_not (pt_val (pe_call G__law_same (hr.mono (by decide)) rfl T.g__law_same k__law_same b__law_same .nil (passD tkD) (pa_cons (pe_lst (pa_cons (pv 10) (pa_cons (pv 11) pa_nil))) (pa_cons (pe_lst (pa_cons (pe_call G__law_outs (hr.mono (by decide)) rfl T.g__law_outs k__law_outs b__law_outs .nil (passD tkD) (pa_cons (pv 3) (pa_cons (pv 9) pa_nil))) (pa_cons (pe_call G__law_ins (hr.mono (by decide)) rfl T.g__law_ins k__law_ins b__law_ins .nil (passD tkD) (pa_cons (pv 3) (pa_cons (pv 9) pa_nil))) pa_nil))) pa_nil))))) (pss_one (ps_ret pe_bl)) pss_nil)
    (pss_cons (ps_expr (pe_bm PySem.F.plainAttrs_list PySem.F.slot_list_append PySem.F.type_list_append mt_append (pv 10) (pa_cons pe_int pa_nil)))
    (pss_cons (ps_expr (pe_bm PySem.F.plainAttrs_list PySem.F.slot_list_append PySem.F.type_list_append mt_append (pv 11) (pa_cons pe_int pa_nil)))
    (pss_cons (ps_setLc (i := 12) (own := [("_law_one", 17)]) (g := (gName 17)) (tt := tYes) (by rfl) sc_law.nd rfl rfl (sw_true rfl rfl rfl (by decide +kernel)) (pi_range1 (by rfl) T.f_range (pa_cons (pe_ix ix_seq (pv 3) pe_int (fun _ _ => rfl)) pa_nil)) (blkOk_by (by kernel_rfl)) (fun _ _ _ _ _ => (pg_name (i := 17) sc_law.nd rfl (.inl rfl))) (fun _ _ _ _ _ => pts_nil) (fun _ _ _ _ _ => (pe_meth (pv 5) T.k_Web.k.c T.m_Web_leading G_Web_leading (hr.mono (by decide)) b_Web_leading .nil passL0 (pa_cons (pv 9) (pa_cons (pv 17) pa_nil)))))
    (pss_one (ps_if (pt_not (pt_val (pe_call G__law_same (hr.mono (by decide)) rfl T.g__law_same k__law_same b__law_same .nil (passD tkD) (pa_cons (pv 12) (pa_cons (pe_lc (own := [("_law_one", 17)]) (g := (gName 17)) (tt := tYes) (by rfl) sc_law.nd (pi_range1 (by rfl) T.f_range (pa_cons (pe_ix ix_seq (pv 3) pe_int (fun _ _ => rfl)) pa_nil)) (blkOk_by (by kernel_rfl)) (fun _ _ _ _ _ => (pg_name (i := 17) sc_law.nd rfl (.inl rfl))) (fun _ _ _ _ _ => pts_nil) (fun _ _ _ _ _ => (pe_call G__law_count (hr.mono (by decide)) rfl T.g__law_count k__law_count b__law_count .nil passL0 (pa_cons (pv 3) (pa_cons (pv 9) (pa_cons (pv 17) pa_nil)))))) pa_nil))))) (pss_one (ps_ret pe_bl)) pss_nil)))))))))))))
    (pss_cons (ps_for (L2.passes_of rfl) rfl (pi_enumA (by rfl) T.f_enumerate (pa_cons (pe_ix ix_seq (pv 3) pe_int (fun _ _ => rfl)) pa_nil)) (pg_tup (by rfl) (pgs_cons (pg_name (i := 13) sc_law.nd rfl (.inl rfl)) (pgs_cons (pg_name (i := 6) sc_law.nd rfl (.inl rfl)) pgs_nil)))
    (pss_one (ps_if (pt_not (pt_val (pe_call G__law_same (hr.mono (by decide)) rfl T.g__law_same k__law_same b__law_same .nil (passD tkD) (pa_cons (pe_tup (pa_cons (pe_meth (pv 5) T.k_Web.k.c T.m_Web_begin G_Web_begin (hr.mono (by decide)) b_Web_begin .nil (passD tkD) (pa_cons (pv 13) pa_nil)) (pa_cons (pe_meth (pv 5) T.k_Web.k.c T.m_Web_end G_Web_end (hr.mono (by decide)) b_Web_end .nil (passD tkD) (pa_cons (pv 13) pa_nil)) pa_nil))) (pa_cons (pv 6) pa_nil))))) (pss_one (ps_ret pe_bl)) pss_nil)))
    (pss_cons (ps_asg (pe_call G__law_naming (hr.mono (by decide)) rfl T.g__law_naming k__law_naming b__law_naming .nil (passD tkD) (pa_cons (pv 1) (pa_cons (pv 3) pa_nil))) (pg_tup (by rfl) (pgs_cons (pg_name (i := 14) sc_law.nd rfl (.inl rfl)) (pgs_cons (pg_name (i := 15) sc_law.nd rfl (.inl rfl)) pgs_nil))))
    (pss_cons (ps_set (i := 16) sc_law.nd rfl (.inl rfl) (pe_call G__law_named (hr.mono (by decide)) rfl T.g__law_named k__law_named b__law_named .nil (passD tkD) (pa_cons (pv 3) (pa_cons (pv 14) (pa_cons (pv 15) pa_nil)))))
    (pss_cons (ps_if (PW.pt (pw_or (pt_cmpR (op_neD hr.units) (pe_cmpR (op_owneq G_Web___eq__ (hr.mono (by decide)) b_Web___eq__ (passD tkD) T.q_Web T.qf_Web) (pv 5) (pe_call G__law_made (hr.mono (by decide)) rfl T.g__law_made k__law_made b__law_made .nil (passD tkD) (pa_cons (pv 16) pa_nil)) (nomark _)) (pe_cmpR (op_eqD hr.units) (pv 3) (pv 16) (nomark _)) (nomark _)) (pw_or (pt_cmpR (op_ownne G_Web___eq__ (hr.mono (by decide)) b_Web___eq__ (passD tkD) T.q_Web T.qf_Web T.ne_Web T.mo_Web) (pv 5) (pe_call G__law_made (hr.mono (by decide)) rfl T.g__law_made k__law_made b__law_made .nil (passD tkD) (pa_cons (pv 3) pa_nil)) (nomark _)) (pw_or1 (pt_cmpR (op_owneq G_Web___eq__ (hr.mono (by decide)) b_Web___eq__ (passD tkD) T.q_Web T.qf_Web) (pv 5) (pe_ix ix_seq (pv 3) pe_int (fun _ _ => rfl)) (nomark _)))))) (pss_one (ps_ret pe_bl)) pss_nil)
    (pss_cons (ps_if (pt_cmpR (op_owneq G_Web___eq__ (hr.mono (by decide)) b_Web___eq__ (passD tkD) T.q_Web T.qf_Web) (pv 5) (pe_make T.mk_Web G_Web___init__ (hr.mono (by decide)) rfl T.g_Web b_Web___init__ .nil (passD tkD) (pa_cons (pe_op op_add (pe_ix ix_seq (pv 3) pe_int (fun _ _ => rfl)) pe_int) (pa_cons (pe_op op_cat (pe_callTy call_list_of (by rfl) T.f_list (by decide +kernel) (pa_cons (pe_ix ix_seq (pv 3) pe_int (fun _ _ => rfl)) pa_nil)) (pe_lst (pa_cons (pe_tup (pa_cons (pe_ix ix_seq (pv 3) pe_int (fun _ _ => rfl)) (pa_cons pe_int pa_nil))) pa_nil))) pa_nil))) (nomark _)) (pss_one (ps_ret pe_bl)) pss_nil)
    (pss_one (ps_if (pt_cmpR (op_neD hr.units) (pe_callB (call_ownrepr G_Web___repr__ (hr.mono (by decide)) b_Web___repr__ (passD tkD) T.r_Web T.rf_Web) (by rfl) T.f_repr (by decide +kernel) (pa_cons (pv 5) pa_nil)) (pe_op op_add_str (pe_op op_add_str (pe_op op_add_str (pe_op op_add_str pe_str (pe_callTy call_str_int (by rfl) T.f_str (by decide +kernel) (pa_cons (pe_ix ix_seq (pv 3) pe_int (fun _ _ => rfl)) pa_nil))) pe_str) (pe_callTy call_str_int (by rfl) T.f_str (by decide +kernel) (pa_cons (pe_callB call_len_seq (by rfl) T.f_len (by decide +kernel) (pa_cons (pe_ix ix_seq (pv 3) pe_int (fun _ _ => rfl)) pa_nil)) pa_nil))) pe_str) (nomark _)) (pss_one (ps_ret pe_bl)) pss_nil))))))))))))))
    (pss_one (ps_ret pe_bl))))
end
end Z
namespace Z
open PySem PySem.Spec PyProof.Rows L2
/-! ### the head with facts of one's own -/
def kcB (K : PySem.W.Frag) (C : Addr) : Bool :=
  He.eqO (PySem.W.findIn K (.ref C) "__class__") (some (some (.builtin "object.__class__"))) && (He.eqO (PySem.W.specialIn K (.builtin "object.__class__") "__get__") (some (some (.builtin "getset_descriptor.__get__"))) &&
  (decide (PySem.W.takesIn K (.builtin "object.__class__") = some true) && (decide (PySem.W.mroIn K C (.type "object") = some true) && (decide (PySem.W.kitOne K (.type "tuple") (.ref C) = some false) &&
  (decide (PySem.W.subIn K (.type "tuple") (.ref C) = some false) && He.eqO (PySem.W.findIn K (.ref C) "__ne__") (some (some (.builtin "object.__ne__"))))))))
section
variable {K : PySem.W.Frag} {C : Addr}
theorem kc_ok (h : kcB K C = true) (hc : Cls K C) : KCls K C := by
  unfold kcB at h
  simp only [Bool.and_eq_true] at h
  obtain ⟨h1, h2, h3, h4, h5, h6, h7⟩ := h
  exact ⟨hc, He.eqO_ok h1, He.eqO_ok h2, of_decide_eq_true h3, of_decide_eq_true h4, of_decide_eq_true h5, of_decide_eq_true h6⟩
theorem ne_ok (h : kcB K C = true) : PySem.W.findIn K (.ref C) "__ne__" = some (some (.builtin "object.__ne__")) := by
  unfold kcB at h
  simp only [Bool.and_eq_true] at h
  exact He.eqO_ok h.2.2.2.2.2.2
theorem mo_ok (h : kcB K C = true) : PySem.W.mroIn K C (.type "object") = some true := by
  unfold kcB at h
  simp only [Bool.and_eq_true] at h
  exact of_decide_eq_true h.2.2.2.1
end
abbrev AlZ : Type := He.AlD × Bool
def obsK (fa : List He.Fa) (fn : List He.DefD) (ex : PySem.W.Frag → Bool) (K : PySem.W.Frag) : AlZ := (He.obsD fa fn K, ex K)
def obsZ (n : Nat) (fa : List He.Fa) (fn : List He.DefD) (ex : PySem.W.Frag → Bool) (g : Addr → Option Obj) : AlZ := obsK fa fn ex (He.frG g (He.asD g n))
def hookZ (n : Nat) (fa : List He.Fa) (fn : List He.DefD) (ex : PySem.W.Frag → Bool) : PySem.W.Hook where
  α := AlZ
  obs := fun s => obsZ n fa fn ex s.heap.get?
  val := fun _ => (He.valD fn, true)
  says := fun _ h => ∃ K : PySem.W.Frag, K.In h ∧ He.SaysD fa fn K ∧ ex K = true
  of := fun _ _ e => ⟨_, He.frG_in, congrArg (fun z : AlZ => z.1) e, congrArg (fun z : AlZ => z.2) e⟩
  keeps := fun _ _ _ ⟨K, hK, c⟩ k => ⟨K, PySem.W.Frag.In.keeps hK k, c⟩
theorem obsZ_eq {n : Nat} {fa : List He.Fa} {fn : List He.DefD} {ex : PySem.W.Frag → Bool} {g : Addr → Option Obj} {s : Shared} (h : ∀ a, g a = s.heap.get? a) : obsZ n fa fn ex g = (hookZ n fa fn ex).obs s := by
  rw [show g = s.heap.get? from funext h]
  rfl
/-- the end, the context of exceptions by the world -/
theorem walk_ofZ {l : PySem.W.OpenLaw} {n k : Nat} {q : Program} {loose : List Str} {XP : (Str → Option Value) → Heap → Prop} {YP : World → Heap → Prop} {d : DefRec} {CX : World → CXT} {x : Str} (hn : l.most = some n) (h2 : n ≤ sizeLine) (hd : d.params.defaults = []) (hr : Room k callerA)
    (F : ∀ (w : World) (mg : Str → Option Value) (fa : Addr) (h : Heap), YP w h → h.Ns mainGlobals mg → mg d.name = some (.ref fa) → ∃ (K : PySem.W.Frag) (fd : FuncData) (sp : Sp), K.In h ∧ (∀ (s : Shared) (u : Value), BindsTo s fd ⟨[u], []⟩ [(x, u)]) ∧ (∀ (H : Hp) (a : Addr) (ns : List Int), ns.length ≤ n → Only H → SqL K H a (ns.map V.int) → sp [.ref a] H (fun v _ => v = .bl true) fun _ _ _ => False) ∧ ∀ base : Heap, K.In base → base.Ns mainGlobals mg → FnOk l.prog w K mg base (CX w) k fa fd [x] sp)
    (hC : ∀ (w : World) (H : Hp) (s : Shared) (e : Value) (s' : Shared), CX w [] H s (fun _ _ _ => False) e s' → False) : PySem.W.WalkO q loose XP YP l.row.toRowW d [] (fun f vs => PySem.call f vs) := by
  refine Att.attach_call hn hd fun w s0 s1 mg mb fa o pm cd doc a vs ns G Y ho hdo hcd hmg hob hin hle hg => ?_
  obtain ⟨K, fd, sp, q1, q2, q3, q4⟩ := F w mg fa _ Y G.T.g hmg
  exact law_call q1 G.T.g G.T.b G.T.builtins G.T.nolimit hg hob hin (Nat.le_trans hle h2) hr q4 q2 (fun H a1 a2 => q3 H a ns hle a1 a2) fun H e s' => hC w H s1 e s'
theorem noCX {P : Program} {w : World} {H : Hp} {s : Shared} {e : Value} {s' : Shared} (h : CXZ P w [] H s (fun _ _ _ => False) e s') : False := by
  obtain ⟨_, _, _, _, _, _, _, _, _, _, _, _, z⟩ := h
  exact z
theorem at_law {P : Program} {w : World} {K : PySem.W.Frag} {mg : Str → Option Value} {h : Heap} {fa : Addr} {k : Nat} {x : Str} {S : Sem} {T : Prop} {Y : FuncData → Prop} (KX : K.In h) (t : T) (g : mg "law" = some (.ref (He.ga K "law"))) (hmg : mg "law" = some (.ref fa)) (hd : ∃ fd, Y fd ∧ ∀ base, FnOk P w K mg base (CXZ P w) k (He.fAd K ("law", none)) fd [x] (FP (SemS K S))) (hb : ∀ {fd}, Y fd → ∀ (s : Shared) (u : Value), BindsTo s fd ⟨[u], []⟩ [(x, u)])
    (pl : ∀ ns : List Int, ns.length ≤ 63 → ∃ as, S [.dat (.scr ns)] = .v (.dat (.bl true)) as) :
    ∃ (K : PySem.W.Frag) (fd : FuncData) (sp : Sp), K.In h ∧ (∀ (s : Shared) (u : Value), BindsTo s fd ⟨[u], []⟩ [(x, u)]) ∧ (∀ (H : Hp) (a : Addr) (ns : List Int), ns.length ≤ 63 → Only H → SqL K H a (ns.map V.int) → sp [.ref a] H (fun v _ => v = .bl true) fun _ _ _ => False) ∧ ∀ base : Heap, K.In base → base.Ns mainGlobals mg → FnOk P w K mg base (CXZ P w) k fa fd [x] sp := by
  obtain ⟨fd, hy, hF⟩ := hd
  have e : fa = He.ga K "law" := by
    have z := hmg.symm.trans g
    cases z
    rfl
  subst e
  refine ⟨K, fd, FP (SemS K S), KX, hb hy, fun H a ns hl ho hs => ?_, fun base _ _ => hF base⟩
  · obtain ⟨as, e⟩ := pl ns hl
    refine ⟨H, [.dat (scrD K ns)], fun _ _ => False, fun r _ => r = .dat (.bl true), X0, ?_, ⟨[.dat (.scr ns)], _, _, rfl, e, rfl⟩, fun v G' H' F' r as' hr _ _ hv => ?_, fun _ _ _ _ _ _ _ z => z.elim⟩
    · exact {
        ex := Same.refl H
        tu := fun _ _ _ z => z
        fr := Fr.refl
        len := rfl
        sl := fun i t z => by
          cases i with
          | zero =>
            cases z
            exact ⟨_, rfl, a, rfl, hs⟩
          | succ i => cases i <;> cases z
        rs := fun i l R z => by
          cases i with
          | zero => cases z
          | succ i => cases i <;> cases z
        own := fun _ _ z => z.elim
        dj := fun _ _ _ _ z => z.elim
        pn := fun _ z => by cases z }
    · subst hr
      exact hv
def d__law_bag : He.DefD := ⟨("_law_bag", none), "_law_bag", "_law_bag", defArgs s__law_bag, defBody s__law_bag, defScope s__law_bag, [], []⟩
def d__law_pull : He.DefD := ⟨("_law_pull", none), "_law_pull", "_law_pull", defArgs s__law_pull, defBody s__law_pull, defScope s__law_pull, [], []⟩
def d__law_mixed : He.DefD := ⟨("_law_mixed", none), "_law_mixed", "_law_mixed", defArgs s__law_mixed, defBody s__law_mixed, defScope s__law_mixed, [], []⟩
def d__law_web : He.DefD := ⟨("_law_web", none), "_law_web", "_law_web", defArgs s__law_web, defBody s__law_web, defScope s__law_web, [], []⟩
def d_is_within : He.DefD := ⟨("is_within", none), "is_within", "is_within", defArgs s_is_within, defBody s_is_within, defScope s_is_within, [], []⟩
def d_is_listed : He.DefD := ⟨("is_listed", none), "is_listed", "is_listed", defArgs s_is_listed, defBody s_is_listed, defScope s_is_listed, [], []⟩
def d_is_pair : He.DefD := ⟨("is_pair", none), "is_pair", "is_pair", defArgs s_is_pair, defBody s_is_pair, defScope s_is_pair, [], []⟩
def d_Web___init__ : He.DefD := ⟨("Web", some "__init__"), "__init__", "Web.__init__", defArgs s_Web___init__, defBody s_Web___init__, defScope s_Web___init__, [], []⟩
def d_Web_arrows : He.DefD := ⟨("Web", some "arrows"), "arrows", "Web.arrows", defArgs s_Web_arrows, defBody s_Web_arrows, defScope s_Web_arrows, [], []⟩
def d__law_same : He.DefD := ⟨("_law_same", none), "_law_same", "_law_same", defArgs s__law_same, defBody s__law_same, defScope s__law_same, [], []⟩
def d_Web___len__ : He.DefD := ⟨("Web", some "__len__"), "__len__", "Web.__len__", defArgs s_Web___len__, defBody s_Web___len__, defScope s_Web___len__, [], []⟩
def d_Web_rooms : He.DefD := ⟨("Web", some "rooms"), "rooms", "Web.rooms", defArgs s_Web_rooms, defBody s_Web_rooms, defScope s_Web_rooms, [], []⟩
def d_Web_need_room : He.DefD := ⟨("Web", some "need_room"), "need_room", "Web.need_room", defArgs s_Web_need_room, defBody s_Web_need_room, defScope s_Web_need_room, [], []⟩
def d_Web_ins : He.DefD := ⟨("Web", some "ins"), "ins", "Web.ins", defArgs s_Web_ins, defBody s_Web_ins, defScope s_Web_ins, [], []⟩
def d_Web_outs : He.DefD := ⟨("Web", some "outs"), "outs", "Web.outs", defArgs s_Web_outs, defBody s_Web_outs, defScope s_Web_outs, [], []⟩
def d__law_ins : He.DefD := ⟨("_law_ins", none), "_law_ins", "_law_ins", defArgs s__law_ins, defBody s__law_ins, defScope s__law_ins, [], []⟩
def d__law_outs : He.DefD := ⟨("_law_outs", none), "_law_outs", "_law_outs", defArgs s__law_outs, defBody s__law_outs, defScope s__law_outs, [], []⟩
def d_Web_leading : He.DefD := ⟨("Web", some "leading"), "leading", "Web.leading", defArgs s_Web_leading, defBody s_Web_leading, defScope s_Web_leading, [], []⟩
def d__law_count : He.DefD := ⟨("_law_count", none), "_law_count", "_law_count", defArgs s__law_count, defBody s__law_count, defScope s__law_count, [], []⟩
def d_Web_has_arrow : He.DefD := ⟨("Web", some "has_arrow"), "has_arrow", "Web.has_arrow", defArgs s_Web_has_arrow, defBody s_Web_has_arrow, defScope s_Web_has_arrow, [], []⟩
def d_Web_end : He.DefD := ⟨("Web", some "end"), "end", "Web.end", defArgs s_Web_end, defBody s_Web_end, defScope s_Web_end, [], []⟩
def d_Web_begin : He.DefD := ⟨("Web", some "begin"), "begin", "Web.begin", defArgs s_Web_begin, defBody s_Web_begin, defScope s_Web_begin, [], []⟩
def d__law_naming : He.DefD := ⟨("_law_naming", none), "_law_naming", "_law_naming", defArgs s__law_naming, defBody s__law_naming, defScope s__law_naming, [], []⟩
def d__law_named : He.DefD := ⟨("_law_named", none), "_law_named", "_law_named", defArgs s__law_named, defBody s__law_named, defScope s__law_named, [], []⟩
def d_Web___eq__ : He.DefD := ⟨("Web", some "__eq__"), "__eq__", "Web.__eq__", defArgs s_Web___eq__, defBody s_Web___eq__, defScope s_Web___eq__, [], []⟩
def d__law_made : He.DefD := ⟨("_law_made", none), "_law_made", "_law_made", defArgs s__law_made, defBody s__law_made, defScope s__law_made, [], []⟩
def d_Web___repr__ : He.DefD := ⟨("Web", some "__repr__"), "__repr__", "Web.__repr__", defArgs s_Web___repr__, defBody s_Web___repr__, defScope s_Web___repr__, [], []⟩
def d_law : He.DefD := ⟨("law", none), "law", "law", defArgs s_law, defBody s_law, defScope s_law, [], []⟩
def fn : List He.DefD := [d__law_bag, d__law_pull, d__law_mixed, d__law_web, d_is_within, d_is_listed, d_is_pair, d_Web___init__, d_Web_arrows, d__law_same, d_Web___len__, d_Web_rooms, d_Web_need_room, d_Web_ins, d_Web_outs, d__law_ins, d__law_outs, d_Web_leading, d__law_count, d_Web_has_arrow, d_Web_end, d_Web_begin, d__law_naming, d__law_named, d_Web___eq__, d__law_made, d_Web___repr__, d_law]
def fa : List He.Fa := [.cls "Web", .free "all", .free "bool", .free "enumerate", .free "int", .free "isinstance", .free "len", .free "list", .free "range", .free "repr", .free "str", .free "tuple", .free "zip", .glo "Web", .glo "_law_bag", .glo "_law_count", .glo "_law_ins", .glo "_law_made", .glo "_law_mixed", .glo "_law_named", .glo "_law_naming", .glo "_law_outs", .glo "_law_pull", .glo "_law_same", .glo "_law_web", .glo "is_listed", .glo "is_pair", .glo "is_within", .int "MOST_ARROWS" 400, .int "MOST_ROOMS" 100, .noat "Web" "coming", .noat "Web" "leaving", .noat "Web" "pairs", .noat "Web" "size", .meth "Web" "__len__", .meth "Web" "arrows", .meth "Web" "begin", .meth "Web" "end", .meth "Web" "has_arrow", .meth "Web" "ins", .meth "Web" "leading", .meth "Web" "need_room", .meth "Web" "outs", .meth "Web" "rooms", .mkr "Web", .meth "Web" "__eq__", .meth "Web" "__repr__", .glo "law"]
def ex (K : PySem.W.Frag) : Bool := kcB K (He.ga K "Web")
abbrev Rw : PySem.W.OpenRow := PySem.W.OpenLaw.row PySem.Challenge.rw_aheadfold_k01_webs_made
def loose : List Str := (["_wall", "FoldError", "BadWeb", "BadRoom", "BadArrow", "BadWindow", "TooMany", "MOST_ROOMS", "MOST_ARROWS", "MOST_ROWS", "MOST_WINDOW", "MOST_LENGTH", "is_within", "is_listed", "is_pair", "Web", "_law_bag", "_law_pull", "_law_same", "_law_mixed", "_law_web", "_law_made", "_law_outs", "_law_ins", "_law_named", "_law_naming", "_law_count"] : List Str)
abbrev hk : PySem.W.Hook := hookZ 5 fa fn ex
def ob (s : PySem.W.SharedT) : AlZ := obsZ 5 fa fn ex (HandSHeadRun.getT s)
theorem ob_eq (s : PySem.W.SharedT) : ob s = hk.obs s.abs := obsZ_eq (HandSHeadRun.getT_eq s)
theorem run (w : World) : HandSHeadRun.RunEq Rw (PySem.W.view Rw.prog [30]) hk ob 12000 loose w := by
  intro os
  kernel_rfl
theorem tx {K : PySem.W.Frag} {h : Heap} {mg : Str → Option Value} (X : K.In h) (G : h.Ns mainGlobals mg) (c : He.SaysD fa fn K) (e : ex K = true) : Tx K mg := by
  have ek_Web : kcB K (He.ga K "Web") = true := e
  exact {
    c_Web := He.cls_ok (c.fact 0 (f := .cls "Web") rfl)
    f_all := He.free_ok X G (c.fact 1 (f := .free "all") rfl)
    f_bool := He.free_ok X G (c.fact 2 (f := .free "bool") rfl)
    f_enumerate := He.free_ok X G (c.fact 3 (f := .free "enumerate") rfl)
    f_int := He.free_ok X G (c.fact 4 (f := .free "int") rfl)
    f_isinstance := He.free_ok X G (c.fact 5 (f := .free "isinstance") rfl)
    f_len := He.free_ok X G (c.fact 6 (f := .free "len") rfl)
    f_list := He.free_ok X G (c.fact 7 (f := .free "list") rfl)
    f_range := He.free_ok X G (c.fact 8 (f := .free "range") rfl)
    f_repr := He.free_ok X G (c.fact 9 (f := .free "repr") rfl)
    f_str := He.free_ok X G (c.fact 10 (f := .free "str") rfl)
    f_tuple := He.free_ok X G (c.fact 11 (f := .free "tuple") rfl)
    f_zip := He.free_ok X G (c.fact 12 (f := .free "zip") rfl)
    g_Web := He.glo_ok X G (c.fact 13 (f := .glo "Web") rfl)
    g__law_bag := He.glo_ok X G (c.fact 14 (f := .glo "_law_bag") rfl)
    g__law_count := He.glo_ok X G (c.fact 15 (f := .glo "_law_count") rfl)
    g__law_ins := He.glo_ok X G (c.fact 16 (f := .glo "_law_ins") rfl)
    g__law_made := He.glo_ok X G (c.fact 17 (f := .glo "_law_made") rfl)
    g__law_mixed := He.glo_ok X G (c.fact 18 (f := .glo "_law_mixed") rfl)
    g__law_named := He.glo_ok X G (c.fact 19 (f := .glo "_law_named") rfl)
    g__law_naming := He.glo_ok X G (c.fact 20 (f := .glo "_law_naming") rfl)
    g__law_outs := He.glo_ok X G (c.fact 21 (f := .glo "_law_outs") rfl)
    g__law_pull := He.glo_ok X G (c.fact 22 (f := .glo "_law_pull") rfl)
    g__law_same := He.glo_ok X G (c.fact 23 (f := .glo "_law_same") rfl)
    g__law_web := He.glo_ok X G (c.fact 24 (f := .glo "_law_web") rfl)
    g_is_listed := He.glo_ok X G (c.fact 25 (f := .glo "is_listed") rfl)
    g_is_pair := He.glo_ok X G (c.fact 26 (f := .glo "is_pair") rfl)
    g_is_within := He.glo_ok X G (c.fact 27 (f := .glo "is_within") rfl)
    i_MOST_ARROWS := He.int_ok X G (c.fact 28 (f := .int "MOST_ARROWS" 400) rfl)
    i_MOST_ROOMS := He.int_ok X G (c.fact 29 (f := .int "MOST_ROOMS" 100) rfl)
    k_Web := { k := kc_ok ek_Web (He.cls_ok (c.fact 0 (f := .cls "Web") rfl)), coming := He.noat_ok (c.fact 30 (f := .noat "Web" "coming") rfl), leaving := He.noat_ok (c.fact 31 (f := .noat "Web" "leaving") rfl), pairs := He.noat_ok (c.fact 32 (f := .noat "Web" "pairs") rfl), size := He.noat_ok (c.fact 33 (f := .noat "Web" "size") rfl) }
    l_Web := (He.meth_ok (c.fact 34 (f := .meth "Web" "__len__") rfl)).at_
    lf_Web := (He.meth_ok (c.fact 34 (f := .meth "Web" "__len__") rfl)).fn
    m_Web_arrows := He.meth_ok (c.fact 35 (f := .meth "Web" "arrows") rfl)
    m_Web_begin := He.meth_ok (c.fact 36 (f := .meth "Web" "begin") rfl)
    m_Web_end := He.meth_ok (c.fact 37 (f := .meth "Web" "end") rfl)
    m_Web_has_arrow := He.meth_ok (c.fact 38 (f := .meth "Web" "has_arrow") rfl)
    m_Web_ins := He.meth_ok (c.fact 39 (f := .meth "Web" "ins") rfl)
    m_Web_leading := He.meth_ok (c.fact 40 (f := .meth "Web" "leading") rfl)
    m_Web_need_room := He.meth_ok (c.fact 41 (f := .meth "Web" "need_room") rfl)
    m_Web_outs := He.meth_ok (c.fact 42 (f := .meth "Web" "outs") rfl)
    m_Web_rooms := He.meth_ok (c.fact 43 (f := .meth "Web" "rooms") rfl)
    mk_Web := He.mkr_ok (c.fact 44 (f := .mkr "Web") rfl)
    mo_Web := mo_ok ek_Web
    ne_Web := ne_ok ek_Web
    q_Web := (He.meth_ok (c.fact 45 (f := .meth "Web" "__eq__") rfl)).at_
    qf_Web := (He.meth_ok (c.fact 45 (f := .meth "Web" "__eq__") rfl)).fn
    r_Web := (He.meth_ok (c.fact 46 (f := .meth "Web" "__repr__") rfl)).at_
    rf_Web := (He.meth_ok (c.fact 46 (f := .meth "Web" "__repr__") rfl)).fn }
theorem defs {P : Program} {w : World} {K : PySem.W.Frag} {mg : Str → Option Value} (T : Tx K mg) (c : He.SaysD fa fn K) : ∃ fd, FnP K "law" "law" s_law (He.fAd K ("law", none)) fd ∧ ∀ base, FnOk P w K mg base (CXZ P w) 8 (He.fAd K ("law", none)) fd ["_law_script"] (FP (S_law K)) := by
  obtain ⟨fd__law_bag, F__law_bag⟩ := c.def_ 0 (d := d__law_bag) rfl
  have D__law_bag : FO P w K mg 1 ("_law_bag", none) ["_law_script"] (S__law_bag K) := ok__law_bag T F__law_bag
  obtain ⟨fd__law_pull, F__law_pull⟩ := c.def_ 1 (d := d__law_pull) rfl
  have D__law_pull : FO P w K mg 1 ("_law_pull", none) ["_law_bag_here", "_law_many"] (S__law_pull K) := ok__law_pull T F__law_pull
  obtain ⟨fd__law_mixed, F__law_mixed⟩ := c.def_ 2 (d := d__law_mixed) rfl
  have D__law_mixed : FO P w K mg 2 ("_law_mixed", none) ["_law_bag_here", "_law_some"] (S__law_mixed K) := ok__law_mixed T F__law_mixed D__law_pull
  obtain ⟨fd__law_web, F__law_web⟩ := c.def_ 3 (d := d__law_web) rfl
  have D__law_web : FO P w K mg 3 ("_law_web", none) ["_law_bag_here", "_law_rooms_most", "_law_more_most"] (S__law_web K) := ok__law_web T F__law_web D__law_pull D__law_mixed
  obtain ⟨fd_is_within, F_is_within⟩ := c.def_ 4 (d := d_is_within) rfl
  have D_is_within : FO P w K mg 1 ("is_within", none) ["thing", "low", "high"] (S_is_within K) := ok_is_within T F_is_within
  obtain ⟨fd_is_listed, F_is_listed⟩ := c.def_ 5 (d := d_is_listed) rfl
  have D_is_listed : FO P w K mg 1 ("is_listed", none) ["thing"] (S_is_listed K) := ok_is_listed T F_is_listed
  obtain ⟨fd_is_pair, F_is_pair⟩ := c.def_ 6 (d := d_is_pair) rfl
  have D_is_pair : FO P w K mg 2 ("is_pair", none) ["thing", "rooms"] (S_is_pair K) := ok_is_pair T F_is_pair D_is_within D_is_listed
  obtain ⟨fd_Web___init__, F_Web___init__⟩ := c.def_ 7 (d := d_Web___init__) rfl
  have D_Web___init__ : FO P w K mg 3 ("Web", some "__init__") ["self", "rooms", "arrows"] (S_Web___init__ K) := ok_Web___init__ T F_Web___init__ D_is_within D_is_pair
  obtain ⟨fd_Web_arrows, F_Web_arrows⟩ := c.def_ 8 (d := d_Web_arrows) rfl
  have D_Web_arrows : FO P w K mg 1 ("Web", some "arrows") ["self"] (S_Web_arrows K) := ok_Web_arrows T F_Web_arrows
  obtain ⟨fd__law_same, F__law_same⟩ := c.def_ 9 (d := d__law_same) rfl
  have D__law_same : FO P w K mg 7 ("_law_same", none) ["_law_found", "_law_due"] (S__law_same K 6) := ok__law_same T F__law_same
  obtain ⟨fd_Web___len__, F_Web___len__⟩ := c.def_ 10 (d := d_Web___len__) rfl
  have D_Web___len__ : FO P w K mg 1 ("Web", some "__len__") ["self"] (S_Web___len__ K) := ok_Web___len__ T F_Web___len__
  obtain ⟨fd_Web_rooms, F_Web_rooms⟩ := c.def_ 11 (d := d_Web_rooms) rfl
  have D_Web_rooms : FO P w K mg 1 ("Web", some "rooms") ["self"] (S_Web_rooms K) := ok_Web_rooms T F_Web_rooms
  obtain ⟨fd_Web_need_room, F_Web_need_room⟩ := c.def_ 12 (d := d_Web_need_room) rfl
  have D_Web_need_room : FO P w K mg 2 ("Web", some "need_room") ["self", "room"] (S_Web_need_room K) := ok_Web_need_room T F_Web_need_room D_is_within
  obtain ⟨fd_Web_ins, F_Web_ins⟩ := c.def_ 13 (d := d_Web_ins) rfl
  have D_Web_ins : FO P w K mg 3 ("Web", some "ins") ["self", "room"] (S_Web_ins K) := ok_Web_ins T F_Web_ins D_Web_need_room
  obtain ⟨fd_Web_outs, F_Web_outs⟩ := c.def_ 14 (d := d_Web_outs) rfl
  have D_Web_outs : FO P w K mg 3 ("Web", some "outs") ["self", "room"] (S_Web_outs K) := ok_Web_outs T F_Web_outs D_Web_need_room
  obtain ⟨fd__law_ins, F__law_ins⟩ := c.def_ 15 (d := d__law_ins) rfl
  have D__law_ins : FO P w K mg 1 ("_law_ins", none) ["_law_w", "_law_room"] (S__law_ins K) := ok__law_ins T F__law_ins
  obtain ⟨fd__law_outs, F__law_outs⟩ := c.def_ 16 (d := d__law_outs) rfl
  have D__law_outs : FO P w K mg 1 ("_law_outs", none) ["_law_w", "_law_room"] (S__law_outs K) := ok__law_outs T F__law_outs
  obtain ⟨fd_Web_leading, F_Web_leading⟩ := c.def_ 17 (d := d_Web_leading) rfl
  have D_Web_leading : FO P w K mg 3 ("Web", some "leading") ["self", "one", "other"] (S_Web_leading K) := ok_Web_leading T F_Web_leading D_Web_need_room
  obtain ⟨fd__law_count, F__law_count⟩ := c.def_ 18 (d := d__law_count) rfl
  have D__law_count : FO P w K mg 1 ("_law_count", none) ["_law_w", "_law_one", "_law_other"] (S__law_count K) := ok__law_count T F__law_count
  obtain ⟨fd_Web_has_arrow, F_Web_has_arrow⟩ := c.def_ 19 (d := d_Web_has_arrow) rfl
  have D_Web_has_arrow : FO P w K mg 2 ("Web", some "has_arrow") ["self", "arrow"] (S_Web_has_arrow K) := ok_Web_has_arrow T F_Web_has_arrow D_is_within
  obtain ⟨fd_Web_end, F_Web_end⟩ := c.def_ 20 (d := d_Web_end) rfl
  have D_Web_end : FO P w K mg 3 ("Web", some "end") ["self", "arrow"] (S_Web_end K) := ok_Web_end T F_Web_end D_Web_has_arrow
  obtain ⟨fd_Web_begin, F_Web_begin⟩ := c.def_ 21 (d := d_Web_begin) rfl
  have D_Web_begin : FO P w K mg 3 ("Web", some "begin") ["self", "arrow"] (S_Web_begin K) := ok_Web_begin T F_Web_begin D_Web_has_arrow
  obtain ⟨fd__law_naming, F__law_naming⟩ := c.def_ 22 (d := d__law_naming) rfl
  have D__law_naming : FO P w K mg 3 ("_law_naming", none) ["_law_bag_here", "_law_w"] (S__law_naming K) := ok__law_naming T F__law_naming D__law_mixed
  obtain ⟨fd__law_named, F__law_named⟩ := c.def_ 23 (d := d__law_named) rfl
  have D__law_named : FO P w K mg 1 ("_law_named", none) ["_law_w", "_law_rooms", "_law_arrows"] (S__law_named K) := ok__law_named T F__law_named
  obtain ⟨fd_Web___eq__, F_Web___eq__⟩ := c.def_ 24 (d := d_Web___eq__) rfl
  have D_Web___eq__ : FO P w K mg 1 ("Web", some "__eq__") ["self", "other"] (S_Web___eq__ K) := ok_Web___eq__ T F_Web___eq__
  obtain ⟨fd__law_made, F__law_made⟩ := c.def_ 25 (d := d__law_made) rfl
  have D__law_made : FO P w K mg 5 ("_law_made", none) ["_law_w"] (S__law_made K) := ok__law_made T F__law_made D_Web___init__
  obtain ⟨fd_Web___repr__, F_Web___repr__⟩ := c.def_ 26 (d := d_Web___repr__) rfl
  have D_Web___repr__ : FO P w K mg 1 ("Web", some "__repr__") ["self"] (S_Web___repr__ K) := ok_Web___repr__ T F_Web___repr__
  obtain ⟨fd_law, F_law⟩ := c.def_ 27 (d := d_law) rfl
  have D_law := ok_law (P := P) (w := w) T F_law D__law_bag D__law_web D__law_pull D_Web___init__ D_Web_arrows D__law_same D_Web___len__ D_Web_rooms D_Web_ins D_Web_outs D__law_ins D__law_outs D_Web_leading D__law_count D_Web_end D_Web_begin D__law_naming D__law_named D_Web___eq__ D__law_made D_Web___repr__
  exact ⟨fd_law, F_law, D_law⟩
theorem plain : ∀ ns : List Int, ns.length ≤ 63 → ∃ as, sem_law [.dat (.scr ns)] = .v (.dat (.bl true)) as := by
  intro ns hns
  obtain ⟨r, as, e, rfl⟩ := Q.WF_get (Q.plain_k01 ns hns)
  exact ⟨as, e⟩
end Z
open PySem PySem.W PySem.Calls PyProof.Rows
theorem PySem.Challenge.cw_aheadfold_k01_webs_made_holds : PySem.Challenge.rw_aheadfold_k01_webs_made.Holds := by
  w_on; o_law
  refine HandSHeadRun.head_any (r := OpenLaw.row PySem.Challenge.rw_aheadfold_k01_webs_made) (q := view (OpenLaw.row PySem.Challenge.rw_aheadfold_k01_webs_made).prog [30]) (H := Z.hk) (ob := Z.ob) (M := 12000) (loose := Z.loose) (d := HandSHeadRun.topDef (OpenLaw.row PySem.Challenge.rw_aheadfold_k01_webs_made).prog 30) (kwd := []) Z.ob_eq
    (by kernel_rfl) (fun s => by kernel_rfl) Z.run (by kernel_rfl) (by kernel_rfl) (by kernel_rfl) (by rfl) (by first | assumption | decide +kernel) (by decide +kernel) ⟨rfl, rfl, rfl, rfl, rfl, by decide +kernel⟩ ?hw ?hc
  case hw => w_witness2
  case hc =>
    refine Z.walk_ofZ (l := PySem.Challenge.rw_aheadfold_k01_webs_made) (n := 63) (k := 8) (x := "_law_script") (CX := fun w => Z.CXZ PySem.Challenge.rw_aheadfold_k01_webs_made.prog w) rfl (by decide) (by kernel_rfl) ⟨by decide, by decide, by decide⟩ ?F (fun _ _ _ _ _ z => Z.noCX z)
    intro w mg fa h Y G hmg0
    obtain ⟨K, KX, c, e⟩ := Y
    have hmg : mg ("law" : PySem.Str) = some (.ref fa) := by
      have e : (HandSHeadRun.topDef (OpenLaw.row PySem.Challenge.rw_aheadfold_k01_webs_made).prog 30).name = ("law" : PySem.Str) := by kernel_rfl
      rw [← e]
      exact hmg0
    exact Z.at_law KX (Z.tx KX G c e) (He.glo_ok KX G (c.fact 47 (f := .glo "law") rfl)) hmg (Z.defs (Z.tx KX G c e) c) (fun F s u => L2.FunD.bindsA (ps := ["_law_script"]) F (fun _ _ _ _ _ _ us hl => match us, hl with | [_], _ => rfl) s [u] rfl) Z.plain
